import PyProof.Rows.All
import Wide.All
import OpenK.AllK
import Wide.FinOn
import HandS.ForMost
import HandS.Exc
import HandS.ExcOwn
import HandS.CallSlots
import HandS.IsInst
import HandS.Nested
import HandS.Defaults
import HandS.WordsExc
import HandS.Walk
import HandS.ClsMeth
import HandS.ExcInit
import HandS.ExcField
import KE.KExcIs
import HandS.Wide
import HandS.WideBits
import HandS.SortInts
import HandS.Lambda
import HandS.NestedK
import KE.KLam
import HandS.ExcValue
import HandS.DictEq
import PyProof.NeKinds
import HandS.Words
import HandS.HeadHook4
import HandS.EndTab
import HandS.HeadEnd
import PySem.Challenge.RW_trialdeal_k62_makers
import KE.KStateDown
import HandS.Head0
import HandS.Head1
import HandS.Head2
import HandS.HeadHook1
import HandS.HeadHook2
set_option Elab.async false
set_option linter.all false
set_option maxRecDepth 100000
set_option maxHeartbeats 1000000
/-! Pv0: data trees, what a value bears, the relation of a frame's data to its slots and heap. -/
namespace Pv
open PySem L2

/-- data: a value with all that it bears -/
inductive D where
  | non | bl (b : Bool) | int (i : Int) | str (x : Str)
  | tup (xs : List D) | lst (xs : List D) | arr (xs : List D) | dic (kvs : List (D × D))
  | ins (c : Nat) (fs : List (Nat × D))
  | clo (c : Nat) (xs : List D)
  deriving Inhabited

/-- a place at which a def or a lambda is made: its words, the names that it captures -/
structure Site where
  name : Str
  params : Arguments
  body : FuncBody
  scope : Scope
  caps : List Str
/-- a function object made in a def: its words, its cells, its code object; its body -/
abbrev fdOf (nf : NdefX.NF) (bd : FuncBody) (doc pm ctv : Value) : FuncData :=
  { name := nf.name, qualname := nf.qual, params := nf.params, body := bd, scope := nf.scope, globals := mainGlobals, closure := nf.cl, defaults := .none, kwdefaults := .none, doc, pyModule := pm, annotations := none, code := .ref nf.c, closureTuple := ctv, builtins := builtinsNs }
def FnOb (f : Addr) (nf : NdefX.NF) (bd : FuncBody) : HO := .ext fun h => ∃ (od : Option Addr) (sl : Array (Option Value)) (doc pm ctv : Value), h.get? f = some (⟨.type "function", od, .func (fdOf nf bd doc pm ctv), sl⟩ : Obj)
/-- the program's tables: its classes, its fields' names, the places of its inner defs -/
structure Tb where
  cl : List Addr
  nm : List Str
  fn : List Site
  nd : nm.Nodup
  tb : List NdefX.NTab

/-- at c: a cell that holds v -/
def CellO (c : Addr) (v : V) : HO := .ext fun h => ∃ u, h.IsCell c (some u) ∧ RelV v u

/-- without the cells of cl -/
noncomputable def hid (F : Hp) (cl : List (Str × Addr)) : Hp := fun a => open Classical in if ∃ y, cl.lookup y = some a then none else F a
theorem hid_out {F : Hp} {cl : List (Str × Addr)} {a : Addr} (h : ¬ ∃ y, cl.lookup y = some a) : hid F cl a = F a := by unfold hid; rw [if_neg h]
theorem hid_in {F : Hp} {cl : List (Str × Addr)} {a : Addr} {y : Str} (h : cl.lookup y = some a) : hid F cl a = none := by unfold hid; rw [if_pos ⟨y, h⟩]
theorem hid_some {F : Hp} {cl : List (Str × Addr)} {a : Addr} {o : HO} (h : hid F cl a = some o) : F a = some o ∧ ¬ ∃ y, cl.lookup y = some a := by
  unfold hid at h
  split at h
  · cases h
  · exact ⟨h, by assumption⟩
theorem hid_le {F F' : Hp} {cl : List (Str × Addr)} (h : Same F F') : Same (hid F cl) (hid F' cl) := fun a o e => by
  obtain ⟨h1, h2⟩ := hid_some e
  rw [hid_out h2]
  exact h _ _ h1

mutual
/-- the value bears the data, by what F tells (F never changes) -/
inductive DV (T : Tb) (K : PySem.W.Frag) : Hp → V → D → Prop
  | non {F : Hp} : DV T K F .non .non
  | bl {F : Hp} (b : Bool) : DV T K F (.bl b) (.bl b)
  | int {F : Hp} (i : Int) : DV T K F (.int i) (.int i)
  | str {F : Hp} (x : Str) : DV T K F (.str x) (.str x)
  | tup {F : Hp} {a : Addr} {vs : List V} {ds : List D} : SqT K F a vs → DVs T K F vs ds → DV T K F (.ref a) (.tup ds)
  | lst {F : Hp} {a : Addr} {vs : List V} {ds : List D} : F a = some (.lst vs) → DVs T K F vs ds → DV T K F (.ref a) (.lst ds)
  | arr {F : Hp} {a : Addr} {vs : List V} {ds : List D} : SqL K F a vs → DVs T K F vs ds → DV T K F (.ref a) (.arr ds)
  | ins {F : Hp} {a C dx : Addr} {c : Nat} {fvs : List (Str × V)} {fds : List (Nat × D)} : F a = some (.ins C dx fvs) → T.cl[c]? = some C → DFs T K F fvs fds → DV T K F (.ref a) (.ins c fds)
  | dic0 {F : Hp} {a : Addr} : F a = some (.dK []) → DV T K F (.ref a) (.dic [])
  | clo {F : Hp} {f : Addr} {nf : NdefX.NF} {c : Nat} {st : Site} {ds : List D} : F f = some (FnOb f nf st.body) → F nf.c = some (LamX.CodeO nf.c nf.qual) → T.fn[c]? = some st → nf.params = st.params → nf.scope = st.scope →
      (∀ y a, nf.cl.lookup y = some a → y ∈ st.caps) → (∀ x y a, nf.cl.lookup x = some a → nf.cl.lookup y = some a → x = y) → DCs T K F nf.cl (hid F nf.cl) st.caps ds → DV T K F (.ref f) (.clo c ds)
inductive DVs (T : Tb) (K : PySem.W.Frag) : Hp → List V → List D → Prop
  | nil {F : Hp} : DVs T K F [] []
  | cons {F : Hp} {v : V} {d : D} {vs : List V} {ds : List D} : DV T K F v d → DVs T K F vs ds → DVs T K F (v :: vs) (d :: ds)
inductive DFs (T : Tb) (K : PySem.W.Frag) : Hp → List (Str × V) → List (Nat × D) → Prop
  | nil {F : Hp} : DFs T K F [] []
  | cons {F : Hp} {n : Str} {m : Nat} {v : V} {d : D} {vs : List (Str × V)} {ds : List (Nat × D)} : T.nm[m]? = some n → DV T K F v d → DFs T K F vs ds → DFs T K F ((n, v) :: vs) ((m, d) :: ds)
/-- the captured cells (F) and what they hold (G: F without them) -/
inductive DCs (T : Tb) (K : PySem.W.Frag) : Hp → List (Str × Addr) → Hp → List Str → List D → Prop
  | nil {F G : Hp} {cl : List (Str × Addr)} : DCs T K F cl G [] []
  | cons {F G : Hp} {cl : List (Str × Addr)} {x : Str} {c : Addr} {v : V} {d : D} {xs : List Str} {ds : List D} : cl.lookup x = some c → F c = some (CellO c v) → DV T K G v d → DCs T K F cl G xs ds → DCs T K F cl G (x :: xs) (d :: ds)
end

section
variable {T : Tb} {K : PySem.W.Frag} {F F' : Hp}
theorem Rd.le {a : Addr} {u : HO} (e : Same F F') (h : Rd F a u) : Rd F' a u := by
  rcases h with h | ⟨o, h⟩
  · exact .inl (e _ _ h)
  · exact .inr ⟨o, e _ _ h⟩
theorem seqT {a : Addr} {xs : List V} (e : Same F F') (h : SqT K F a xs) : SqT K F' a xs := by
  rcases h with h | h
  · exact .inl (Rd.le e h)
  · exact .inr h
mutual
theorem DV.le : ∀ {F F' : Hp} {v : V} {d : D}, Same F F' → DV T K F v d → DV T K F' v d
  | _, _, _, _, e, .non => .non
  | _, _, _, _, e, .bl b => .bl b
  | _, _, _, _, e, .int i => .int i
  | _, _, _, _, e, .str x => .str x
  | _, _, _, _, e, .tup h t => .tup (seqT e h) (DVs.le e t)
  | _, _, _, _, e, .lst h t => .lst (e _ _ h) (DVs.le e t)
  | _, _, _, _, e, .arr h t => .arr (e.seq h) (DVs.le e t)
  | _, _, _, _, e, .ins h hc t => .ins (e _ _ h) hc (DFs.le e t)
  | _, _, _, _, e, .dic0 h => .dic0 (e _ _ h)
  | _, _, _, _, e, .clo h hk hc h1 h2 h3 h4 t => .clo (e _ _ h) (e _ _ hk) hc h1 h2 h3 h4 (DCs.le e (hid_le e) t)
theorem DVs.le : ∀ {F F' : Hp} {v : List V} {d : List D}, Same F F' → DVs T K F v d → DVs T K F' v d
  | _, _, _, _, e, .nil => .nil
  | _, _, _, _, e, .cons h t => .cons (DV.le e h) (DVs.le e t)
theorem DFs.le : ∀ {F F' : Hp} {v : List (Str × V)} {d : List (Nat × D)}, Same F F' → DFs T K F v d → DFs T K F' v d
  | _, _, _, _, e, .nil => .nil
  | _, _, _, _, e, .cons hn h t => .cons hn (DV.le e h) (DFs.le e t)
theorem DCs.le : ∀ {F F' G G' : Hp} {cl : List (Str × Addr)} {xs : List Str} {d : List D}, Same F F' → Same G G' → DCs T K F cl G xs d → DCs T K F' cl G' xs d
  | _, _, _, _, _, _, _, e, e2, .nil => .nil
  | _, _, _, _, _, _, _, e, e2, .cons hc hF h t => .cons hc (e _ _ hF) (DV.le e2 h) (DCs.le e e2 t)
end
theorem DVs.length : ∀ {v : List V} {d : List D}, DVs T K F v d → v.length = d.length
  | _, _, .nil => rfl
  | _, _, .cons _ t => by simp [DVs.length t]
theorem DVs.get : ∀ {v : List V} {d : List D} {i : Nat} {x : D}, DVs T K F v d → d[i]? = some x → ∃ y, v[i]? = some y ∧ DV T K F y x
  | _, _, _, _, .nil, h => by simp at h
  | _, _, 0, _, .cons h t, e => by simp at e; subst e; exact ⟨_, rfl, h⟩
  | _, _, i + 1, _, .cons h t, e => by
    obtain ⟨y, h1, h2⟩ := DVs.get (i := i) t (by simpa using e)
    exact ⟨y, by simpa using h1, h2⟩
theorem DVs.get' : ∀ {v : List V} {d : List D} {i : Nat} {y : V}, DVs T K F v d → v[i]? = some y → ∃ x, d[i]? = some x ∧ DV T K F y x
  | _, _, _, _, .nil, h => by simp at h
  | _, _, 0, _, .cons h t, e => by simp at e; subst e; exact ⟨_, rfl, h⟩
  | _, _, i + 1, _, .cons h t, e => by
    obtain ⟨y, h1, h2⟩ := DVs.get' (i := i) t (by simpa using e)
    exact ⟨y, by simpa using h1, h2⟩
theorem DVs.app : ∀ {v : List V} {d : List D} {v' : List V} {d' : List D}, DVs T K F v d → DVs T K F v' d' → DVs T K F (v ++ v') (d ++ d')
  | _, _, _, _, .nil, h => h
  | _, _, _, _, .cons h t, h' => .cons h (DVs.app t h')
theorem DVs.take : ∀ {v : List V} {d : List D} (n : Nat), DVs T K F v d → DVs T K F (v.take n) (d.take n)
  | _, _, 0, _ => .nil
  | _, _, _ + 1, .nil => .nil
  | _, _, n + 1, .cons h t => .cons h (DVs.take n t)
theorem DVs.drop : ∀ {v : List V} {d : List D} (n : Nat), DVs T K F v d → DVs T K F (v.drop n) (d.drop n)
  | _, _, 0, h => h
  | _, _, _ + 1, .nil => .nil
  | _, _, n + 1, .cons _ t => DVs.drop n t
theorem DVs.set : ∀ {v : List V} {d : List D} (i : Nat) {x : V} {y : D}, DVs T K F v d → DV T K F x y → DVs T K F (v.set i x) (d.set i y)
  | _, _, _, _, _, .nil, _ => .nil
  | _, _, 0, _, _, .cons _ t, h => .cons h t
  | _, _, i + 1, _, _, .cons h' t, h => .cons h' (DVs.set i t h)
theorem DVs.rev : ∀ {v : List V} {d : List D}, DVs T K F v d → DVs T K F v.reverse d.reverse
  | _, _, .nil => .nil
  | _, _, .cons h t => by
    rw [List.reverse_cons, List.reverse_cons]
    exact (DVs.rev t).app (.cons h .nil)
theorem DFs.get : ∀ {v : List (Str × V)} {d : List (Nat × D)} {m : Nat} {x : D} {n : Str}, DFs T K F v d → T.nm[m]? = some n → d.lookup m = some x → ∃ y, v.lookup n = some y ∧ DV T K F y x
  | _, _, _, _, _, .nil, _, h => by simp at h
  | _, _, m, x, n, .cons (n := n') (m := m') hn h t, hm, e => by
    rw [List.lookup_cons] at e
    by_cases q : m = m'
    · subst q
      rw [hn] at hm
      obtain rfl := Option.some.inj hm
      simp at e
      subst e
      exact ⟨_, by simp, h⟩
    · rw [show (m == m') = false from by simpa using q] at e
      obtain ⟨y, h1, h2⟩ := DFs.get t hm e
      refine ⟨y, ?_, h2⟩
      have qn : n ≠ n' := fun z => by
        subst z
        obtain ⟨a1, b1⟩ := List.getElem?_eq_some_iff.mp hm
        obtain ⟨a2, b2⟩ := List.getElem?_eq_some_iff.mp hn
        exact q ((List.getElem_inj T.nd).mp (b1.trans b2.symm))
      rw [List.lookup_cons, show (n == n') = false from by simpa using qn]
      exact h1
theorem DFs.none : ∀ {v : List (Str × V)} {d : List (Nat × D)} {n : Str}, DFs T K F v d → (∀ m, T.nm[m]? = some n → d.lookup m = Option.none) → v.lookup n = Option.none
  | _, _, _, .nil, _ => rfl
  | _, _, n, .cons (n := n') (m := m') hn h t, hm => by
    rw [List.lookup_cons]
    by_cases q : n = n'
    · subst q
      have z := hm m' hn
      simp at z
    · rw [show (n == n') = false from by simpa using q]
      refine DFs.none t fun m hm' => ?_
      have z := hm m hm'
      rw [List.lookup_cons] at z
      split at z
      · cases z
      · exact z
/-- a field put -/
def putD (m : Nat) (x : D) : List (Nat × D) → List (Nat × D)
  | [] => [(m, x)]
  | (k, y) :: r => if k = m then (k, x) :: r else (k, y) :: putD m x r
theorem DFs.put : ∀ {v : List (Str × V)} {d : List (Nat × D)} {m : Nat} {n : Str} {y : V} {x : D}, DFs T K F v d → T.nm[m]? = some n → DV T K F y x → DFs T K F (putF n y v) (putD m x d)
  | _, _, m, n, y, x, .nil, hm, h => .cons hm h .nil
  | _, _, m, n, y, x, .cons (n := n') (m := m') hn h' t, hm, h => by
    by_cases q : m' = m
    · subst q
      rw [hn] at hm
      obtain rfl := Option.some.inj hm
      unfold putF putD
      rw [if_pos rfl, if_pos rfl]
      exact .cons hn h t
    · have qn : n' ≠ n := fun z => by
        subst z
        obtain ⟨a1, b1⟩ := List.getElem?_eq_some_iff.mp hm
        obtain ⟨a2, b2⟩ := List.getElem?_eq_some_iff.mp hn
        exact q ((List.getElem_inj T.nd).mp (b2.trans b1.symm))
      unfold putF putD
      rw [if_neg qn, if_neg q]
      exact .cons hn h' (DFs.put t hm h)
theorem DFs.length : ∀ {v : List (Str × V)} {d : List (Nat × D)}, DFs T K F v d → v.length = d.length
  | _, _, .nil => rfl
  | _, _, .cons _ _ t => by simp [DFs.length t]

/-- an object bears the data -/
inductive CO (T : Tb) (K : PySem.W.Frag) (F : Hp) : HO → D → Prop
  | lst {vs : List V} {ds : List D} : DVs T K F vs ds → CO T K F (.lst vs) (.lst ds)
  | ins {C dx : Addr} {c : Nat} {fvs : List (Str × V)} {fds : List (Nat × D)} : T.cl[c]? = some C → DFs T K F fvs fds → CO T K F (.ins C dx fvs) (.ins c fds)
theorem CO.le (e : Same F F') : ∀ {o : HO} {d : D}, CO T K F o d → CO T K F' o d
  | _, _, .lst t => .lst (t.le e)
  | _, _, .ins h t => .ins h (t.le e)
theorem CO.dv {a : Addr} : ∀ {o : HO} {d : D}, F a = some o → CO T K F o d → DV T K F (.ref a) d
  | _, _, h, .lst t => .lst h t
  | _, _, h, .ins hc t => .ins h hc t
theorem CO.mut : ∀ {o : HO} {d : D}, CO T K F o d → Mut (some o)
  | _, _, .lst _ => trivial
  | _, _, .ins _ _ => trivial
end

/-! ### a frame's data -/
/-- a slot: nothing as yet; a value for good; an object that this frame alone may change; one that a caller may change behind -/
inductive Slot where
  | non | val (d : D) | own (d : D) | view (d : D)
  deriving Inhabited
abbrev SD := List Slot
/-- what is fixed through a def's body: its tables; the heap at its entry, what was frozen then, the slots and addresses of what it may change; what is wanted of an exception -/
structure Bd where
  T : Tb
  K : PySem.W.Frag
  H0 : Hp
  F0 : Hp
  mi : List Nat
  ma : List Addr
  pin : List (Nat × V)
  ex : WX
/-- the slots that nobody stores to -/
def Bd.lock (B : Bd) : List Nat := B.mi ++ B.pin.map (·.1)
theorem Bd.lock_mi {B : Bd} {i : Nat} (h : i ∉ B.lock) : i ∉ B.mi := fun m => h (List.mem_append_left _ m)
theorem Bd.lock_pin {B : Bd} {i : Nat} (h : i ∉ B.lock) : ∀ p ∈ B.pin, i ≠ p.1 := fun p hp e => h (List.mem_append_right _ (by rw [e]; exact List.mem_map_of_mem hp))

def SlotR (B : Bd) (F H : Hp) (v : Option (Option V)) : Slot → Prop
  | .non => True
  | .val d => ∃ x, v = some (some x) ∧ DV B.T B.K F x d
  | .own d => ∃ a o, v = some (some (.ref a)) ∧ F a = none ∧ (B.H0 a = none ∨ a ∈ B.ma) ∧ H a = some o ∧ CO B.T B.K F o d
  | .view d => ∃ a o, v = some (some (.ref a)) ∧ B.H0 a = some o ∧ a ∉ B.ma ∧ CO B.T B.K F o d

/-- the tables of code objects: what stays of them from H0 to H -/
structure TbR (T : Tb) (F H0 H : Hp) : Prop where
  tab : NdefX.TabsN T.tb H
  old : ∀ p ∈ T.tb, ∃ ps, H0 p.1 = some (.tbl ps)
  tl : ∀ a ps, H0 a = some (.tbl ps) → ∃ qs, H a = some (.tbl qs)
  cd : ∀ a c q, H a = some (LamX.CodeO c q) → F a = some (LamX.CodeO c q)
  nt : ∀ p ∈ T.tb, F p.1 = none
def NC (o : HO) : Prop := (∀ c q, o ≠ LamX.CodeO c q) ∧ ∀ ps, o ≠ .tbl ps
theorem nc_lst {xs : List V} : NC (.lst xs) := ⟨fun c q z => (by unfold LamX.CodeO at z; cases z), fun _ z => nomatch z⟩
theorem nc_tup {xs : List V} : NC (.tup xs) := ⟨fun c q z => (by unfold LamX.CodeO at z; cases z), fun _ z => nomatch z⟩
theorem nc_ins {C d : Addr} {xs : List (Str × V)} : NC (.ins C d xs) := ⟨fun c q z => (by unfold LamX.CodeO at z; cases z), fun _ z => nomatch z⟩
theorem nc_dK {xs : List (Key × V)} : NC (.dK xs) := ⟨fun c q z => (by unfold LamX.CodeO at z; cases z), fun _ z => nomatch z⟩
theorem nc_own {C : Addr} : NC (.own C) := ⟨fun c q z => (by unfold LamX.CodeO at z; cases z), fun _ z => nomatch z⟩
theorem nc_xd {xs : List (Str × V)} : NC (.xd xs) := ⟨fun c q z => (by unfold LamX.CodeO at z; cases z), fun _ z => nomatch z⟩
theorem TbR.grow {T : Tb} {F F' H0 H H' : Hp} (t : TbR T F H0 H) (h1 : Same F F') (h2 : Same H H') (h3 : ∀ a c q, H' a = some (LamX.CodeO c q) → H a = some (LamX.CodeO c q) ∨ F' a = some (LamX.CodeO c q)) (hn : ∀ a o, F' a = some o → F a = some o ∨ H0 a = none ∨ H a = none) : TbR T F' H0 H' := by
  refine ⟨t.tab.ext h2, t.old, fun a ps e => let ⟨qs, q⟩ := t.tl a ps e; ⟨qs, h2 _ _ q⟩, fun a c q e => (h3 a c q e).elim (fun z => h1 _ _ (t.cd a c q z)) id, fun p hp => ?_⟩
  cases e : F' p.1 with
  | none => rfl
  | some o =>
    rcases hn _ _ e with z | z | z
    · rw [t.nt p hp] at z; cases z
    · obtain ⟨ps, q⟩ := t.old p hp
      rw [z] at q; cases q
    · obtain ⟨ps, q, _⟩ := t.tab p hp
      rw [z] at q; cases q
theorem TbR.entry {T : Tb} {F H0 H : Hp} (t : TbR T F H0 H) : TbR T F H H := ⟨t.tab, fun p hp => let ⟨ps, h, _⟩ := t.tab p hp; ⟨ps, h⟩, fun a ps e => ⟨ps, e⟩, t.cd, t.nt⟩
theorem TbR.trans {T : Tb} {F F' H0 H H' : Hp} (t : TbR T F H0 H) (u : TbR T F' H H') : TbR T F' H0 H' := ⟨u.tab, t.old, fun a ps e => let ⟨qs, q⟩ := t.tl a ps e; u.tl a qs q, u.cd, u.nt⟩
theorem TbR.alloc {T : Tb} {F F' H0 H : Hp} {p : Addr} {o : HO} (t : TbR T F H0 H) (hp : H p = none) (hc : NC o ∧ F' = F ∨ F' = upd F p o) (hf : F p = none) : TbR T F' H0 (upd H p o) := by
  refine t.grow ?_ (fun b u q => by rw [upd_ne (ne_of_none q hp)]; exact q) (fun a c q e => ?_) fun a u e => ?_
  · rcases hc with ⟨_, e⟩ | e
    · subst e; exact Same.refl _
    · subst e; exact fun b u q => by rw [upd_ne (ne_of_none q hf)]; exact q
  · by_cases z : a = p
    · subst z
      rw [upd_same] at e
      rcases hc with hc | hc
      · exact (hc.1.1 c q (Option.some.inj e)).elim
      · subst hc; rw [upd_same]; exact .inr e
    · rw [upd_ne z] at e
      exact .inl e
  · rcases hc with ⟨_, z⟩ | z
    · subst z; exact .inl e
    · subst z
      by_cases z : a = p
      · subst z; exact .inr (.inr hp)
      · rw [upd_ne z] at e; exact .inl e
theorem TbR.turn {T : Tb} {F H0 H : Hp} {p : Addr} {o : HO} (t : TbR T F H0 H) (h : H0 p = none ∨ ∀ ps, H p ≠ some (.tbl ps)) (hf : F p = none) (hc : NC o) : TbR T F H0 (upd H p o) := by
  have np : ∀ a, (∃ ps, H0 a = some (.tbl ps)) → (∃ ps, H a = some (.tbl ps)) → a ≠ p := fun a ⟨ps, e⟩ ⟨qs, e'⟩ z => by
    subst z
    rcases h with h | h
    · rw [h] at e; cases e
    · exact h _ e'
  refine ⟨fun x hx => ?_, t.old, fun a ps e => ?_, fun a c q e => ?_, t.nt⟩
  · obtain ⟨ps, h1, h2, h3⟩ := t.tab x hx
    refine ⟨ps, by rw [upd_ne (np _ (t.old x hx) ⟨ps, h1⟩)]; exact h1, h2, fun pos cv hcv => ?_⟩
    obtain ⟨c, e1, e2⟩ := h3 pos cv hcv
    refine ⟨c, e1, ?_⟩
    rw [upd_ne (fun z => by subst z; rw [t.cd _ _ _ e2] at hf; cases hf)]
    exact e2
  · obtain ⟨qs, q⟩ := t.tl a ps e
    exact ⟨qs, by rw [upd_ne (np _ ⟨ps, e⟩ ⟨qs, q⟩)]; exact q⟩
  · by_cases z : a = p
    · subst z
      rw [upd_same] at e
      exact (hc.1 c q (Option.some.inj e)).elim
    · rw [upd_ne z] at e
      exact t.cd a c q e
theorem CO.nc {T : Tb} {K : PySem.W.Frag} {F : Hp} : ∀ {o : HO} {d : D}, CO T K F o d → NC o
  | _, _, .lst _ => nc_lst
  | _, _, .ins _ _ => nc_ins

structure Rel (B : Bd) (Pd : List (Addr × HO)) (F : Hp) (σ : St) (H : Hp) (sd : SD) : Prop where
  len : sd.length = σ.length
  frame : ∀ b o, B.H0 b = some o → b ∉ B.ma → (∀ ps, o ≠ .tbl ps) → H b = some o
  mm : ∀ a ∈ B.ma, ∃ o, H a = some o
  sub : Same F H
  f0 : Same B.F0 F
  new : ∀ a o, F a = some o → B.F0 a = some o ∨ B.H0 a = none
  slot : ∀ (i : Nat) (s : Slot), sd[i]? = some s → SlotR B F H σ[i]? s
  sep : ∀ (i j : Nat) (d e : D) (a : Addr), sd[i]? = some (.own d) → sd[j]? = some (.own e) → σ[i]? = some (some (.ref a)) → σ[j]? = some (some (.ref a)) → i = j
  pend : ∀ p ∈ Pd, H p.1 = some p.2 ∧ F p.1 = none ∧ B.H0 p.1 = none ∧ ∀ (i : Nat) (d : D), sd[i]? = some (.own d) → σ[i]? ≠ some (some (.ref p.1))
  pnd : (Pd.map (·.1)).Nodup
  muts : ∀ (k i : Nat) (a : Addr), B.mi[k]? = some i → B.ma[k]? = some a → σ[i]? = some (some (.ref a)) ∧ ∃ d, sd[i]? = some (.own d)
  mlen : B.mi.length = B.ma.length
  pins : ∀ p ∈ B.pin, σ[p.1]? = some (some p.2)
  tb : TbR B.T F B.H0 H
  ptb : ∀ p ∈ Pd, ∀ ps, p.2 ≠ .tbl ps

section
variable {B : Bd} {Pd : List (Addr × HO)} {F F' : Hp} {σ : St} {H H' : Hp} {sd : SD}
theorem Rel.h0 (R : Rel B Pd F σ H sd) {a : Addr} (h : H a = none) : B.H0 a = none := by
  cases e : B.H0 a with
  | none => rfl
  | some o =>
    by_cases m : a ∈ B.ma
    · obtain ⟨o', q⟩ := R.mm a m
      rw [h] at q; cases q
    · by_cases t : ∃ ps, o = .tbl ps
      · obtain ⟨ps, rfl⟩ := t
        obtain ⟨qs, q⟩ := R.tb.tl a ps e
        rw [h] at q; cases q
      · rw [R.frame a o e m fun ps z => t ⟨ps, z⟩] at h; cases h
theorem Rel.fnone (R : Rel B Pd F σ H sd) {a : Addr} (h : H a = none) : F a = none := R.sub.free h
theorem SlotR.le {v : Option (Option V)} {s : Slot} (e : Same F F') (hn : ∀ a d, v = some (some (.ref a)) → s = .own d → F' a = none) (hh : ∀ a o, H a = some o → (∃ d, s = .own d) → v = some (some (.ref a)) → (∀ ps, o ≠ .tbl ps) → H' a = some o) (h : SlotR B F H v s) : SlotR B F' H' v s := by
  cases s with
  | non => trivial
  | val d => obtain ⟨x, h1, h2⟩ := h; exact ⟨x, h1, h2.le e⟩
  | own d => obtain ⟨a, o, h1, h2, h3, h4, h5⟩ := h; exact ⟨a, o, h1, hn a d h1 rfl, h3, hh a o h4 ⟨d, rfl⟩ h1 h5.nc.2, h5.le e⟩
  | view d => obtain ⟨a, o, h1, h2, h3, h4⟩ := h; exact ⟨a, o, h1, h2, h3, h4.le e⟩
/-- the heap has grown by what is now frozen; tables may have grown -/
theorem Rel.grow' (R : Rel B Pd F σ H sd) (hF : Same F F') (hH : ∀ a o, H a = some o → (∀ ps, o ≠ .tbl ps) → H' a = some o) (sub : Same F' H') (new : ∀ a o, F' a = some o → F a = some o ∨ H a = none) (tb : TbR B.T F' B.H0 H') : Rel B Pd F' σ H' sd := by
  have nf : ∀ a o, H a = some o → F a = none → F' a = none := fun a o h1 h2 => by
    cases e : F' a with
    | none => rfl
    | some u => rcases new a u e with q | q
                · rw [h2] at q; cases q
                · rw [h1] at q; cases q
  refine ⟨R.len, fun b o h m n => hH b o (R.frame b o h m n) n, fun a m => ?_, sub, R.f0.trans hF, fun a o h => ?_, fun i s h => ?_, R.sep, fun p hp => ?_, R.pnd, R.muts, R.mlen, R.pins, tb, R.ptb⟩
  · obtain ⟨k, hk⟩ := List.mem_iff_getElem?.mp m
    have hk' : k < B.mi.length := by rw [R.mlen]; exact (List.getElem?_eq_some_iff.mp hk).1
    obtain ⟨g1, d, g2⟩ := R.muts k _ a (List.getElem?_eq_getElem hk') hk
    obtain ⟨a', o, q1, q2, q3, q4, q5⟩ := R.slot _ _ g2
    rw [g1] at q1
    obtain rfl : a = a' := by injection q1 with q1; injection q1 with q1; injection q1
    exact ⟨o, hH _ _ q4 q5.nc.2⟩
  · rcases new a o h with q | q
    · exact R.new a o q
    · exact .inr (R.h0 q)
  · refine (R.slot i s h).le hF (fun a d hv hs => ?_) (fun a o ha _ _ n => hH a o ha n)
    subst hs
    obtain ⟨a', o, h1, h2, h3, h4, h5⟩ := R.slot i _ h
    rw [hv] at h1
    obtain rfl : a = a' := by injection h1 with h1; injection h1 with h1; injection h1
    exact nf a o h4 h2
  · obtain ⟨h1, h2, h3, h4⟩ := R.pend p hp
    exact ⟨hH _ _ h1 (R.ptb p hp), nf _ _ h1 h2, h3, h4⟩
theorem Rel.grow (R : Rel B Pd F σ H sd) (hF : Same F F') (hH : Same H H') (sub : Same F' H') (new : ∀ a o, F' a = some o → F a = some o ∨ H a = none) (hc : ∀ a c q, H' a = some (LamX.CodeO c q) → H a = some (LamX.CodeO c q) ∨ F' a = some (LamX.CodeO c q)) : Rel B Pd F' σ H' sd :=
  R.grow' hF (fun a o h _ => hH a o h) sub new (R.tb.grow hF hH hc fun a o e => (new a o e).elim .inl fun z => .inr (.inr z))
theorem same_upd {a : Addr} {o : HO} (h : H a = none) : Same H (upd H a o) := fun b u q => by rw [upd_ne (ne_of_none q h)]; exact q
/-- a new object, frozen at once -/
theorem Rel.alloc (R : Rel B Pd F σ H sd) {p : Addr} (o : HO) (hp : H p = none) : Rel B Pd (upd F p o) σ (upd H p o) sd ∧ Same F (upd F p o) := by
  have hf := R.fnone hp
  refine ⟨R.grow (same_upd hf) (same_upd hp) (fun b u q => ?_) (fun b u q => ?_) (fun a c q e => ?_), same_upd hf⟩
  · by_cases e : b = p
    · subst e; rw [upd_same] at q ⊢; exact q
    · rw [upd_ne e] at q ⊢; exact R.sub b u q
  · by_cases e : b = p
    · subst e; exact .inr hp
    · rw [upd_ne e] at q; exact .inl q
  · by_cases z : a = p
    · subst z; rw [upd_same] at e ⊢; exact .inr e
    · rw [upd_ne z] at e; exact .inl e
/-- a new object, pending -/
theorem Rel.allocP (R : Rel B Pd F σ H sd) {p : Addr} (o : HO) (hp : H p = none) (hc : NC o) : Rel B ((p, o) :: Pd) F σ (upd H p o) sd := by
  have hs := same_upd (o := o) hp
  have hf := R.fnone hp
  have h0 := R.h0 hp
  have R' := R.grow (F' := F) (H' := upd H p o) (Same.refl F) hs (R.sub.trans hs) (fun a u q => .inl q) (fun a c q e => by
    by_cases z : a = p
    · subst z; rw [upd_same] at e; exact (hc.1 c q (Option.some.inj e)).elim
    · rw [upd_ne z] at e; exact .inl e)
  refine { R' with pend := fun q hq => ?_, pnd := ?_, ptb := fun q hq => (List.mem_cons.mp hq).elim (fun z => z ▸ hc.2) (R.ptb q) }
  · rcases List.mem_cons.mp hq with e | hq
    · subst e
      refine ⟨upd_same, hf, h0, fun i d h e => ?_⟩
      obtain ⟨a, u, h1, _, _, h4, _⟩ := R.slot i _ h
      rw [e] at h1
      obtain rfl : p = a := by injection h1 with h1; injection h1 with h1; injection h1
      rw [hp] at h4; cases h4
    · exact R'.pend q hq
  · rw [List.map_cons]
    refine List.nodup_cons.mpr ⟨fun m => ?_, R.pnd⟩
    obtain ⟨q, hq, e⟩ := List.mem_map.mp m
    have := (R.pend q hq).1
    rw [e, hp] at this; cases this
/-- what is pending is frozen -/
theorem Rel.freeze {p : Addr} {o : HO} (R : Rel B ((p, o) :: Pd) F σ H sd) : Rel B Pd (upd F p o) σ H sd ∧ Same F (upd F p o) := by
  obtain ⟨h1, h2, h3, h4⟩ := R.pend _ List.mem_cons_self
  have hs : Same F (upd F p o) := same_upd h2
  have nd := List.nodup_cons.mp (show (p :: Pd.map (·.1)).Nodup from R.pnd)
  refine ⟨⟨R.len, R.frame, R.mm, fun b u q => ?_, R.f0.trans hs, fun a u q => ?_, fun i s h => ?_, R.sep, fun q hq => ?_, nd.2, R.muts, R.mlen, R.pins, R.tb.grow hs (Same.refl H) (fun a c q e => .inl e) (fun a u e => if z : a = p then .inr (.inl (z ▸ h3)) else .inl (by rw [upd_ne z] at e; exact e)), fun q hq => R.ptb q (List.mem_cons_of_mem _ hq)⟩, hs⟩
  · by_cases e : b = p
    · subst e; rw [upd_same] at q; cases q; exact h1
    · rw [upd_ne e] at q; exact R.sub b u q
  · by_cases e : a = p
    · subst e; exact .inr h3
    · rw [upd_ne e] at q; exact R.new a u q
  · refine (R.slot i s h).le hs (fun a d hv e => ?_) (fun a o ha _ _ _ => ha)
    subst e
    obtain ⟨a', _, g1, g2, _⟩ := R.slot i _ h
    rw [hv] at g1
    obtain rfl : a = a' := by injection g1 with g1; injection g1 with g1; injection g1
    rw [upd_ne (fun z => h4 i d h (by rw [hv, z]))]
    exact g2
  · obtain ⟨g1, g2, g3, g4⟩ := R.pend q (List.mem_cons_of_mem _ hq)
    exact ⟨g1, by rw [upd_ne (fun z => nd.1 (by rw [← z]; exact List.mem_map_of_mem hq))]; exact g2, g3, g4⟩
/-- what is pending turns -/
theorem Rel.turnP {p : Addr} {o o' : HO} (R : Rel B ((p, o) :: Pd) F σ H sd) (hc : NC o') : Rel B ((p, o') :: Pd) F σ (upd H p o') sd := by
  obtain ⟨h1, h2, h3, h4⟩ := R.pend _ List.mem_cons_self
  have nd := List.nodup_cons.mp (show (p :: Pd.map (·.1)).Nodup from R.pnd)
  have ne : ∀ b u, F b = some u → b ≠ p := fun b u q z => by subst z; rw [h2] at q; cases q
  refine ⟨R.len, fun b u q m n => ?_, fun a m => ?_, fun b u q => by rw [upd_ne (ne b u q)]; exact R.sub b u q, R.f0, R.new, fun i s h => ?_, R.sep, fun q hq => ?_, R.pnd, R.muts, R.mlen, R.pins, R.tb.turn (.inl h3) h2 hc, fun q hq => (List.mem_cons.mp hq).elim (fun z => z ▸ hc.2) fun z => R.ptb q (List.mem_cons_of_mem _ z)⟩
  · rw [upd_ne (fun z => by subst z; rw [h3] at q; cases q)]; exact R.frame b u q m n
  · by_cases e : a = p
    · subst e; exact ⟨_, upd_same⟩
    · rw [upd_ne e]; exact R.mm a m
  · refine (R.slot i s h).le (Same.refl F) (fun a d hv e => ?_) (fun a u ha e hv _ => ?_)
    · subst e
      obtain ⟨a', _, g1, g2, _⟩ := R.slot i _ h
      rw [hv] at g1
      obtain rfl : a = a' := by injection g1 with g1; injection g1 with g1; injection g1
      exact g2
    · obtain ⟨d, rfl⟩ := e
      rw [upd_ne (fun z => h4 i d h (by rw [hv, z]))]
      exact ha
  · rcases List.mem_cons.mp hq with e | hq
    · subst e; exact ⟨upd_same, h2, h3, h4⟩
    · obtain ⟨g1, g2, g3, g4⟩ := R.pend q (List.mem_cons_of_mem _ hq)
      exact ⟨by rw [upd_ne (fun z => nd.1 (by rw [← z]; exact List.mem_map_of_mem hq))]; exact g1, g2, g3, g4⟩
end
end Pv

set_option Elab.async false
set_option linter.all false
set_option maxRecDepth 100000
set_option maxHeartbeats 1000000
/-! Pv1: what comes of an expression; names, constants, operators, comparisons, displays. -/
namespace Pv
open PySem L2

/-- what comes of a piece of code: a result and the frame's data behind it; an exception, its class and fields; nothing is said -/
inductive Out (α : Type) where
  | ok (a : α) (s : SD) | exc (c : Nat) (fs : List (Nat × D)) (s : SD) | stuck
@[simp] def Out.bind {α β : Type} : Out α → (α → SD → Out β) → Out β
  | .ok a s, k => k a s
  | .exc c fs s, _ => .exc c fs s
  | .stuck, _ => .stuck
abbrev EM := SD → Out D
abbrev LM := SD → Out (List D)

def PostX (B : Bd) (F : Hp) (c : Nat) (fs : List (Nat × D)) (sd : SD) : Prop :=
  ∀ (C dx : Addr) (fvs : List (Str × V)) (σ : St) (F' H' : Hp), B.T.cl[c]? = some C → Same F F' → Rel B [] F' σ H' sd → F' dx = some (.xd fvs) → DFs B.T B.K F' fvs fs → B.ex (.ref C) (some dx) σ H'
def PostE (B : Bd) (Pd : List (Addr × HO)) (F : Hp) (σ : St) (Q : VK) : Out D → Prop
  | .ok d sd => ∀ (v : V) (F' H' : Hp), Same F F' → Rel B Pd F' σ H' sd → DV B.T B.K F' v d → Q v H'
  | .exc c fs sd => PostX B F c fs sd
  | .stuck => False
def PostL (B : Bd) (Pd : List (Addr × HO)) (F : Hp) (σ : St) (Q : List V → Hp → Prop) : Out (List D) → Prop
  | .ok d sd => ∀ (v : List V) (F' H' : Hp), Same F F' → Rel B Pd F' σ H' sd → DVs B.T B.K F' v d → Q v H'
  | .exc c fs sd => PostX B F c fs sd
  | .stuck => False
def PostT (B : Bd) (Pd : List (Addr × HO)) (F : Hp) (σ : St) (Q : Bool → Hp → Prop) : Out Bool → Prop
  | .ok d sd => ∀ (F' H' : Hp), Same F F' → Rel B Pd F' σ H' sd → Q d H'
  | .exc c fs sd => PostX B F c fs sd
  | .stuck => False
/-- as a new object of the frame's own: pending -/
def PostO (B : Bd) (Pd : List (Addr × HO)) (F : Hp) (σ : St) (Q : VK) : Out D → Prop
  | .ok d sd => ∀ (a : Addr) (o : HO) (F' H' : Hp), Same F F' → Rel B ((a, o) :: Pd) F' σ H' sd → CO B.T B.K F' o d → Q (.ref a) H'
  | .exc c fs sd => PostX B F c fs sd
  | .stuck => False
def tE (B : Bd) (f : EM) : TE := fun σ H Q => ∃ Pd F sd, Rel B Pd F σ H sd ∧ PostE B Pd F σ Q (f sd)
def tO (B : Bd) (f : EM) : TE := fun σ H Q => ∃ Pd F sd, Rel B Pd F σ H sd ∧ PostO B Pd F σ Q (f sd)
def tL (B : Bd) (f : LM) : TA := fun σ H Q => ∃ Pd F sd, Rel B Pd F σ H sd ∧ PostL B Pd F σ Q (f sd)
def tT (B : Bd) (f : SD → Out Bool) : L2.TT := fun σ H Q => ∃ Pd F sd, Rel B Pd F σ H sd ∧ PostT B Pd F σ Q (f sd)
def EV (B : Bd) (X : Cx) (e : Expr) (f : EM) : Prop := B.K = X.K → PE X e (tE B f)
/-- .. whose value is new -/
def EO (B : Bd) (X : Cx) (e : Expr) (f : EM) : Prop := B.K = X.K → PE X e (tO B f)
def EL (B : Bd) (X : Cx) (es : List Expr) (f : LM) : Prop := B.K = X.K → PA X es (tL B f)
def ET (B : Bd) (X : Cx) (e : Expr) (f : SD → Out Bool) : Prop := B.K = X.K → PT X e (tT B f)

theorem _root_.L2.PE.imp {X : Cx} {e : Expr} {t t' : TE} (h : PE X e t) (i : ∀ σ H Q, t' σ H Q → t σ H Q) : PE X e t' := ⟨fun pins s σ H Q I q => h.run pins s σ H Q I (i _ _ _ q)⟩
theorem _root_.L2.PT.imp {X : Cx} {e : Expr} {t t' : L2.TT} (h : PT X e t) (i : ∀ σ H Q, t' σ H Q → t σ H Q) : PT X e t' := ⟨fun pins s σ H Q I q => h.run pins s σ H Q I (i _ _ _ q)⟩
theorem _root_.L2.PA.imp {X : Cx} {e : List Expr} {t t' : TA} (h : PA X e t) (i : ∀ σ H Q, t' σ H Q → t σ H Q) : PA X e t' := ⟨fun pos pins s σ H Q I q => h.run pos pins s σ H Q I (i _ _ _ q)⟩

section
variable {B : Bd} {Pd : List (Addr × HO)} {F F' : Hp} {σ : St} {H H' : Hp} {sd : SD} {X : Cx}
theorem PostX.le {c : Nat} {fs : List (Nat × D)} (e : Same F F') (h : PostX B F c fs sd) : PostX B F' c fs sd := fun C dx fvs σ F2 H2 hc s => h C dx fvs σ F2 H2 hc (e.trans s)
theorem PostE.le {Q : VK} (e : Same F F') : ∀ {o : Out D}, PostE B Pd F σ Q o → PostE B Pd F' σ Q o
  | .ok _ _, h => fun v F2 H2 s => h v F2 H2 (e.trans s)
  | .exc _ _ _, h => PostX.le e h
  | .stuck, h => h
theorem PostL.le {Q : List V → Hp → Prop} (e : Same F F') : ∀ {o : Out (List D)}, PostL B Pd F σ Q o → PostL B Pd F' σ Q o
  | .ok _ _, h => fun v F2 H2 s => h v F2 H2 (e.trans s)
  | .exc _ _ _, h => PostX.le e h
  | .stuck, h => h
theorem PostT.le {Q : Bool → Hp → Prop} (e : Same F F') : ∀ {o : Out Bool}, PostT B Pd F σ Q o → PostT B Pd F' σ Q o
  | .ok _ _, h => fun F2 H2 s => h F2 H2 (e.trans s)
  | .exc _ _ _, h => PostX.le e h
  | .stuck, h => h
theorem PostO.le {Q : VK} (e : Same F F') : ∀ {o : Out D}, PostO B Pd F σ Q o → PostO B Pd F' σ Q o
  | .ok _ _, h => fun v u F2 H2 s => h v u F2 H2 (e.trans s)
  | .exc _ _ _, h => PostX.le e h
  | .stuck, h => h
/-- first f, then what its result is asked for -/
theorem tE.then {f : EM} {α : Type} {k : D → SD → Out α} {Q : VK} {R : Hp → Out α → Prop} (Rl : Rel B Pd F σ H sd) (hx : ∀ F' c fs s, R F' (.exc c fs s) → PostX B F' c fs s) (hs : ∀ F', R F' .stuck → False) (hle : ∀ F' o, Same F F' → R F o → R F' o)
    (h : R F ((f sd).bind k)) (hq : ∀ v d F1 H1 sd1, Same F F1 → Rel B Pd F1 σ H1 sd1 → DV B.T B.K F1 v d → R F1 (k d sd1) → Q v H1) : tE B f σ H Q := by
  refine ⟨Pd, F, sd, Rl, ?_⟩
  cases e : f sd with
  | ok d sd1 =>
    rw [e] at h
    intro v F1 H1 s R1 dv
    exact hq v d F1 H1 sd1 s R1 dv (hle _ _ s h)
  | exc c fs s => rw [e] at h; exact hx _ _ _ _ h
  | stuck => rw [e] at h; exact hs _ h
theorem tE.thenE {f : EM} {k : D → SD → Out D} {Q Q' : VK} (Rl : Rel B Pd F σ H sd) (h : PostE B Pd F σ Q' ((f sd).bind k))
    (hq : ∀ v d F1 H1 sd1, Same F F1 → Rel B Pd F1 σ H1 sd1 → DV B.T B.K F1 v d → PostE B Pd F1 σ Q' (k d sd1) → Q v H1) : tE B f σ H Q :=
  tE.then (R := fun F' o => PostE B Pd F' σ Q' o) Rl (fun _ _ _ _ h => h) (fun _ h => h) (fun _ _ e h => h.le e) h hq

/-- a new object is frozen -/
theorem EV.ofNew {e : Expr} {f : EM} (h : EO B X e f) : EV B X e f := fun hk => (h hk).imp fun σ H Q ⟨Pd, F, sd, R, p⟩ => ⟨Pd, F, sd, R, by
  cases q : f sd with
  | ok d sd1 =>
    rw [q] at p
    intro a o F1 H1 s R1 co
    obtain ⟨R2, s2⟩ := R1.freeze
    exact p (.ref a) _ _ (s.trans s2) R2 ((co.le s2).dv upd_same)
  | exc c fs s => rw [q] at p; exact p
  | stuck => rw [q] at p; exact p⟩

/-! ### constants, names -/
theorem ev_int {i : Int} {j : Nat} {pos : Pos} : EV B X (.Constant (.int i) j pos) (fun s => .ok (.int i) s) := fun _ => pe_int.imp fun _ _ _ ⟨_, F, _, R, p⟩ => p _ _ _ (Same.refl F) R (.int i)
theorem ev_bl {i : Bool} {j : Nat} {pos : Pos} : EV B X (.Constant (.bool i) j pos) (fun s => .ok (.bl i) s) := fun _ => pe_bl.imp fun _ _ _ ⟨_, F, _, R, p⟩ => p _ _ _ (Same.refl F) R (.bl i)
theorem ev_non {j : Nat} {pos : Pos} : EV B X (.Constant .none j pos) (fun s => .ok .non s) := fun _ => pe_non.imp fun _ _ _ ⟨_, F, _, R, p⟩ => p _ _ _ (Same.refl F) R .non
theorem ev_str {x : Str} {j : Nat} {pos : Pos} : EV B X (.Constant (.str x) j pos) (fun s => .ok (.str x) s) := fun _ => pe_str.imp fun _ _ _ ⟨_, F, _, R, p⟩ => p _ _ _ (Same.refl F) R (.str x)

/-- a name that is read for good: what the frame owns is frozen -/
def getS (i : Nat) (s : SD) : Out D := match s[i]? with
  | some (.val d) => .ok d s
  | some (.own d) => .ok d (s.set i (.val d))
  | _ => .stuck
theorem set_get {α : Type} {l : List α} {i j : Nat} {x y : α} (h : (l.set i x)[j]? = some y) : (i = j ∧ y = x ∧ i < l.length) ∨ (i ≠ j ∧ l[j]? = some y) := by
  by_cases e : i = j
  · subst e
    by_cases hl : i < l.length
    · rw [List.getElem?_set_self hl] at h
      exact .inl ⟨rfl, (Option.some.inj h).symm, hl⟩
    · rw [List.getElem?_eq_none (by simpa using hl)] at h; cases h
  · rw [List.getElem?_set_ne e] at h
    exact .inr ⟨e, h⟩
/-- what a frame owns is frozen -/
theorem Rel.freezeS {i : Nat} {d : D} (R : Rel B Pd F σ H sd) (h : sd[i]? = some (.own d)) (hl : i ∉ B.lock) :
    ∃ a o, σ[i]? = some (some (.ref a)) ∧ H a = some o ∧ CO B.T B.K F o d ∧ Rel B Pd (upd F a o) σ H (sd.set i (.val d)) ∧ Same F (upd F a o) := by
  have hm := Bd.lock_mi hl
  obtain ⟨a, o, h1, h2, h3, h4, h5⟩ := R.slot i _ h
  have hs : Same F (upd F a o) := same_upd h2
  have nma : a ∉ B.ma := fun m => by
    obtain ⟨k, hk⟩ := List.mem_iff_getElem?.mp m
    have hk' : k < B.mi.length := by rw [R.mlen]; exact (List.getElem?_eq_some_iff.mp hk).1
    obtain ⟨g1, e, g2⟩ := R.muts k _ a (List.getElem?_eq_getElem hk') hk
    have := R.sep _ _ _ _ _ h g2 h1 g1
    exact hm (by rw [this]; exact List.getElem_mem hk')
  have h0 : B.H0 a = none := h3.elim id (fun m => absurd m nma)
  refine ⟨a, o, h1, h4, h5, ⟨by rw [List.length_set]; exact R.len, R.frame, R.mm, fun b u q => ?_, R.f0.trans hs, fun b u q => ?_, fun j s q => ?_, fun j k e1 e2 b q1 q2 => ?_, fun p hp => ?_, R.pnd, fun k j b q1 q2 => ?_, R.mlen, R.pins, R.tb.grow hs (Same.refl H) (fun a c q e => .inl e) (fun b u e => if z : b = a then .inr (.inl (z ▸ h0)) else .inl (by rw [upd_ne z] at e; exact e)), R.ptb⟩, hs⟩
  · by_cases e : b = a
    · subst e; rw [upd_same] at q; cases q; exact h4
    · rw [upd_ne e] at q; exact R.sub b u q
  · by_cases e : b = a
    · subst e; exact .inr h0
    · rw [upd_ne e] at q; exact R.new b u q
  · rcases set_get q with ⟨rfl, rfl, _⟩ | ⟨ne, q⟩
    · exact ⟨.ref a, h1, (h5.le hs).dv upd_same⟩
    · refine (R.slot j s q).le hs (fun b e hv es => ?_) (fun b u hb _ _ _ => hb)
      subst es
      obtain ⟨b', _, g1, g2, _⟩ := R.slot j _ q
      rw [hv] at g1
      obtain rfl : b = b' := by injection g1 with g1; injection g1 with g1; injection g1
      rw [upd_ne (fun z => by subst z; exact ne (R.sep _ _ _ _ _ h q h1 hv))]
      exact g2
  · rcases set_get q1 with ⟨_, z, _⟩ | ⟨_, q1⟩
    · cases z
    · rcases set_get q2 with ⟨_, z, _⟩ | ⟨_, q2⟩
      · cases z
      · exact R.sep _ _ _ _ _ q1 q2
  · obtain ⟨g1, g2, g3, g4⟩ := R.pend p hp
    refine ⟨g1, ?_, g3, fun j e q => ?_⟩
    · rw [upd_ne (fun z => g4 i d h (by rw [h1, z]))]; exact g2
    · rcases set_get q with ⟨_, z, _⟩ | ⟨_, q⟩
      · cases z
      · exact g4 j e q
  · obtain ⟨g1, e, g2⟩ := R.muts k j b q1 q2
    refine ⟨g1, e, ?_⟩
    rw [List.getElem?_set_ne (fun z => hm (by rw [z]; exact List.mem_of_getElem? q1))]
    exact g2
theorem ev_var {i : Nat} {x : Str} {pos : Pos} (hN : X.N[i]? = some x) (hv : Vis X.env.scope x) (hm : i ∉ B.lock) (hd : (x == ("__debug__" : Str)) = false) (hcd : (x == ("__classdict__" : Str)) = false) : EV B X (.Name x pos) (getS i) := fun _ =>
  (pe_var hN hv hd hcd).imp fun σ H Q ⟨Pd, F, sd, R, p⟩ => by
    unfold getS at p
    cases e : sd[i]? with
    | none => rw [e] at p; exact p.elim
    | some s =>
      rw [e] at p
      cases s with
      | non => exact p.elim
      | view d => exact p.elim
      | val d =>
        obtain ⟨v, h1, h2⟩ := R.slot i _ e
        exact ⟨v, h1, p v F H (Same.refl F) R h2⟩
      | own d =>
        obtain ⟨a, o, h1, _, h5, R', hs⟩ := R.freezeS e hm
        exact ⟨.ref a, h1, p (.ref a) _ H hs R' ((h5.le hs).dv upd_same)⟩
/-- a constant of the module -/
theorem ev_glob {x : Str} {v : V} {u : Value} {d : D} {pos : Pos} (hg : Gl X x) (hm : X.mg x = some u) (r : RelV v u) (dv : ∀ F, DV B.T B.K F v d) (hd : (x == ("__debug__" : Str)) = false) : EV B X (.Name x pos) (fun s => .ok d s) := fun _ =>
  (pe_glob hg hm r hd).imp fun _ _ _ ⟨_, F, _, R, p⟩ => p _ _ _ (Same.refl F) R (dv F)

/-! ### operators by values -/
/-- what an operator asks of two values that bear data, and gives -/
def r2D (B : Bd) (g : D → D → Option D) : R2 := fun x y H Q => ∃ Pd F σ sd d e z, Rel B Pd F σ H sd ∧ DV B.T B.K F x d ∧ DV B.T B.K F y e ∧ g d e = some z ∧
  ∀ (v : V) (F' H' : Hp), Same F F' → Rel B Pd F' σ H' sd → DV B.T B.K F' v z → Q v H'
def OpV (B : Bd) (X : Cx) (f : Value → Value → Sem Value) (g : D → D → Option D) : Prop := B.K = X.K → OpR X f (r2D B g)
def lift (o : Option D) (s : SD) : Out D := match o with
  | some d => .ok d s
  | none => .stuck
@[simp] theorem lift_some {d : D} {s : SD} : lift (some d) s = .ok d s := rfl
@[simp] theorem lift_none {s : SD} : lift none s = .stuck := rfl
def binM (g : D → D → Option D) (f f' : EM) : EM := fun s => (f s).bind fun d s1 => (f' s1).bind fun e s2 => lift (g d e) s2
theorem op_imp {g : D → D → Option D} {f f' : EM} {Q : VK} (h : tE B (binM g f f') σ H Q) : tOp (r2D B g) (tE B f) (tE B f') σ H Q := by
  obtain ⟨Pd, F, sd, R, p⟩ := h
  refine tE.thenE R p fun v d F1 H1 sd1 s1 R1 dv p1 => ?_
  refine tE.thenE R1 p1 fun v2 d2 F2 H2 sd2 s2 R2 dv2 p2 => ?_
  cases e : g d d2 with
  | none => rw [e] at p2; exact p2.elim
  | some z =>
    rw [e] at p2
    exact ⟨Pd, F2, σ, sd2, d, d2, z, R2, dv.le s2, dv2, e, p2⟩
theorem ev_op {op : Operator} {g : D → D → Option D} {a b : Expr} {f f' : EM} {pos : Pos} (ho : OpV B X (binaryOp op) g) (ha : EV B X a f) (hb : EV B X b f') : EV B X (.BinOp a op b pos) (binM g f f') := fun hk =>
  (pe_op (ho hk) (ha hk) (hb hk)).imp fun _ _ _ h => op_imp h
theorem ev_cmp {op : CmpOp} {g : D → D → Option D} {a b : Expr} {f f' : EM} {pos : Pos} (ho : OpV B X (compareOp op) g) (ha : EV B X a f) (hb : EV B X b f') (hm : behindInMarks op b = false) : EV B X (.Compare a [op] [b] pos) (binM g f f') := fun hk =>
  (pe_cmpR (ho hk) (ha hk) (hb hk) hm).imp fun _ _ _ h => op_imp h
theorem _root_.L2.OpR.imp {f : Value → Value → Sem Value} {r r' : R2} (h : OpR X f r) (i : ∀ x y H Q, r' x y H Q → r x y H Q) : OpR X f r' := fun pins s σ H x y v u Q I rx ry q => h pins s σ H x y v u Q I rx ry (i _ _ _ _ q)

theorem DV.int_inv {T : Tb} {K : PySem.W.Frag} {v : V} {i : Int} (h : DV T K F v (.int i)) : v = .int i := by cases h; rfl
theorem DV.bl_inv {T : Tb} {K : PySem.W.Frag} {v : V} {i : Bool} (h : DV T K F v (.bl i)) : v = .bl i := by cases h; rfl
theorem DV.str_inv {T : Tb} {K : PySem.W.Frag} {v : V} {i : Str} (h : DV T K F v (.str i)) : v = .str i := by cases h; rfl
theorem DV.lst_inv {T : Tb} {K : PySem.W.Frag} {v : V} {ds : List D} (h : DV T K F v (.lst ds)) : ∃ a vs, v = .ref a ∧ F a = some (.lst vs) ∧ DVs T K F vs ds := by cases h with | lst h t => exact ⟨_, _, rfl, h, t⟩
theorem DV.tup_inv {T : Tb} {K : PySem.W.Frag} {v : V} {ds : List D} (h : DV T K F v (.tup ds)) : ∃ a vs, v = .ref a ∧ SqT K F a vs ∧ DVs T K F vs ds := by cases h with | tup h t => exact ⟨_, _, rfl, h, t⟩

/-- ints alone -/
def gI (C : Int → Int → Bool) (h : Int → Int → D) : D → D → Option D
  | .int i, .int j => if C i j then some (h i j) else none
  | _, _ => none
@[simp] theorem gI_int {C : Int → Int → Bool} {h : Int → Int → D} {i j : Int} : gI C h (.int i) (.int j) = if C i j then some (h i j) else none := rfl
theorem gI_inv {C : Int → Int → Bool} {h : Int → Int → D} {d e z : D} (q : gI C h d e = some z) : ∃ i j, d = .int i ∧ e = .int j ∧ C i j = true ∧ z = h i j := by
  unfold gI at q
  split at q
  · split at q
    · exact ⟨_, _, rfl, rfl, by assumption, (Option.some.inj q).symm⟩
    · cases q
  · cases q
theorem opv_I {f : Value → Value → Sem Value} {C : Int → Int → Bool} {P : Int → Int → Prop} {h : Int → Int → D} {hv : Int → Int → V} (ho : OpR X f (rI P hv)) (hP : ∀ i j, C i j = true → P i j) (hh : ∀ i j F, DV B.T B.K F (hv i j) (h i j)) : OpV B X f (gI C h) := fun _ =>
  OpR.imp ho fun x y H Q ⟨Pd, F, σ, sd, d, e, z, R, d1, d2, g, q⟩ => by
    obtain ⟨i, j, rfl, rfl, c, rfl⟩ := gI_inv g
    exact ⟨i, j, d1.int_inv, d2.int_inv, hP _ _ c, q _ _ _ (Same.refl F) R (hh _ _ _)⟩
theorem opv_I0 {f : Value → Value → Sem Value} {h : Int → Int → D} {hv : Int → Int → V} (ho : OpR X f (rI0 hv)) (hh : ∀ i j F, DV B.T B.K F (hv i j) (h i j)) : OpV B X f (gI (fun _ _ => true) h) := fun _ =>
  OpR.imp ho fun x y H Q ⟨Pd, F, σ, sd, d, e, z, R, d1, d2, g, q⟩ => by
    obtain ⟨i, j, rfl, rfl, c, rfl⟩ := gI_inv g
    exact ⟨i, j, d1.int_inv, d2.int_inv, q _ _ _ (Same.refl F) R (hh _ _ _)⟩
abbrev yes : Int → Int → Bool := fun _ _ => true
theorem opv_sub : OpV B X (binaryOp .Sub) (gI yes fun i j => .int (i - j)) := opv_I0 op_sub fun _ _ _ => .int _
theorem opv_mod : OpV B X (binaryOp .Mod) (gI (fun _ j => decide (0 < j)) fun i j => .int (i % j)) := opv_I op_mod (fun _ _ h => of_decide_eq_true h) fun _ _ _ => .int _
theorem opv_div : OpV B X (binaryOp .FloorDiv) (gI (fun _ j => decide (0 < j ∧ j < 1073741824)) fun i j => .int (i / j)) := opv_I op_fdiv (fun _ _ h => (of_decide_eq_true h : _ ∧ _)) fun _ _ _ => .int _
theorem opv_pow : OpV B X (binaryOp .Pow) (gI (fun i j => decide (0 ≤ j ∧ j ≤ 1000 ∧ i.natAbs < 1000)) fun i j => .int (i ^ j.toNat)) := opv_I op_pow (fun i j h => by
  obtain ⟨h1, h2, h3⟩ := of_decide_eq_true h
  exact ⟨h1, by omega, by omega⟩) fun _ _ _ => .int _
theorem opv_shl : OpV B X (binaryOp .LShift) (gI (fun i j => decide (0 ≤ j ∧ j ≤ 1000 ∧ i.natAbs < 18446744073709551616)) fun i j => .int (i * 2 ^ j.toNat)) := opv_I op_shl (fun i j h => by
  obtain ⟨h1, h2, h3⟩ := of_decide_eq_true h
  exact ⟨h1, by omega, h3⟩) fun _ _ _ => .int _
theorem opv_shr : OpV B X (binaryOp .RShift) (gI (fun _ j => decide (0 ≤ j)) fun i j => .int (i / 2 ^ j.toNat)) := opv_I op_shr (fun _ _ h => of_decide_eq_true h) fun _ _ _ => .int _
theorem opv_and : OpV B X (binaryOp .BitAnd) (gI yes fun i j => .int (Builtin.bitAnd i j)) := opv_I0 op_and fun _ _ _ => .int _
theorem opv_or : OpV B X (binaryOp .BitOr) (gI yes fun i j => .int (Builtin.bitOr i j)) := opv_I0 op_or fun _ _ _ => .int _
theorem opv_xor : OpV B X (binaryOp .BitXor) (gI yes fun i j => .int (Builtin.bitXor i j)) := opv_I0 op_xor fun _ _ _ => .int _
theorem opv_lt : OpV B X (compareOp .Lt) (gI yes fun i j => .bl (decide (i < j))) := opv_I0 op_lt fun _ _ _ => .bl _
theorem opv_le : OpV B X (compareOp .LtE) (gI yes fun i j => .bl (decide (i ≤ j))) := opv_I0 op_le fun _ _ _ => .bl _
theorem opv_gt : OpV B X (compareOp .Gt) (gI yes fun i j => .bl (decide (j < i))) := opv_I0 op_gt fun _ _ _ => .bl _
theorem opv_ge : OpV B X (compareOp .GtE) (gI yes fun i j => .bl (decide (j ≤ i))) := opv_I0 op_ge fun _ _ _ => .bl _
/-- + : ints, texts, lists -/
def gAdd : D → D → Option D
  | .int i, .int j => some (.int (i + j))
  | .str x, .str y => if x.length + y.length ≤ sizeLine then some (.str (x ++ y)) else none
  | .lst xs, .lst ys => if xs.length + ys.length ≤ sizeLine then some (.lst (xs ++ ys)) else none
  | _, _ => none
@[simp] theorem gAdd_int {i j : Int} : gAdd (.int i) (.int j) = some (.int (i + j)) := rfl
@[simp] theorem gAdd_str {i j : Str} : gAdd (.str i) (.str j) = if i.length + j.length ≤ sizeLine then some (.str (i ++ j)) else none := rfl
@[simp] theorem gAdd_lst {i j : List D} : gAdd (.lst i) (.lst j) = if i.length + j.length ≤ sizeLine then some (.lst (i ++ j)) else none := rfl
theorem opv_add : OpV B X (binaryOp .Add) gAdd := fun hk =>
  OpR.imp (L2.OpR.or (L2.OpR.or op_add op_add_str) op_cat) fun x y H Q ⟨Pd, F, σ, sd, d, e, z, R, d1, d2, g, q⟩ => by
    unfold gAdd at g
    split at g
    · cases g
      exact .inl (.inl ⟨_, _, d1.int_inv, d2.int_inv, q _ _ _ (Same.refl F) R (.int _)⟩)
    · split at g
      · cases g
        exact .inl (.inr ⟨_, _, d1.str_inv, d2.str_inv, by assumption, q _ _ _ (Same.refl F) R (.str _)⟩)
      · cases g
    · split at g
      · cases g
        obtain ⟨a, xs, rfl, h1, t1⟩ := d1.lst_inv
        obtain ⟨b, ys, rfl, h2, t2⟩ := d2.lst_inv
        refine .inr ⟨a, b, xs, ys, rfl, rfl, R.sub _ _ h1, R.sub _ _ h2, by rw [t1.length, t2.length]; assumption, fun p hp => ?_⟩
        obtain ⟨R', hs⟩ := R.alloc (.lst (xs ++ ys)) hp
        exact q _ _ _ hs R' (DV.lst upd_same ((t1.app t2).le hs))
      · cases g
    · cases g
end
end Pv

set_option Elab.async false
set_option linter.all false
set_option maxRecDepth 100000
set_option maxHeartbeats 1000000
/-! Pv2: equality, None, tests, displays, items, slices, lengths; statements: blocks, if, return, name = value. -/
namespace Pv
open PySem L2

/-! ### equality of data -/
mutual
def toPy : D → Option PyData
  | .non => some .none
  | .bl b => some (.bool b)
  | .int i => some (.int i)
  | .str x => some (.str x)
  | .tup xs => match toPys xs with
    | some ps => some (.tuple ps)
    | none => none
  | .lst xs => match toPys xs with
    | some ps => some (.list ps)
    | none => none
  | _ => none
def toPys : List D → Option (List PyData)
  | [] => some []
  | x :: xs => match toPy x, toPys xs with
    | some p, some ps => some (p :: ps)
    | _, _ => none
end
section
variable {T : Tb} {K : PySem.W.Frag} {F : Hp}
mutual
theorem DV.py : ∀ {v : V} {d : D} {p : PyData}, DV T K F v d → toPy d = some p → Dp K F v p
  | _, _, _, .non, h => by cases h; exact .non
  | _, _, _, .bl b, h => by cases h; exact .bl b
  | _, _, _, .int i, h => by cases h; exact .int i
  | _, _, _, .str i, h => by cases h; exact .str i
  | _, _, _, .tup (ds := ds) q t, h => by
    unfold toPy at h
    cases e : toPys ds with
    | none => rw [e] at h; cases h
    | some ps => rw [e] at h; cases h; exact .tup q (DVs.py t e)
  | _, _, _, .lst (ds := ds) q t, h => by
    unfold toPy at h
    cases e : toPys ds with
    | none => rw [e] at h; cases h
    | some ps => rw [e] at h; cases h; exact .lst (SqL.of q) (DVs.py t e)
  | _, _, _, .arr _ _, h => by cases h
  | _, _, _, .ins _ _ _, h => by cases h
  | _, _, _, .dic0 _, h => by cases h
  | _, _, _, .clo _ _ _ _ _ _ _ _, h => by cases h
theorem DVs.py : ∀ {v : List V} {d : List D} {p : List PyData}, DVs T K F v d → toPys d = some p → DpAll K F v p
  | _, _, _, .nil, h => by cases h; exact .nil
  | _, _, _, .cons (d := d) (ds := ds) q t, h => by
    unfold toPys at h
    cases e : toPy d with
    | none => rw [e] at h; cases h
    | some p =>
      cases e2 : toPys ds with
      | none => rw [e, e2] at h; cases h
      | some ps => rw [e, e2] at h; cases h; exact .cons (DV.py q e) (DVs.py t e2)
end
end
mutual
theorem dpLe {K : PySem.W.Frag} {F F' : Hp} (e : Same F F') : ∀ {v : V} {d : PyData}, Dp K F v d → Dp K F' v d
  | _, _, .non => .non
  | _, _, .bl b => .bl b
  | _, _, .int i => .int i
  | _, _, .str x => .str x
  | _, _, .lst h t => .lst (e.seq h) (dpsLe e t)
  | _, _, .tup h t => .tup (seqT e h) (dpsLe e t)
theorem dpsLe {K : PySem.W.Frag} {F F' : Hp} (e : Same F F') : ∀ {v : List V} {d : List PyData}, DpAll K F v d → DpAll K F' v d
  | _, _, .nil => .nil
  | _, _, .cons h t => .cons (dpLe e h) (dpsLe e t)
end
/-- == of plain data -/
def eqD (d e : D) : Option Bool := match toPy d, toPy e with
  | some p, some q => if SeqAt.shaped p && SeqAt.shaped q then some (PyData.eqv p q) else none
  | _, _ => none
def gEq (d e : D) : Option D := (eqD d e).map .bl
def gNe (d e : D) : Option D := (eqD d e).map fun b => .bl (!b)
def isN : D → Bool
  | .non => true
  | _ => false
def gIsN : D → D → Option D
  | d, .non => some (.bl (isN d))
  | _, _ => none
def gNotN : D → D → Option D
  | d, .non => some (.bl (!isN d))
  | _, _ => none
section
variable {B : Bd} {Pd : List (Addr × HO)} {F F' : Hp} {σ : St} {H H' : Hp} {sd : SD} {X : Cx}
theorem DV.isN {T : Tb} {K : PySem.W.Frag} : ∀ {v : V} {d : D}, DV T K F v d → decide (v = .non) = isN d
  | _, _, .non => rfl
  | _, _, .bl b => rfl
  | _, _, .int i => rfl
  | _, _, .str x => rfl
  | _, _, .tup _ _ => rfl
  | _, _, .lst _ _ => rfl
  | _, _, .arr _ _ => rfl
  | _, _, .ins _ _ _ => rfl
  | _, _, .dic0 _ => rfl
  | _, _, .clo _ _ _ _ _ _ _ _ => rfl
theorem eqD_inv {d e : D} {b : Bool} (h : eqD d e = some b) : ∃ p q, toPy d = some p ∧ toPy e = some q ∧ SeqAt.shaped p = true ∧ SeqAt.shaped q = true ∧ b = PyData.eqv p q := by
  unfold eqD at h
  split at h
  · split at h
    · rename_i h1 h2 h3
      rw [Bool.and_eq_true] at h3
      exact ⟨_, _, by assumption, by assumption, h3.1, h3.2, (Option.some.inj h).symm⟩
    · cases h
  · cases h
theorem opv_eq (hu : X.A.units + 64 < cLine) : OpV B X (compareOp .Eq) gEq := fun hk =>
  OpR.imp (op_eqD hu) fun x y H Q ⟨Pd, F, σ, sd, d, e, z, R, d1, d2, g, q⟩ => by
    unfold gEq at g
    obtain ⟨b, hb, rfl⟩ := Option.map_eq_some_iff.mp g
    obtain ⟨p1, p2, e1, e2, s1, s2, rfl⟩ := eqD_inv hb
    rw [hk] at d1 d2
    exact ⟨p1, p2, dpLe R.sub (d1.py e1), dpLe R.sub (d2.py e2), s1, s2, q _ _ _ (Same.refl F) R (.bl _)⟩
theorem opv_ne (hu : X.A.units + 64 < cLine) : OpV B X (compareOp .NotEq) gNe := fun hk =>
  OpR.imp (op_neD hu) fun x y H Q ⟨Pd, F, σ, sd, d, e, z, R, d1, d2, g, q⟩ => by
    unfold gNe at g
    obtain ⟨b, hb, rfl⟩ := Option.map_eq_some_iff.mp g
    obtain ⟨p1, p2, e1, e2, s1, s2, rfl⟩ := eqD_inv hb
    rw [hk] at d1 d2
    exact ⟨p1, p2, dpLe R.sub (d1.py e1), dpLe R.sub (d2.py e2), s1, s2, q _ _ _ (Same.refl F) R (.bl _)⟩
theorem opv_isN : OpV B X (compareOp .Is) gIsN := fun hk =>
  OpR.imp op_isN fun x y H Q ⟨Pd, F, σ, sd, d, e, z, R, d1, d2, g, q⟩ => by
    unfold gIsN at g
    split at g
    · cases g
      cases d2
      exact ⟨rfl, by rw [d1.isN]; exact q _ _ _ (Same.refl F) R (.bl _)⟩
    · cases g
theorem opv_notN : OpV B X (compareOp .IsNot) gNotN := fun hk =>
  OpR.imp op_notN fun x y H Q ⟨Pd, F, σ, sd, d, e, z, R, d1, d2, g, q⟩ => by
    unfold gNotN at g
    split at g
    · cases g
      cases d2
      exact ⟨rfl, by rw [d1.isN]; exact q _ _ _ (Same.refl F) R (.bl _)⟩
    · cases g

/-! ### tests -/
abbrev TM := SD → Out Bool
def boolM (f : EM) : TM := fun s => (f s).bind fun d s1 => match d with
  | .bl b => .ok b s1
  | _ => .stuck
theorem tB_imp {f : EM} {Q : Bool → Hp → Prop} (h : tT B (boolM f) σ H Q) : tE B f σ H fun x H1 => ∃ c, x = .bl c ∧ Q c H1 := by
  obtain ⟨Pd, F, sd, R, p⟩ := h
  refine tE.then (R := fun F' o => PostT B Pd F' σ Q o) R (fun _ _ _ _ h => h) (fun _ h => h) (fun _ _ e h => h.le e) p fun v d F1 H1 sd1 s1 R1 dv p1 => ?_
  cases d with
  | bl b =>
    cases dv
    exact ⟨b, rfl, p1 F1 H1 (Same.refl F1) R1⟩
  | _ => exact p1.elim
theorem et_val {e : Expr} {f : EM} (h : EV B X e f) (he : ∀ whole, isTrue e X.env whole = (do let v ← whole; standAt e.pos; holding [v] (truthy v))) : ET B X e (boolM f) := fun hk =>
  (pt_val (h hk) he).imp fun _ _ _ q => tB_imp q
theorem et_cmp {op : CmpOp} {g : D → D → Option D} {a b : Expr} {f f' : EM} {pos : Pos} (ho : OpV B X (compareOp op) g) (ha : EV B X a f) (hb : EV B X b f') (hm : behindInMarks op b = false) : ET B X (.Compare a [op] [b] pos) (boolM (binM g f f')) := fun hk =>
  (pt_cmpR (ho hk) (ha hk) (hb hk) hm).imp fun σ H Q h => by
    have q := tB_imp h
    obtain ⟨Pd, F, sd, R, p⟩ := q
    exact op_imp ⟨Pd, F, sd, R, p⟩
def EW (B : Bd) (X : Cx) (e : Expr) (f : TM) : Prop := B.K = X.K → PW X e (tT B f)
theorem _root_.L2.PW.imp {X : Cx} {e : Expr} {t t' : L2.TT} (h : PW X e t) (i : ∀ σ H Q, t' σ H Q → t σ H Q) : PW X e t' := ⟨fun wh pins s σ H Q I q => h.run wh pins s σ H Q I (i _ _ _ q)⟩
theorem tT.then {f : TM} {α : Type} {k : Bool → SD → Out α} {Q : Bool → Hp → Prop} {R : Hp → Out α → Prop} (Rl : Rel B Pd F σ H sd) (hx : ∀ F' c fs s, R F' (.exc c fs s) → PostX B F' c fs s) (hs : ∀ F', R F' .stuck → False) (hle : ∀ F' o, Same F F' → R F o → R F' o)
    (h : R F ((f sd).bind k)) (hq : ∀ b F1 H1 sd1, Same F F1 → Rel B Pd F1 σ H1 sd1 → R F1 (k b sd1) → Q b H1) : tT B f σ H Q := by
  refine ⟨Pd, F, sd, Rl, ?_⟩
  cases e : f sd with
  | ok d sd1 =>
    rw [e] at h
    intro F1 H1 s R1
    exact hq d F1 H1 sd1 s R1 (hle _ _ s h)
  | exc c fs s => rw [e] at h; exact hx _ _ _ _ h
  | stuck => rw [e] at h; exact hs _ h
def andM (f g : TM) : TM := fun s => (f s).bind fun b s1 => if b then g s1 else .ok false s1
def orM (f g : TM) : TM := fun s => (f s).bind fun b s1 => if b then .ok true s1 else g s1
def notM (f : TM) : TM := fun s => (f s).bind fun b s1 => .ok (!b) s1
variable {a b : Expr} {rest : List Expr} {pos : Pos} {f g : TM}
theorem ew_and1 (ha : ET B X a f) : EW B X (.BoolOp .And [a] pos) f := fun hk => pw_and1 (ha hk)
theorem ew_or1 (ha : ET B X a f) : EW B X (.BoolOp .Or [a] pos) f := fun hk => pw_or1 (ha hk)
theorem ew_and (ha : ET B X a f) (hb : EW B X (.BoolOp .And (b :: rest) pos) g) : EW B X (.BoolOp .And (a :: b :: rest) pos) (andM f g) := fun hk =>
  (pw_and (ha hk) (hb hk)).imp fun σ H Q ⟨Pd, F, sd, R, p⟩ => tT.then (R := fun F' o => PostT B Pd F' σ Q o) R (fun _ _ _ _ h => h) (fun _ h => h) (fun _ _ e h => h.le e) p fun c F1 H1 sd1 s1 R1 p1 => by
    cases c with
    | true => rw [if_pos rfl] at p1 ⊢; exact ⟨Pd, F1, sd1, R1, p1⟩
    | false => rw [if_neg Bool.false_ne_true] at p1 ⊢; exact p1 F1 H1 (Same.refl F1) R1
theorem ew_or (ha : ET B X a f) (hb : EW B X (.BoolOp .Or (b :: rest) pos) g) : EW B X (.BoolOp .Or (a :: b :: rest) pos) (orM f g) := fun hk =>
  (pw_or (ha hk) (hb hk)).imp fun σ H Q ⟨Pd, F, sd, R, p⟩ => tT.then (R := fun F' o => PostT B Pd F' σ Q o) R (fun _ _ _ _ h => h) (fun _ h => h) (fun _ _ e h => h.le e) p fun c F1 H1 sd1 s1 R1 p1 => by
    cases c with
    | false => rw [if_neg Bool.false_ne_true] at p1 ⊢; exact ⟨Pd, F1, sd1, R1, p1⟩
    | true => rw [if_pos rfl] at p1 ⊢; exact p1 F1 H1 (Same.refl F1) R1
theorem EW.et {e : Expr} (h : EW B X e f) : ET B X e f := fun hk => (h hk).pt
theorem et_not (ha : ET B X a f) : ET B X (.UnaryOp .Not a pos) (notM f) := fun hk =>
  (pt_not (ha hk)).imp fun σ H Q ⟨Pd, F, sd, R, p⟩ => tT.then (R := fun F' o => PostT B Pd F' σ Q o) R (fun _ _ _ _ h => h) (fun _ h => h) (fun _ _ e h => h.le e) p fun c F1 H1 sd1 s1 R1 p1 => p1 F1 H1 (Same.refl F1) R1
/-! .. as values -/
def valM (f : TM) : EM := fun s => (f s).bind fun b s1 => .ok (.bl b) s1
def andV (f g : EM) : EM := fun s => (f s).bind fun d s1 => match d with
  | .bl true => g s1
  | .bl false => .ok (.bl false) s1
  | _ => .stuck
def orV (f g : EM) : EM := fun s => (f s).bind fun d s1 => match d with
  | .bl true => .ok (.bl true) s1
  | .bl false => g s1
  | _ => .stuck
def notV (f : EM) : EM := fun s => (f s).bind fun d s1 => match d with
  | .bl b => .ok (.bl (!b)) s1
  | _ => .stuck
variable {u v : EM}
theorem ev_one {op : BoolOp} (h : EV B X a u) : EV B X (.BoolOp op [a] pos) u := fun hk => pe_one (h hk)
theorem ev_and (ha : EV B X a u) (hb : EV B X (.BoolOp .And (b :: rest) pos) v) : EV B X (.BoolOp .And (a :: b :: rest) pos) (andV u v) := fun hk =>
  (pe_and (ha hk) (hb hk)).imp fun σ H Q ⟨Pd, F, sd, R, p⟩ => tE.thenE R p fun x d F1 H1 sd1 s1 R1 dv p1 => by
    cases d with
    | bl c =>
      cases dv
      refine ⟨c, rfl, ?_⟩
      cases c with
      | true => rw [if_pos rfl]; exact ⟨Pd, F1, sd1, R1, p1⟩
      | false => rw [if_neg Bool.false_ne_true]; exact p1 _ F1 H1 (Same.refl F1) R1 (.bl _)
    | _ => exact p1.elim
theorem ev_or (ha : EV B X a u) (hb : EV B X (.BoolOp .Or (b :: rest) pos) v) : EV B X (.BoolOp .Or (a :: b :: rest) pos) (orV u v) := fun hk =>
  (pe_or (ha hk) (hb hk)).imp fun σ H Q ⟨Pd, F, sd, R, p⟩ => tE.thenE R p fun x d F1 H1 sd1 s1 R1 dv p1 => by
    cases d with
    | bl c =>
      cases dv
      refine ⟨c, rfl, ?_⟩
      cases c with
      | false => rw [if_neg Bool.false_ne_true]; exact ⟨Pd, F1, sd1, R1, p1⟩
      | true => rw [if_pos rfl]; exact p1 _ F1 H1 (Same.refl F1) R1 (.bl _)
    | _ => exact p1.elim
theorem ev_not (ha : EV B X a u) : EV B X (.UnaryOp .Not a pos) (notV u) := fun hk =>
  (pe_not (ha hk)).imp fun σ H Q ⟨Pd, F, sd, R, p⟩ => tE.thenE R p fun x d F1 H1 sd1 s1 R1 dv p1 => by
    cases d with
    | bl c =>
      cases dv
      exact ⟨c, rfl, p1 _ F1 H1 (Same.refl F1) R1 (.bl _)⟩
    | _ => exact p1.elim
def iteM (c : TM) (u v : EM) : EM := fun s => (c s).bind fun b s1 => if b then u s1 else v s1
theorem ev_ite {c : Expr} (hc : ET B X c f) (ha : EV B X a u) (hb : EV B X b v) : EV B X (.IfExp c a b pos) (iteM f u v) := fun hk =>
  (pe_ifExp (hc hk) (ha hk) (hb hk)).imp fun σ H Q ⟨Pd, F, sd, R, p⟩ => tT.then (R := fun F' o => PostE B Pd F' σ Q o) R (fun _ _ _ _ h => h) (fun _ h => h) (fun _ _ e h => h.le e) p fun c F1 H1 sd1 s1 R1 p1 => by
    cases c with
    | true => rw [if_pos rfl] at p1 ⊢; exact ⟨Pd, F1, sd1, R1, p1⟩
    | false => rw [if_neg Bool.false_ne_true] at p1 ⊢; exact ⟨Pd, F1, sd1, R1, p1⟩

/-! ### lists of expressions, displays -/
def consM (f : EM) (g : LM) : LM := fun s => (f s).bind fun d s1 => (g s1).bind fun ds s2 => .ok (d :: ds) s2
theorem tE.thenL {f : EM} {k : D → SD → Out (List D)} {Q : VK} {Q' : List V → Hp → Prop} (Rl : Rel B Pd F σ H sd) (h : PostL B Pd F σ Q' ((f sd).bind k))
    (hq : ∀ v d F1 H1 sd1, Same F F1 → Rel B Pd F1 σ H1 sd1 → DV B.T B.K F1 v d → PostL B Pd F1 σ Q' (k d sd1) → Q v H1) : tE B f σ H Q :=
  tE.then (R := fun F' o => PostL B Pd F' σ Q' o) Rl (fun _ _ _ _ h => h) (fun _ h => h) (fun _ _ e h => h.le e) h hq
theorem tL.then {f : LM} {α : Type} {k : List D → SD → Out α} {Q : List V → Hp → Prop} {R : Hp → Out α → Prop} (Rl : Rel B Pd F σ H sd) (hx : ∀ F' c fs s, R F' (.exc c fs s) → PostX B F' c fs s) (hs : ∀ F', R F' .stuck → False) (hle : ∀ F' o, Same F F' → R F o → R F' o)
    (h : R F ((f sd).bind k)) (hq : ∀ v d F1 H1 sd1, Same F F1 → Rel B Pd F1 σ H1 sd1 → DVs B.T B.K F1 v d → R F1 (k d sd1) → Q v H1) : tL B f σ H Q := by
  refine ⟨Pd, F, sd, Rl, ?_⟩
  cases e : f sd with
  | ok d sd1 =>
    rw [e] at h
    intro v F1 H1 s R1 dv
    exact hq v d F1 H1 sd1 s R1 dv (hle _ _ s h)
  | exc c fs s => rw [e] at h; exact hx _ _ _ _ h
  | stuck => rw [e] at h; exact hs _ h
theorem el_nil : EL B X [] (fun s => .ok [] s) := fun _ => pa_nil.imp fun σ H Q ⟨Pd, F, sd, R, p⟩ => p [] F H (Same.refl F) R .nil
theorem el_cons {e : Expr} {es : List Expr} {u : EM} {g : LM} (h : EV B X e u) (t : EL B X es g) (hs : starEach (e :: es) X.env = (false, eval e X.env) :: starEach es X.env) : EL B X (e :: es) (consM u g) := fun hk =>
  (pa_cons (h hk) (t hk) hs).imp fun σ H Q ⟨Pd, F, sd, R, p⟩ => tE.thenL R p fun x d F1 H1 sd1 s1 R1 dv p1 =>
    tL.then (R := fun F' o => PostL B Pd F' σ Q o) R1 (fun _ _ _ _ h => h) (fun _ h => h) (fun _ _ e h => h.le e) p1 fun xs ds F2 H2 sd2 s2 R2 dvs p2 => p2 _ F2 H2 (Same.refl F2) R2 (.cons (dv.le s2) dvs)
def tupM (n : Nat) (g : LM) : EM := fun s => (g s).bind fun ds s1 => if ds.length = n then .ok (.tup ds) s1 else .stuck
def lstM (n : Nat) (g : LM) : EM := fun s => (g s).bind fun ds s1 => if ds.length = n then .ok (.lst ds) s1 else .stuck
theorem ev_tup {es : List Expr} {n k : Nat} {g : LM} (h : EL B X es g) (hn : n ≤ sizeLine) : EV B X (.Tuple es k pos) (tupM n g) := fun hk =>
  (pe_tup (h hk)).imp fun σ H Q ⟨Pd, F, sd, R, p⟩ => tL.then (R := fun F' o => PostE B Pd F' σ Q o) R (fun _ _ _ _ h => h) (fun _ h => h) (fun _ _ e h => h.le e) p fun xs ds F1 H1 sd1 s1 R1 dvs p1 => by
    split at p1
    · rename_i hl
      refine ⟨by rw [dvs.length, hl]; exact hn, fun q hq => ?_⟩
      obtain ⟨R2, s2⟩ := R1.alloc (.tup xs) hq
      exact p1 _ _ _ s2 R2 (.tup (SqT.of upd_same) (dvs.le s2))
    · exact p1.elim
theorem eo_lst {es : List Expr} {n : Nat} {g : LM} (h : EL B X es g) (hn : n ≤ sizeLine) : EO B X (.List es pos) (lstM n g) := fun hk =>
  (pe_lst (h hk)).imp fun σ H Q ⟨Pd, F, sd, R, p⟩ => tL.then (R := fun F' o => PostO B Pd F' σ Q o) R (fun _ _ _ _ h => h) (fun _ h => h) (fun _ _ e h => h.le e) p fun xs ds F1 H1 sd1 s1 R1 dvs p1 => by
    split at p1
    · rename_i hl
      refine ⟨by rw [dvs.length, hl]; exact hn, fun q hq => ?_⟩
      exact p1 q _ F1 _ (Same.refl F1) (R1.allocP (.lst xs) hq nc_lst) (.lst dvs)
    · exact p1.elim

/-! ### items -/
def atD (xs : List D) (i : Int) : Option D := atI xs i
def gIx : D → D → Option D
  | .lst xs, .int i => atD xs i
  | .arr xs, .int i => atD xs i
  | .tup xs, .int i => atD xs i
  | .str z, .int i => if z.length ≤ sizeLine then (atI z.cps.toList i).map fun c => .str ⟨#[c]⟩ else none
  | _, _ => none
theorem DVs.atI {T : Tb} {K : PySem.W.Frag} {vs : List V} {ds : List D} {i : Int} {d : D} (h : DVs T K F vs ds) (e : L2.atI ds i = some d) : ∃ v, L2.atI vs i = some v ∧ DV T K F v d := by
  unfold L2.atI at e ⊢
  rw [h.length]
  cases q : ixN ds.length i with
  | none => rw [q] at e; cases e
  | some j =>
    rw [q] at e
    exact h.get (show ds[j]? = some d from e)
theorem ix_dv {w y : V} {d e : D} {Q : VK} (hk : B.K = X.K) (R2 : Rel B Pd F σ H sd) (dv : DV B.T B.K F w d) (dv2 : DV B.T B.K F y e) (p2 : PostE B Pd F σ Q (lift (gIx d e) sd)) : (rIxL X.K w y H Q ∨ rIxT X.K w y H Q) ∨ rIxS w y H Q := by
  cases g : gIx d e with
  | none => rw [g] at p2; exact p2.elim
  | some z =>
    rw [g] at p2
    unfold gIx at g
    split at g
    · obtain ⟨a, vs, rfl, h1, t1⟩ := dv.lst_inv
      obtain ⟨w, hw, dw⟩ := t1.atI g
      exact .inl (.inl ⟨a, vs, _, w, rfl, dv2.int_inv, SqL.of (R2.sub _ _ h1), hw, p2 _ F H (Same.refl F) R2 dw⟩)
    · cases dv with
      | arr h1 t1 =>
        obtain ⟨w, hw, dw⟩ := t1.atI g
        rw [hk] at h1
        exact .inl (.inl ⟨_, _, _, w, rfl, dv2.int_inv, R2.sub.seq h1, hw, p2 _ F H (Same.refl F) R2 dw⟩)
    · obtain ⟨a, vs, rfl, h1, t1⟩ := dv.tup_inv
      obtain ⟨w, hw, dw⟩ := t1.atI g
      rw [hk] at h1
      exact .inl (.inr ⟨a, vs, _, w, rfl, dv2.int_inv, seqT R2.sub h1, hw, p2 _ F H (Same.refl F) R2 dw⟩)
    · split at g
      · rename_i hl
        obtain ⟨c, hc, rfl⟩ := Option.map_eq_some_iff.mp g
        exact .inr ⟨_, _, c, dv.str_inv, dv2.int_inv, hl, hc, p2 _ F H (Same.refl F) R2 (.str _)⟩
      · cases g
    · cases g
theorem ix_co {a : Addr} {o : HO} {y : V} {d e : D} {Q : VK} (R2 : Rel B Pd F σ H sd) (ho : H a = some o) (co : CO B.T B.K F o d) (dv2 : DV B.T B.K F y e) (p2 : PostE B Pd F σ Q (lift (gIx d e) sd)) : (rIxL X.K (.ref a) y H Q ∨ rIxT X.K (.ref a) y H Q) ∨ rIxS (.ref a) y H Q := by
  cases g : gIx d e with
  | none => rw [g] at p2; exact p2.elim
  | some z =>
    rw [g] at p2
    cases co with
    | lst t =>
      unfold gIx at g
      split at g
      · rename_i e1
        cases e1
        obtain ⟨w, hw, dw⟩ := t.atI g
        exact .inl (.inl ⟨a, _, _, w, rfl, dv2.int_inv, SqL.of ho, hw, p2 _ F H (Same.refl F) R2 dw⟩)
      all_goals first | contradiction | cases g
    | ins _ _ => cases g
theorem ev_ix {a b : Expr} {u v : EM} (ha : EV B X a u) (hb : EV B X b v) (hs : PlainIx b) : EV B X (.Subscript a b pos) (binM gIx u v) := fun hk =>
  (pe_ix (IxR.or (IxR.or ix_list ix_tup) ix_str) (ha hk) (hb hk) hs).imp fun σ H Q ⟨Pd, F, sd, R, p⟩ => tE.thenE R p fun x d F1 H1 sd1 s1 R1 dv p1 => tE.thenE R1 p1 fun y e F2 H2 sd2 s2 R2 dv2 p2 => ix_dv hk R2 (dv.le s2) dv2 p2
def live : Option Slot → Bool
  | some (.val _) => true
  | some (.own _) => true
  | some (.view _) => true
  | _ => false
theorem Rel.live {i : Nat} (R : Rel B Pd F σ H sd) (h : live sd[i]? = true) : ∃ w, σ[i]? = some (some w) := by
  cases q : sd[i]? with
  | none => rw [q] at h; cases h
  | some s =>
    have r := R.slot i s q
    rw [q] at h
    cases s with
    | non => cases h
    | val d => obtain ⟨x, h1, _⟩ := r; exact ⟨x, h1⟩
    | own d => obtain ⟨a, o, h1, _⟩ := r; exact ⟨_, h1⟩
    | view d => obtain ⟨a, o, h1, _⟩ := r; exact ⟨_, h1⟩
/-- what a slot bears, whoever owns it -/
def peek : Option Slot → Option D
  | some (.val d) => some d
  | some (.own d) => some d
  | some (.view d) => some d
  | _ => none
/-- an item of what a slot holds (an object that the frame owns stays the frame's): the index first -/
def ixOwn (i : Nat) (v : EM) : EM := fun s => if live s[i]? then (v s).bind fun e s1 => lift ((peek s1[i]?).bind fun d => gIx d e) s1 else .stuck
theorem ev_ixOwn {i : Nat} {x : Str} {b : Expr} {v : EM} {p1 : Pos} (hN : X.N[i]? = some x) (hv : Vis X.env.scope x) (hb : EV B X b v) (hs : PlainIx b) (hd : (x == ("__debug__" : Str)) = false) (hcd : (x == ("__classdict__" : Str)) = false) :
    EV B X (.Subscript (.Name x p1) b pos) (ixOwn i v) := fun hk =>
  (pe_ix (IxR.or (IxR.or ix_list ix_tup) ix_str) (pe_var hN hv hd hcd) (hb hk) hs).imp fun σ H Q ⟨Pd, F, sd, R, p⟩ => by
    unfold ixOwn at p
    split at p
    · rename_i hl
      obtain ⟨w, hw⟩ := R.live hl
      refine ⟨w, hw, tE.thenE R p fun y e F2 H2 sd2 s2 R2 dv2 p2 => ?_⟩
      cases q : sd2[i]? with
      | none => rw [q] at p2; exact p2.elim
      | some s =>
        have r := R2.slot i s q
        rw [q] at p2
        cases s with
        | non => exact p2.elim
        | val d =>
          obtain ⟨x, h1, dv⟩ := r
          rw [hw] at h1
          obtain rfl : w = x := by injection h1 with h1; injection h1
          exact ix_dv hk R2 dv dv2 p2
        | own d =>
          obtain ⟨a, o, h1, _, _, h4, h5⟩ := r
          rw [hw] at h1
          obtain rfl : w = .ref a := by injection h1 with h1; injection h1
          exact ix_co R2 h4 h5 dv2 p2
        | view d =>
          obtain ⟨a, o, h1, h2, h3, h4⟩ := r
          rw [hw] at h1
          obtain rfl : w = .ref a := by injection h1 with h1; injection h1
          exact ix_co R2 (R2.frame _ _ h2 h3 h4.nc.2) h4 dv2 p2
    · exact p.elim
end
end Pv

set_option Elab.async false
set_option linter.all false
set_option maxRecDepth 100000
set_option maxHeartbeats 1000000
/-! Pv3: statements: blocks, if, return, stores, lists that the frame owns. -/
namespace Pv
open PySem L2

/-- what comes of a statement -/
inductive SOut where
  | next (s : SD) | ret (own : Bool) (d : D) (s : SD) | brk (s : SD) | cont (s : SD) | exc (c : Nat) (fs : List (Nat × D)) (s : SD) | stuck
abbrev SM := SD → SOut
@[simp] def SOut.then (o : SOut) (k : SM) : SOut := match o with
  | .next s => k s
  | o => o
@[simp] def Out.st {α : Type} (o : Out α) (k : α → SD → SOut) : SOut := match o with
  | .ok a s => k a s
  | .exc c fs s => .exc c fs s
  | .stuck => .stuck
def PostS (B : Bd) (F : Hp) (E : Ends) : SOut → Prop
  | .next sd => ∀ (σ : L2.St) (F' H' : Hp), Same F F' → Rel B [] F' σ H' sd → E.nx σ H'
  | .brk sd => ∀ (σ : L2.St) (F' H' : Hp), Same F F' → Rel B [] F' σ H' sd → E.bk σ H'
  | .cont sd => ∀ (σ : L2.St) (F' H' : Hp), Same F F' → Rel B [] F' σ H' sd → E.ct σ H'
  | .ret false d sd => ∀ (v : V) (σ : L2.St) (F' H' : Hp), Same F F' → Rel B [] F' σ H' sd → DV B.T B.K F' v d → E.rt v H'
  | .ret true d sd => ∀ (a : Addr) (o : HO) (σ : L2.St) (F' H' : Hp), Same F F' → Rel B [(a, o)] F' σ H' sd → CO B.T B.K F' o d → E.rt (.ref a) H'
  | .exc c fs sd => PostX B F c fs sd
  | .stuck => False
def tS (B : Bd) (g : SM) : TS := fun E σ H => ∃ F sd, Rel B [] F σ H sd ∧ PostS B F E (g sd)
def SV (B : Bd) (X : Cx) (st : Stmt) (g : SM) : Prop := B.K = X.K → PS X st (tS B g)
def SVs (B : Bd) (X : Cx) (st : List Stmt) (g : SM) : Prop := B.K = X.K → PSs X st (tS B g)
theorem _root_.L2.PS.imp {X : Cx} {e : Stmt} {t t' : TS} (h : PS X e t) (i : ∀ E σ H, t' E σ H → t E σ H) : PS X e t' := ⟨fun pins s σ H E I q => h.run pins s σ H E I (i _ _ _ q)⟩
theorem _root_.L2.PSs.imp {X : Cx} {e : List Stmt} {t t' : TS} (h : PSs X e t) (i : ∀ E σ H, t' E σ H → t E σ H) : PSs X e t' := ⟨fun pins s σ H E I q => h.run pins s σ H E I (i _ _ _ q)⟩
section
variable {B : Bd} {Pd : List (Addr × HO)} {F F' : Hp} {σ : L2.St} {H H' : Hp} {sd : SD} {X : Cx} {E : Ends} {pos : Pos}
theorem PostS.le (e : Same F F') : ∀ {o : SOut}, PostS B F E o → PostS B F' E o
  | .next _, h => fun σ F2 H2 s => h σ F2 H2 (e.trans s)
  | .brk _, h => fun σ F2 H2 s => h σ F2 H2 (e.trans s)
  | .cont _, h => fun σ F2 H2 s => h σ F2 H2 (e.trans s)
  | .ret false _ _, h => fun v σ F2 H2 s => h v σ F2 H2 (e.trans s)
  | .ret true _ _, h => fun a o σ F2 H2 s => h a o σ F2 H2 (e.trans s)
  | .exc _ _ _, h => PostX.le e h
  | .stuck, h => h
/-- other ends, where they are asked -/
theorem PostS.to {E' : Ends} (h1 : ∀ σ H, E.nx σ H → E'.nx σ H) (h2 : ∀ v H, E.rt v H → E'.rt v H) (h3 : ∀ σ H, E.bk σ H → E'.bk σ H) (h4 : ∀ σ H, E.ct σ H → E'.ct σ H) : ∀ {o : SOut}, PostS B F E o → PostS B F E' o
  | .next _, h => fun σ F2 H2 s R => h1 _ _ (h σ F2 H2 s R)
  | .brk _, h => fun σ F2 H2 s R => h3 _ _ (h σ F2 H2 s R)
  | .cont _, h => fun σ F2 H2 s R => h4 _ _ (h σ F2 H2 s R)
  | .ret false _ _, h => fun v σ F2 H2 s R d => h2 _ _ (h v σ F2 H2 s R d)
  | .ret true _ _, h => fun a o σ F2 H2 s R d => h2 _ _ (h a o σ F2 H2 s R d)
  | .exc _ _ _, h => h
  | .stuck, h => h
theorem tE.thenS {f : EM} {k : D → SD → SOut} {Q : VK} (Rl : Rel B Pd F σ H sd) (h : PostS B F E ((f sd).st k))
    (hq : ∀ v d F1 H1 sd1, Same F F1 → Rel B Pd F1 σ H1 sd1 → DV B.T B.K F1 v d → PostS B F1 E (k d sd1) → Q v H1) : tE B f σ H Q := by
  refine ⟨Pd, F, sd, Rl, ?_⟩
  cases e : f sd with
  | ok d sd1 =>
    rw [e] at h
    intro v F1 H1 s R1 dv
    exact hq v d F1 H1 sd1 s R1 dv (h.le s)
  | exc c fs s => rw [e] at h; exact h
  | stuck => rw [e] at h; exact h
theorem tO.thenS {f : EM} {k : D → SD → SOut} {Q : VK} (Rl : Rel B Pd F σ H sd) (h : PostS B F E ((f sd).st k))
    (hq : ∀ a o d F1 H1 sd1, Same F F1 → Rel B ((a, o) :: Pd) F1 σ H1 sd1 → CO B.T B.K F1 o d → PostS B F1 E (k d sd1) → Q (.ref a) H1) : tO B f σ H Q := by
  refine ⟨Pd, F, sd, Rl, ?_⟩
  cases e : f sd with
  | ok d sd1 =>
    rw [e] at h
    intro a o F1 H1 s R1 dv
    exact hq a o d F1 H1 sd1 s R1 dv (h.le s)
  | exc c fs s => rw [e] at h; exact h
  | stuck => rw [e] at h; exact h
theorem tT.thenS {f : TM} {k : Bool → SD → SOut} {Q : Bool → Hp → Prop} (Rl : Rel B Pd F σ H sd) (h : PostS B F E ((f sd).st k))
    (hq : ∀ b F1 H1 sd1, Same F F1 → Rel B Pd F1 σ H1 sd1 → PostS B F1 E (k b sd1) → Q b H1) : tT B f σ H Q := by
  refine ⟨Pd, F, sd, Rl, ?_⟩
  cases e : f sd with
  | ok d sd1 =>
    rw [e] at h
    intro F1 H1 s R1
    exact hq d F1 H1 sd1 s R1 (h.le s)
  | exc c fs s => rw [e] at h; exact h
  | stuck => rw [e] at h; exact h

/-! ### blocks -/
def seqM (g h : SM) : SM := fun s => (g s).then h
theorem seq_imp {g h : SM} (q : tS B (seqM g h) E σ H) : tSeq (tS B g) (tS B h) E σ H := by
  obtain ⟨F, sd, R, p⟩ := q
  refine ⟨F, sd, R, ?_⟩
  unfold seqM at p
  cases e : g sd with
  | next s =>
    rw [e] at p
    exact fun σ1 F1 H1 s1 R1 => ⟨F1, s, R1, p.le s1⟩
  | ret o d s => rw [e] at p; cases o <;> exact p
  | brk s => rw [e] at p; exact p
  | cont s => rw [e] at p; exact p
  | exc c fs s => rw [e] at p; exact p
  | stuck => rw [e] at p; exact p
theorem svs_nil : SVs B X [] (fun s => .next s) := fun _ => pss_nil.imp fun E σ H ⟨F, sd, R, p⟩ => p σ F H (Same.refl F) R
theorem svs_cons {st : Stmt} {rest : List Stmt} {g h : SM} (a : SV B X st g) (b : SVs B X rest h) : SVs B X (st :: rest) (seqM g h) := fun hk => (pss_cons (a hk) (b hk)).imp fun _ _ _ q => seq_imp q
theorem svs_one {st : Stmt} {g : SM} (a : SV B X st g) : SVs B X [st] g := fun hk => pss_one (a hk)
theorem sv_pass : SV B X (.Pass pos) (fun s => .next s) := fun _ => ps_pass.imp fun E σ H ⟨F, sd, R, p⟩ => p σ F H (Same.refl F) R
theorem sv_break : SV B X (.Break pos) (fun s => .brk s) := fun _ => ps_break.imp fun E σ H ⟨F, sd, R, p⟩ => p σ F H (Same.refl F) R
theorem sv_continue : SV B X (.Continue pos) (fun s => .cont s) := fun _ => ps_continue.imp fun E σ H ⟨F, sd, R, p⟩ => p σ F H (Same.refl F) R
def ifM (c : TM) (g h : SM) : SM := fun s => (c s).st fun b s1 => if b then g s1 else h s1
theorem sv_if {c : Expr} {a b : List Stmt} {f : TM} {g h : SM} (hc : ET B X c f) (ha : SVs B X a g) (hb : SVs B X b h) : SV B X (.If c a b pos) (ifM f g h) := fun hk =>
  (ps_if (hc hk) (ha hk) (hb hk)).imp fun E σ H ⟨F, sd, R, p⟩ => tT.thenS R p fun b F1 H1 sd1 s1 R1 p1 => by
    cases b with
    | true => rw [if_pos rfl] at p1 ⊢; exact ⟨F1, sd1, R1, p1⟩
    | false => rw [if_neg Bool.false_ne_true] at p1 ⊢; exact ⟨F1, sd1, R1, p1⟩
/-- never come to -/
theorem sv_never {st : Stmt} : SV B X st (fun _ => .stuck) := fun _ => ps_never.imp fun _ _ _ ⟨_, _, _, p⟩ => p
def retM (f : EM) : SM := fun s => (f s).st fun d s1 => .ret false d s1
def retO (f : EM) : SM := fun s => (f s).st fun d s1 => .ret true d s1
theorem sv_ret {e : Expr} {f : EM} (h : EV B X e f) : SV B X (.Return (some e) pos) (retM f) := fun hk =>
  (ps_ret (h hk)).imp fun E σ H ⟨F, sd, R, p⟩ => tE.thenS R p fun v d F1 H1 sd1 s1 R1 dv p1 => p1 v σ F1 H1 (Same.refl F1) R1 dv
theorem sv_retO {e : Expr} {f : EM} (h : EO B X e f) : SV B X (.Return (some e) pos) (retO f) := fun hk =>
  (ps_ret (h hk)).imp fun E σ H ⟨F, sd, R, p⟩ => tO.thenS R p fun a o d F1 H1 sd1 s1 R1 dv p1 => p1 a o σ F1 H1 (Same.refl F1) R1 dv
theorem sv_retN : SV B X (.Return none pos) (fun s => .ret false .non s) := fun _ => ps_retN.imp fun E σ H ⟨F, sd, R, p⟩ => p .non σ F H (Same.refl F) R .non
/-- return x, x an object that the frame owns: it is handed on as new -/
def retSlot (i : Nat) : SM := fun s => match s[i]? with
  | some (.own d) => .ret true d (s.set i .non)
  | _ => .stuck
theorem Rel.giveS {i : Nat} {d : D} (R : Rel B Pd F σ H sd) (h : sd[i]? = some (.own d)) (hl : i ∉ B.lock) :
    ∃ a o, σ[i]? = some (some (.ref a)) ∧ CO B.T B.K F o d ∧ Rel B ((a, o) :: Pd) F σ H (sd.set i .non) := by
  have hm := Bd.lock_mi hl
  obtain ⟨a, o, h1, h2, h3, h4, h5⟩ := R.slot i _ h
  have nma : a ∉ B.ma := fun m => by
    obtain ⟨k, hk⟩ := List.mem_iff_getElem?.mp m
    have hk' : k < B.mi.length := by rw [R.mlen]; exact (List.getElem?_eq_some_iff.mp hk).1
    obtain ⟨g1, e, g2⟩ := R.muts k _ a (List.getElem?_eq_getElem hk') hk
    have := R.sep _ _ _ _ _ h g2 h1 g1
    exact hm (by rw [this]; exact List.getElem_mem hk')
  have h0 : B.H0 a = none := h3.elim id (fun m => absurd m nma)
  refine ⟨a, o, h1, h5, ⟨by rw [List.length_set]; exact R.len, R.frame, R.mm, R.sub, R.f0, R.new, fun j s q => ?_, fun j k e1 e2 b q1 q2 => ?_, fun p hp => ?_, ?_, fun k j b q1 q2 => ?_, R.mlen, R.pins, R.tb, fun q hq => (List.mem_cons.mp hq).elim (fun z => z ▸ h5.nc.2) (R.ptb q)⟩⟩
  · rcases set_get q with ⟨rfl, rfl, _⟩ | ⟨ne, q⟩
    · trivial
    · exact R.slot j s q
  · rcases set_get q1 with ⟨_, z, _⟩ | ⟨_, q1⟩
    · cases z
    · rcases set_get q2 with ⟨_, z, _⟩ | ⟨_, q2⟩
      · cases z
      · exact R.sep _ _ _ _ _ q1 q2
  · rcases List.mem_cons.mp hp with e | hp
    · subst e
      refine ⟨h4, h2, h0, fun j e q hσ => ?_⟩
      rcases set_get q with ⟨_, z, _⟩ | ⟨ne, q⟩
      · cases z
      · exact ne (R.sep _ _ _ _ _ h q h1 hσ)
    · obtain ⟨g1, g2, g3, g4⟩ := R.pend p hp
      refine ⟨g1, g2, g3, fun j e q => ?_⟩
      rcases set_get q with ⟨_, z, _⟩ | ⟨_, q⟩
      · cases z
      · exact g4 j e q
  · rw [List.map_cons]
    refine List.nodup_cons.mpr ⟨fun m => ?_, R.pnd⟩
    obtain ⟨q, hq, e⟩ := List.mem_map.mp m
    exact (R.pend q hq).2.2.2 i d h (h1.trans (congrArg (fun z => some (some (V.ref z))) e.symm))
  · obtain ⟨g1, e, g2⟩ := R.muts k j b q1 q2
    refine ⟨g1, e, ?_⟩
    rw [List.getElem?_set_ne (fun z => hm (by rw [z]; exact List.mem_of_getElem? q1))]
    exact g2
theorem sv_retSlot {i : Nat} {x : Str} {pos' : Pos} (hN : X.N[i]? = some x) (hv : Vis X.env.scope x) (hm : i ∉ B.lock) (hd : (x == ("__debug__" : Str)) = false) (hcd : (x == ("__classdict__" : Str)) = false) : SV B X (.Return (some (.Name x pos')) pos) (retSlot i) := fun _ =>
  (ps_ret (pe_var hN hv hd hcd)).imp fun E σ H ⟨F, sd, R, p⟩ => by
    unfold retSlot at p
    split at p
    · rename_i d q
      obtain ⟨a, o, h1, co, R'⟩ := R.giveS q hm
      exact ⟨.ref a, h1, p a o σ F H (Same.refl F) R' co⟩
    · exact p.elim

/-! ### stores to names -/
theorem Rel.setV {i : Nat} {v : V} {d : D} (R : Rel B Pd F σ H sd) (dv : DV B.T B.K F v d) (hlk : i ∉ B.lock) : Rel B Pd F (σ.set i (some v)) H (sd.set i (.val d)) := by
  have hm := Bd.lock_mi hlk
  refine ⟨by rw [List.length_set, List.length_set]; exact R.len, R.frame, R.mm, R.sub, R.f0, R.new, fun j s q => ?_, fun j k e1 e2 b q1 q2 a1 a2 => ?_, fun p hp => ?_, R.pnd, fun k j b q1 q2 => ?_, R.mlen, fun p hp => by rw [List.getElem?_set_ne (Bd.lock_pin hlk p hp)]; exact R.pins p hp, R.tb, R.ptb⟩
  · rcases set_get q with ⟨rfl, rfl, hl⟩ | ⟨ne, q⟩
    · exact ⟨v, List.getElem?_set_self (by rw [← R.len]; exact hl), dv⟩
    · rw [List.getElem?_set_ne ne]; exact R.slot j s q
  · rcases set_get q1 with ⟨_, z, _⟩ | ⟨n1, q1⟩
    · cases z
    · rcases set_get q2 with ⟨_, z, _⟩ | ⟨n2, q2⟩
      · cases z
      · rw [List.getElem?_set_ne n1] at a1
        rw [List.getElem?_set_ne n2] at a2
        exact R.sep _ _ _ _ _ q1 q2 a1 a2
  · obtain ⟨g1, g2, g3, g4⟩ := R.pend p hp
    refine ⟨g1, g2, g3, fun j e q => ?_⟩
    rcases set_get q with ⟨_, z, _⟩ | ⟨n, q⟩
    · cases z
    · rw [List.getElem?_set_ne n]; exact g4 j e q
  · have n : i ≠ j := fun z => hm (by rw [z]; exact List.mem_of_getElem? q1)
    rw [List.getElem?_set_ne n, List.getElem?_set_ne n]
    exact R.muts k j b q1 q2
theorem Rel.setO {i : Nat} {a : Addr} {o : HO} {d : D} (R : Rel B ((a, o) :: Pd) F σ H sd) (co : CO B.T B.K F o d) (hlk : i ∉ B.lock) : Rel B Pd F (σ.set i (some (.ref a))) H (sd.set i (.own d)) := by
  have hm := Bd.lock_mi hlk
  obtain ⟨h1, h2, h3, h4⟩ := R.pend _ List.mem_cons_self
  have nd := List.nodup_cons.mp (show (a :: Pd.map (·.1)).Nodup from R.pnd)
  refine ⟨by rw [List.length_set, List.length_set]; exact R.len, R.frame, R.mm, R.sub, R.f0, R.new, fun j s q => ?_, fun j k e1 e2 b q1 q2 a1 a2 => ?_, fun p hp => ?_, nd.2, fun k j b q1 q2 => ?_, R.mlen, fun p hp => by rw [List.getElem?_set_ne (Bd.lock_pin hlk p hp)]; exact R.pins p hp, R.tb, fun q hq => R.ptb q (List.mem_cons_of_mem _ hq)⟩
  · rcases set_get q with ⟨rfl, rfl, hl⟩ | ⟨ne, q⟩
    · exact ⟨a, o, List.getElem?_set_self (by rw [← R.len]; exact hl), h2, .inl h3, h1, co⟩
    · rw [List.getElem?_set_ne ne]; exact R.slot j s q
  · rcases set_get q1 with ⟨e1', z1, l1⟩ | ⟨n1, q1⟩
    · rcases set_get q2 with ⟨e2', _, _⟩ | ⟨n2, q2⟩
      · exact e1'.symm.trans e2'
      · subst e1'
        rw [List.getElem?_set_self (by rw [← R.len]; exact l1)] at a1
        rw [List.getElem?_set_ne n2] at a2
        exact absurd (a2.trans a1.symm) (by
          obtain rfl : a = b := by injection a1 with a1; injection a1 with a1; injection a1
          exact fun z => h4 k e2 q2 a2)
    · rw [List.getElem?_set_ne n1] at a1
      rcases set_get q2 with ⟨e2', z2, l2⟩ | ⟨n2, q2⟩
      · subst e2'
        rw [List.getElem?_set_self (by rw [← R.len]; exact l2)] at a2
        obtain rfl : a = b := by injection a2 with a2; injection a2 with a2; injection a2
        exact absurd a1 (h4 j e1 q1)
      · rw [List.getElem?_set_ne n2] at a2
        exact R.sep _ _ _ _ _ q1 q2 a1 a2
  · obtain ⟨g1, g2, g3, g4⟩ := R.pend p (List.mem_cons_of_mem _ hp)
    refine ⟨g1, g2, g3, fun j e q => ?_⟩
    rcases set_get q with ⟨e1', _, l1⟩ | ⟨n, q⟩
    · subst e1'
      rw [List.getElem?_set_self (by rw [← R.len]; exact l1)]
      intro z
      obtain e2 : a = p.1 := by injection z with z; injection z with z; injection z
      exact nd.1 (by rw [e2]; exact List.mem_map_of_mem hp)
    · rw [List.getElem?_set_ne n]; exact g4 j e q
  · have n : i ≠ j := fun z => hm (by rw [z]; exact List.mem_of_getElem? q1)
    rw [List.getElem?_set_ne n, List.getElem?_set_ne n]
    exact R.muts k j b q1 q2
def setM (i : Nat) (f : EM) : SM := fun s => (f s).st fun d s1 => .next (s1.set i (.val d))
def setOM (i : Nat) (f : EM) : SM := fun s => (f s).st fun d s1 => .next (s1.set i (.own d))
theorem sv_set {i : Nat} {x : Str} {e : Expr} {f : EM} {pos' : Pos} (hN : X.N.Nodup) (hi : X.N[i]? = some x) (hx : Loc X.env.scope x) (hm : i ∉ B.lock) (h : EV B X e f) (hs : swapsWith e (some (.Name x pos')) pos.line X.env = pure false) (hf : X.fn x = true ∨ X.env.scope.names.lookup x = some .local) :
    SV B X (.Assign [.Name x pos'] e pos) (setM i f) := fun hk =>
  (ps_set hN hi hx (h hk) hs hf).imp fun E σ H ⟨F, sd, R, p⟩ => tE.thenS R p fun v d F1 H1 sd1 s1 R1 dv p1 => p1 _ F1 H1 (Same.refl F1) (R1.setV dv hm)
theorem sv_setO {i : Nat} {x : Str} {e : Expr} {f : EM} {pos' : Pos} (hN : X.N.Nodup) (hi : X.N[i]? = some x) (hx : Loc X.env.scope x) (hm : i ∉ B.lock) (h : EO B X e f) (hs : swapsWith e (some (.Name x pos')) pos.line X.env = pure false) (hf : X.fn x = true ∨ X.env.scope.names.lookup x = some .local) :
    SV B X (.Assign [.Name x pos'] e pos) (setOM i f) := fun hk =>
  (ps_set hN hi hx (h hk) hs hf).imp fun E σ H ⟨F, sd, R, p⟩ => tO.thenS R p fun a o d F1 H1 sd1 s1 R1 co p1 => p1 _ F1 H1 (Same.refl F1) (R1.setO co hm)
def exprM (f : EM) : SM := fun s => (f s).st fun _ s1 => .next s1
theorem sv_expr {e : Expr} {f : EM} (h : EV B X e f) (hs : swapsWith e none pos.line X.env = pure false) : SV B X (.Expr e pos) (exprM f) := fun hk =>
  (ps_expr (h hk) hs).imp fun E σ H ⟨F, sd, R, p⟩ => tE.thenS R p fun v d F1 H1 sd1 s1 R1 dv p1 => p1 σ F1 H1 (Same.refl F1) R1

/-! ### what the frame owns is changed -/
theorem Rel.mutO {i : Nat} {d d' : D} {a : Addr} {o' : HO} (R : Rel B Pd F σ H sd) (h : sd[i]? = some (.own d)) (ha : σ[i]? = some (some (.ref a))) (co : CO B.T B.K F o' d') : Rel B Pd F σ (upd H a o') (sd.set i (.own d')) := by
  obtain ⟨a', o, h1, h2, h3, h4, h5⟩ := R.slot i _ h
  rw [ha] at h1
  obtain rfl : a = a' := by injection h1 with h1; injection h1 with h1; injection h1
  have ne : ∀ b u, F b = some u → b ≠ a := fun b u q z => by subst z; rw [h2] at q; cases q
  refine ⟨by rw [List.length_set]; exact R.len, fun b u q m n => ?_, fun b m => ?_, fun b u q => by rw [upd_ne (ne b u q)]; exact R.sub b u q, R.f0, R.new, fun j s q => ?_, fun j k e1 e2 b q1 q2 a1 a2 => ?_, fun p hp => ?_, R.pnd, fun k j b q1 q2 => ?_, R.mlen, R.pins, R.tb.turn (.inr fun ps z => h5.nc.2 ps (Option.some.inj (h4.symm.trans z))) h2 co.nc, R.ptb⟩
  · rw [upd_ne (fun z => by
      subst z
      rcases h3 with z | z
      · rw [z] at q; cases q
      · exact m z)]
    exact R.frame b u q m n
  · by_cases e : b = a
    · subst e; exact ⟨_, upd_same⟩
    · rw [upd_ne e]; exact R.mm b m
  · rcases set_get q with ⟨rfl, rfl, hl⟩ | ⟨n, q⟩
    · exact ⟨a, o', ha, h2, h3, upd_same, co⟩
    · refine (R.slot j s q).le (Same.refl F) (fun b e hv es => ?_) (fun b u hb es hv _ => ?_)
      · subst es
        obtain ⟨b', _, g1, g2, _⟩ := R.slot j _ q
        rw [hv] at g1
        obtain rfl : b = b' := by injection g1 with g1; injection g1 with g1; injection g1
        exact g2
      · obtain ⟨e, rfl⟩ := es
        rw [upd_ne (fun z => by subst z; exact n (R.sep _ _ _ _ _ h q ha hv))]
        exact hb
  · have g : ∀ {j : Nat} {e : D}, (sd.set i (Slot.own d'))[j]? = some (.own e) → ∃ e', sd[j]? = some (.own e') := fun {j e} q => by
      rcases set_get q with ⟨rfl, _, _⟩ | ⟨_, q⟩
      · exact ⟨d, h⟩
      · exact ⟨e, q⟩
    obtain ⟨_, q1⟩ := g q1
    obtain ⟨_, q2⟩ := g q2
    exact R.sep _ _ _ _ _ q1 q2 a1 a2
  · obtain ⟨g1, g2, g3, g4⟩ := R.pend p hp
    refine ⟨by rw [upd_ne (fun z => g4 i d h (by rw [ha, z]))]; exact g1, g2, g3, fun j e q => ?_⟩
    rcases set_get q with ⟨rfl, _, _⟩ | ⟨_, q⟩
    · exact g4 _ _ h
    · exact g4 j e q
  · obtain ⟨g1, e, g2⟩ := R.muts k j b q1 q2
    refine ⟨g1, ?_⟩
    by_cases n : i = j
    · subst n
      exact ⟨d', List.getElem?_set_self (List.getElem?_eq_some_iff.mp g2).1⟩
    · exact ⟨e, by rw [List.getElem?_set_ne n]; exact g2⟩
/-- x.append(e), x the frame's own -/
def appM (i : Nat) (f : EM) : EM := fun s => match s[i]? with
  | some (.own (.lst _)) => (f s).bind fun d s1 => match s1[i]? with
    | some (.own (.lst xs)) => if xs.length < sizeLine then .ok .non (s1.set i (.own (.lst (xs ++ [d])))) else .stuck
    | _ => .stuck
  | _ => .stuck
theorem ownL {i : Nat} {xs : List D} (R : Rel B Pd F σ H sd) (h : sd[i]? = some (.own (.lst xs))) : ∃ a vs, σ[i]? = some (some (.ref a)) ∧ H a = some (.lst vs) ∧ DVs B.T B.K F vs xs := by
  obtain ⟨a, o, h1, h2, h3, h4, h5⟩ := R.slot i _ h
  cases h5 with
  | lst t => exact ⟨a, _, h1, h4, t⟩
theorem ev_app {i : Nat} {x : Str} {e : Expr} {f : EM} {p0 apos cpos : Pos} (hN : X.N[i]? = some x) (hv : Vis X.env.scope x) (h : EV B X e f) (hd : (x == ("__debug__" : Str)) = false) (hcd : (x == ("__classdict__" : Str)) = false)
    (hbase : attributeBase (.Name x p0) "append" X.env (eval (.Name x p0) X.env) = eval (.Name x p0) X.env)
    (hfew : ((backTo cpos (starEach [e] X.env)).all (fun x => !x.1) && (backToKw cpos (keywordEach [] X.env)).all (fun x => x.1.isSome)
      && decide ([e].length + ([] : List Keyword).length + (if ([] : List Keyword).isEmpty then 0 else 1) < 30)) = true)
    (hline : (apos.endLine == cpos.line) = true) (hs : starEach [e] X.env = (false, eval e X.env) :: starEach [] X.env) (hplain : (backTo cpos (starEach [] X.env)).any (·.1) = false) :
    EV B X (.Call (.Attribute (.Name x p0) "append" apos) [e] [] cpos) (appM i f) := fun hk =>
  (pe_bm PySem.F.plainAttrs_list PySem.F.slot_list_append PySem.F.type_list_append mt_append (pe_var hN hv hd hcd) (pa_cons (h hk) pa_nil hs) hbase hfew hline hs hplain).imp fun σ H Q ⟨Pd, F, sd, R, p⟩ => by
    unfold appM at p
    split at p
    · rename_i xs0 q0
      obtain ⟨a, vs0, h1, h2, _⟩ := ownL R q0
      refine ⟨.ref a, h1, .inl ⟨rfl, _, SqL.of h2⟩, tE.thenE R p fun v d F1 H1 sd1 s1 R1 dv p1 => ?_⟩
      split at p1
      · rename_i xs q
        split at p1
        · rename_i hl
          obtain ⟨a', vs, g1, g2, g3⟩ := ownL R1 q
          rw [h1] at g1
          obtain rfl : a = a' := by injection g1 with g1; injection g1 with g1; injection g1
          exact ⟨a, vs, v, rfl, rfl, g2, by rw [g3.length]; exact hl, p1 .non F1 _ (Same.refl F1) (R1.mutO q h1 (.lst (g3.app (.cons dv .nil)))) .non⟩
        · exact p1.elim
      · exact p1.elim
    · exact p.elim
/-- x[i] = e, x a list that the frame owns: e, then the index -/
def setIxM (i : Nat) (f g : EM) : SM := fun s => (f s).st fun d s1 => match s1[i]? with
  | some (.own (.lst _)) => (g s1).st fun e s2 => match s2[i]?, e with
    | some (.own (.lst xs)), .int k => (match ixN xs.length k with
      | some j => .next (s2.set i (.own (.lst (xs.set j d))))
      | none => .stuck)
    | _, _ => .stuck
  | _ => .stuck
theorem sv_setIx {i : Nat} {x : Str} {b e : Expr} {f g : EM} {p0 p1 : Pos} (hN : X.N[i]? = some x) (hv : Vis X.env.scope x) (h : EV B X e f) (hb : EV B X b g) (hd : (x == ("__debug__" : Str)) = false) (hcd : (x == ("__classdict__" : Str)) = false)
    (ha : ∀ v, assign (.Subscript (.Name x p0) b p1) X.env v = (do
      let ov ← holding [v] (eval (.Name x p0) X.env)
      let iv ← holding [v, ov] (eval b X.env)
      standAt p1
      holding [v, ov, iv] (setItem ov iv v)
      release [v, ov, iv] []))
    (hs : swapsWithSole [.Subscript (.Name x p0) b p1] e pos.line X.env = pure false) (hw : swappedStores [.Subscript (.Name x p0) b p1] e X.env = pure none)
    (h1 : (assignEach [.Subscript (.Name x p0) b p1] X.env).map (·.2) = [assign (.Subscript (.Name x p0) b p1) X.env]) :
    SV B X (.Assign [.Subscript (.Name x p0) b p1] e pos) (setIxM i f g) := fun hk =>
  (ps_asg (h hk) (pg_sub (pe_var hN hv hd hcd) (hb hk) set_list ha) hs hw h1).imp fun E σ H ⟨F, sd, R, p⟩ => tE.thenS R p fun v d F1 H1 sd1 s1 R1 dv p1 => by
    split at p1
    · rename_i xs0 q0
      obtain ⟨a, vs0, h1, h2, _⟩ := ownL R1 q0
      refine ⟨.ref a, h1, tE.thenS R1 p1 fun y e F2 H2 sd2 s2 R2 dv2 p2 => ?_⟩
      split at p2
      · rename_i xs k q
        split at p2
        · rename_i j hj
          obtain ⟨a', vs, g1, g2, g3⟩ := ownL R2 q
          rw [h1] at g1
          obtain rfl : a = a' := by injection g1 with g1; injection g1 with g1; injection g1
          exact ⟨a, vs, k, j, rfl, dv2.int_inv, g2, by rw [g3.length]; exact hj, p2 _ F2 _ (Same.refl F2) (R2.mutO q h1 (.lst (g3.set j (dv.le s2))))⟩
        · exact p2.elim
      · exact p2.elim
    · exact p1.elim
end
end Pv

set_option Elab.async false
set_option linter.all false
set_option maxRecDepth 100000
set_option maxHeartbeats 1000000
/-! Pv4: what a def is worth (by a function on data), its call, its body. -/
namespace Pv
open PySem L2

inductive Mode where
  | val | chg | view
/-- how a def takes its arguments; whether what it hands back is new -/
structure Sig where
  modes : List Mode
  own : Bool
/-- what comes of a call: the value, what the changed arguments are then -/
inductive Res where
  | ret (d : D) (ms : List D) | exc (c : Nat) (fs : List (Nat × D)) (ms : List D) | stuck
abbrev Mir := List D → Res

/-- the arguments bear the data; M: the addresses of those that may be changed -/
inductive ArgsR (T : Tb) (K : PySem.W.Frag) (F H : Hp) (M : List Addr) : List Mode → List V → List D → List Addr → Prop
  | nil : ArgsR T K F H M [] [] [] []
  | val {v : V} {d : D} {ms : List Mode} {vs : List V} {ds : List D} {as : List Addr} : DV T K F v d → ArgsR T K F H M ms vs ds as → ArgsR T K F H M (.val :: ms) (v :: vs) (d :: ds) as
  | chg {a : Addr} {o : HO} {d : D} {ms : List Mode} {vs : List V} {ds : List D} {as : List Addr} : H a = some o → F a = none → CO T K F o d → ArgsR T K F H M ms vs ds as → ArgsR T K F H M (.chg :: ms) (.ref a :: vs) (d :: ds) (a :: as)
  | view {a : Addr} {o : HO} {d : D} {ms : List Mode} {vs : List V} {ds : List D} {as : List Addr} : H a = some o → a ∉ M → CO T K F o d → ArgsR T K F H M ms vs ds as → ArgsR T K F H M (.view :: ms) (.ref a :: vs) (d :: ds) as
/-- what the changed ones bear -/
inductive MutsR (T : Tb) (K : PySem.W.Frag) (F H : Hp) : List Addr → List D → Prop
  | nil : MutsR T K F H [] []
  | cons {a : Addr} {o : HO} {d : D} {as : List Addr} {ds : List D} : H a = some o → F a = none → CO T K F o d → MutsR T K F H as ds → MutsR T K F H (a :: as) (d :: ds)
/-- the state behind a call -/
structure Fin (T : Tb) (K : PySem.W.Frag) (F H : Hp) (as : List Addr) (F' H' : Hp) (ms : List D) : Prop where
  le : Same F F'
  sub : Same F' H'
  new : ∀ a o, F' a = some o → F a = some o ∨ H a = none
  frame : ∀ b o, H b = some o → b ∉ as → (∀ ps, o ≠ .tbl ps) → H' b = some o
  muts : MutsR T K F' H' as ms
  tb : TbR T F' H H'
def PostF (T : Tb) (K : PySem.W.Frag) (own : Bool) (F H : Hp) (as : List Addr) (Q : VK) (E : XK) : Res → Prop
  | .ret d ms => match own with
    | false => ∀ (v : V) (F' H' : Hp), Fin T K F H as F' H' ms → DV T K F' v d → Q v H'
    | true => ∀ (a : Addr) (o : HO) (F' H' : Hp), Fin T K F H as F' H' ms → H a = none → F' a = none → H' a = some o → CO T K F' o d → Q (.ref a) H'
  | .exc c fs ms => ∀ (C dx : Addr) (fvs : List (Str × V)) (F' H' : Hp), T.cl[c]? = some C → Fin T K F H as F' H' ms → F' dx = some (.xd fvs) → DFs T K F' fvs fs → E (.ref C) (some dx) H'
  | .stuck => False
def spF (T : Tb) (K : PySem.W.Frag) (sig : Sig) (mir : Mir) : Sp := fun vs H Q E => ∃ F ds as, Same F H ∧ TbR T F H H ∧ ArgsR T K F H as sig.modes vs ds as ∧ as.Nodup ∧ PostF T K sig.own F H as Q E (mir ds)
theorem ArgsR.len {T : Tb} {K : PySem.W.Frag} {F H : Hp} {M : List Addr} {ms : List Mode} {vs : List V} {ds : List D} {as : List Addr} (h : ArgsR T K F H M ms vs ds as) : vs.length = ms.length ∧ ds.length = ms.length := by
  induction h with
  | nil => exact ⟨rfl, rfl⟩
  | val _ _ ih => simp [ih.1, ih.2]
  | chg _ _ _ _ ih => simp [ih.1, ih.2]
  | view _ _ _ _ ih => simp [ih.1, ih.2]

/-! ### a body -/
def slotOf : Mode → D → Slot
  | .val, d => .val d
  | .chg, d => .own d
  | .view, d => .view d
/-- the frame's data at the entry -/
def sd0 : List Mode → List D → Nat → SD
  | m :: ms, d :: ds, n => slotOf m d :: sd0 ms ds (n - 1)
  | _, _, n => List.replicate n .non
/-- the places of what may be changed -/
def mutsAt : Nat → List Mode → List Nat
  | _, [] => []
  | i, .chg :: ms => i :: mutsAt (i + 1) ms
  | i, _ :: ms => mutsAt (i + 1) ms
def ownAt (s : SD) (i : Nat) : D := match s[i]? with
  | some (.own d) => d
  | _ => .non
def resOf (sig : Sig) (mi : List Nat) : SOut → Res
  | .next s => if sig.own then .stuck else .ret .non (mi.map (ownAt s))
  | .ret o d s => if sig.own && !o then .stuck else .ret d (mi.map (ownAt s))
  | .exc c fs s => .exc c fs (mi.map (ownAt s))
  | _ => .stuck
theorem sd0_len : ∀ {ms : List Mode} {ds : List D} {n : Nat}, ds.length = ms.length → ms.length ≤ n → (sd0 ms ds n).length = n
  | [], [], n, _, _ => by simp [sd0]
  | m :: ms, d :: ds, n, h, hn => by
    simp only [List.length_cons] at h hn
    unfold sd0
    rw [List.length_cons, sd0_len (by omega) (by omega)]
    omega
theorem sd0_get : ∀ {ms : List Mode} {ds : List D} {n i : Nat} {s : Slot}, (sd0 ms ds n)[i]? = some s → (∃ m d, ms[i]? = some m ∧ ds[i]? = some d ∧ s = slotOf m d) ∨ s = .non
  | [], ds, n, i, s, h => by
    have h : (List.replicate n Slot.non)[i]? = some s := by cases ds <;> exact h
    rw [List.getElem?_replicate] at h
    split at h
    · exact .inr (Option.some.inj h).symm
    · cases h
  | m :: ms, [], n, i, s, h => by
    have h : (List.replicate n Slot.non)[i]? = some s := h
    rw [List.getElem?_replicate] at h
    split at h
    · exact .inr (Option.some.inj h).symm
    · cases h
  | m :: ms, d :: ds, n, 0, s, h => .inl ⟨m, d, rfl, rfl, (Option.some.inj h).symm⟩
  | m :: ms, d :: ds, n, i + 1, s, h => by
    rcases sd0_get (n := n - 1) (i := i) (show (sd0 ms ds (n - 1))[i]? = some s from h) with ⟨m', d', h1, h2, h3⟩ | h
    · exact .inl ⟨m', d', by simpa using h1, by simpa using h2, h3⟩
    · exact .inr h
theorem sd0_at : ∀ {ms : List Mode} {ds : List D} {n i : Nat} {m : Mode} {d : D}, ms[i]? = some m → ds[i]? = some d → (sd0 ms ds n)[i]? = some (slotOf m d)
  | m :: ms, d :: ds, n, 0, _, _, h, h' => by simp at h h'; subst h; subst h'; rfl
  | m :: ms, d :: ds, n, i + 1, _, _, h, h' => by
    show (sd0 ms ds (n - 1))[i]? = _
    exact sd0_at (by simpa using h) (by simpa using h')
  | [], _, _, _, _, _, h, _ => by simp at h
  | _ :: _, [], _, _, _, _, _, h => by simp at h
section
variable {T : Tb} {K : PySem.W.Frag} {F H : Hp} {M : List Addr}
theorem ArgsR.at_ {ms : List Mode} {vs : List V} {ds : List D} {as : List Addr} (h : ArgsR T K F H M ms vs ds as) : ∀ {i : Nat} {m : Mode} {d : D}, ms[i]? = some m → ds[i]? = some d → ∃ v, vs[i]? = some v ∧ (match m with
    | .val => DV T K F v d
    | .chg => ∃ a o, v = .ref a ∧ a ∈ as ∧ H a = some o ∧ F a = none ∧ CO T K F o d
    | .view => ∃ a o, v = .ref a ∧ a ∉ M ∧ H a = some o ∧ CO T K F o d) := by
  induction h with
  | nil => intro i m d h; simp at h
  | val h t ih =>
    intro i m d h1 h2
    cases i with
    | zero => simp at h1 h2; subst h1; subst h2; exact ⟨_, rfl, h⟩
    | succ i => obtain ⟨v, e, q⟩ := ih (by simpa using h1) (by simpa using h2); exact ⟨v, by simpa using e, q⟩
  | chg h1' h2' h3' t ih =>
    intro i m d h1 h2
    cases i with
    | zero => simp at h1 h2; subst h1; subst h2; exact ⟨_, rfl, _, _, rfl, List.mem_cons_self, h1', h2', h3'⟩
    | succ i =>
      obtain ⟨v, e, q⟩ := ih (by simpa using h1) (by simpa using h2)
      refine ⟨v, by simpa using e, ?_⟩
      cases m with
      | val => exact q
      | view => exact q
      | chg => obtain ⟨a, o, q1, q2, q3⟩ := q; exact ⟨a, o, q1, List.mem_cons_of_mem _ q2, q3⟩
  | view h1' h2' h3' t ih =>
    intro i m d h1 h2
    cases i with
    | zero => simp at h1 h2; subst h1; subst h2; exact ⟨_, rfl, _, _, rfl, h2', h1', h3'⟩
    | succ i => obtain ⟨v, e, q⟩ := ih (by simpa using h1) (by simpa using h2); exact ⟨v, by simpa using e, q⟩
/-- the k-th changed one: its place, its value -/
theorem ArgsR.muts {ms : List Mode} {vs : List V} {ds : List D} {as : List Addr} (h : ArgsR T K F H M ms vs ds as) : ∀ n : Nat, (mutsAt n ms).length = as.length ∧
    ∀ (k i : Nat) (a : Addr), (mutsAt n ms)[k]? = some i → as[k]? = some a → n ≤ i ∧ vs[i - n]? = some (.ref a) ∧ ms[i - n]? = some .chg ∧ ∃ d, ds[i - n]? = some d := by
  induction h with
  | nil => intro n; exact ⟨rfl, fun k i a h => by simp [mutsAt] at h⟩
  | val h t ih =>
    intro n
    obtain ⟨h1, h2⟩ := ih (n + 1)
    refine ⟨h1, fun k i a q1 q2 => ?_⟩
    obtain ⟨g1, g2, g3, d, g4⟩ := h2 k i a q1 q2
    have e : i - n = (i - (n + 1)) + 1 := by omega
    refine ⟨by omega, ?_, ?_, d, ?_⟩ <;> rw [e] <;> simpa
  | chg h1' h2' h3' t ih =>
    intro n
    obtain ⟨h1, h2⟩ := ih (n + 1)
    refine ⟨by simp [mutsAt, h1], fun k i a q1 q2 => ?_⟩
    cases k with
    | zero =>
      simp [mutsAt] at q1 q2
      subst q1; subst q2
      exact ⟨Nat.le_refl _, by simp, by simp, ⟨_, by rw [Nat.sub_self]; exact List.getElem?_cons_zero⟩⟩
    | succ k =>
      obtain ⟨g1, g2, g3, d, g4⟩ := h2 k i a (by simpa [mutsAt] using q1) (by simpa using q2)
      have e : i - n = (i - (n + 1)) + 1 := by omega
      refine ⟨by omega, ?_, ?_, d, ?_⟩ <;> rw [e] <;> simpa
  | view h1' h2' h3' t ih =>
    intro n
    obtain ⟨h1, h2⟩ := ih (n + 1)
    refine ⟨h1, fun k i a q1 q2 => ?_⟩
    obtain ⟨g1, g2, g3, d, g4⟩ := h2 k i a q1 q2
    have e : i - n = (i - (n + 1)) + 1 := by omega
    refine ⟨by omega, ?_, ?_, d, ?_⟩ <;> rw [e] <;> simpa
/-- the value of a changed one tells its place -/
theorem ArgsR.inj {ms : List Mode} {vs : List V} {ds : List D} {as : List Addr} (h : ArgsR T K F H M ms vs ds as) (nd : as.Nodup) : ∀ {i j : Nat} {a : Addr}, ms[i]? = some .chg → ms[j]? = some .chg → vs[i]? = some (.ref a) → vs[j]? = some (.ref a) → i = j := by
  have mem : ∀ {ms : List Mode} {vs : List V} {ds : List D} {as : List Addr}, ArgsR T K F H M ms vs ds as → ∀ {i : Nat} {a : Addr}, ms[i]? = some .chg → vs[i]? = some (.ref a) → a ∈ as := by
    intro ms vs ds as h
    induction h with
    | nil => intro i a h; simp at h
    | val h t ih => intro i a h1 h2; cases i with
      | zero => simp at h1
      | succ i => exact ih (by simpa using h1) (by simpa using h2)
    | view _ _ _ t ih => intro i a h1 h2; cases i with
      | zero => simp at h1
      | succ i => exact ih (by simpa using h1) (by simpa using h2)
    | chg _ _ _ t ih => intro i a h1 h2; cases i with
      | zero => simp at h2; subst h2; exact List.mem_cons_self
      | succ i => exact List.mem_cons_of_mem _ (ih (by simpa using h1) (by simpa using h2))
  induction h with
  | nil => intro i j a h; simp at h
  | val h t ih => intro i j a h1 h2 h3 h4; cases i with
    | zero => simp at h1
    | succ i => cases j with
      | zero => simp at h2
      | succ j => exact congrArg (· + 1) (ih nd (by simpa using h1) (by simpa using h2) (by simpa using h3) (by simpa using h4))
  | view _ _ _ t ih => intro i j a h1 h2 h3 h4; cases i with
    | zero => simp at h1
    | succ i => cases j with
      | zero => simp at h2
      | succ j => exact congrArg (· + 1) (ih nd (by simpa using h1) (by simpa using h2) (by simpa using h3) (by simpa using h4))
  | chg _ _ _ t ih =>
    obtain ⟨n1, n2⟩ := List.nodup_cons.mp nd
    intro i j a h1 h2 h3 h4
    cases i with
    | zero => cases j with
      | zero => rfl
      | succ j =>
        simp at h3; subst h3
        exact absurd (mem t (i := j) (by simpa using h2) (by simpa using h4)) n1
    | succ i => cases j with
      | zero =>
        simp at h4; subst h4
        exact absurd (mem t (i := i) (by simpa using h1) (by simpa using h3)) n1
      | succ j => exact congrArg (· + 1) (ih n2 (by simpa using h1) (by simpa using h2) (by simpa using h3) (by simpa using h4))
end

/-- the frame at a def's entry -/
theorem Rel.start {T : Tb} {K : PySem.W.Frag} {F H : Hp} {ms : List Mode} {vs : List V} {ds : List D} {as : List Addr} {N : List Str} {ex : WX} (sub : Same F H) (tb : TbR T F H H) (h : ArgsR T K F H as ms vs ds as) (nd : as.Nodup) (hn : ms.length ≤ N.length) :
    Rel ⟨T, K, H, F, mutsAt 0 ms, as, [], ex⟩ [] F (L2.start N vs) H (sd0 ms ds N.length) := by
  obtain ⟨l1, l2⟩ := h.len
  have hst : ∀ {i : Nat} {v : V}, vs[i]? = some v → (L2.start N vs)[i]? = some (some v) := fun {i v} e => by
    have hi := (List.getElem?_eq_some_iff.mp e).1
    unfold L2.start
    rw [List.getElem?_append_left (by simpa using hi), List.getElem?_map, e] <;> rfl
  have mem : ∀ a ∈ as, ∃ o, H a = some o := by
    have : ∀ {ms : List Mode} {vs : List V} {ds : List D} {as M : List Addr}, ArgsR T K F H M ms vs ds as → ∀ a ∈ as, ∃ o, H a = some o := by
      intro ms vs ds as M h
      induction h with
      | nil => intro a h; simp at h
      | val _ _ ih => exact ih
      | view _ _ _ _ ih => exact ih
      | chg h1 _ _ _ ih => intro a h; rcases List.mem_cons.mp h with e | h
                           · exact e ▸ ⟨_, h1⟩
                           · exact ih a h
    exact this h
  obtain ⟨m1, m2⟩ := h.muts 0
  refine ⟨?_, fun b o e _ _ => e, mem, sub, Same.refl F, fun a o e => .inl e, fun i s e => ?_, fun i j d e a q1 q2 a1 a2 => ?_, fun p hp => by simp at hp, List.nodup_nil, fun k i a q1 q2 => ?_, m1, fun p hp => by simp at hp, tb, fun p hp => by simp at hp⟩
  · rw [sd0_len l2 hn]
    unfold L2.start
    rw [List.length_append, List.length_map, List.length_replicate]
    omega
  · rcases sd0_get e with ⟨m, d, g1, g2, rfl⟩ | rfl
    · obtain ⟨v, hv, q⟩ := h.at_ g1 g2
      cases m with
      | val => exact ⟨v, hst hv, q⟩
      | chg => obtain ⟨a, o, rfl, hm, q1, q2, q3⟩ := q; exact ⟨a, o, hst hv, q2, .inr hm, q1, q3⟩
      | view => obtain ⟨a, o, rfl, hm, q1, q3⟩ := q; exact ⟨a, o, hst hv, q1, hm, q3⟩
    · trivial
  · have g : ∀ {i : Nat} {d : D}, (sd0 ms ds N.length)[i]? = some (.own d) → ms[i]? = some .chg ∧ ∃ v, vs[i]? = some v := fun {i d} q => by
      rcases sd0_get q with ⟨m, d', g1, g2, g3⟩ | z
      · cases m with
        | chg => exact ⟨g1, by obtain ⟨v, hv, _⟩ := h.at_ g1 g2; exact ⟨v, hv⟩⟩
        | val => cases g3
        | view => cases g3
      · cases z
    obtain ⟨g1, v1, e1⟩ := g q1
    obtain ⟨g2, v2, e2⟩ := g q2
    rw [hst e1] at a1
    rw [hst e2] at a2
    obtain rfl : v1 = .ref a := by injection a1 with a1; injection a1
    obtain rfl : v2 = .ref a := by injection a2 with a2; injection a2
    exact h.inj nd g1 g2 e1 e2
  · obtain ⟨_, g2, g3, d, g4⟩ := m2 k i a q1 q2
    exact ⟨hst (by simpa using g2), d, sd0_at (m := .chg) (by simpa using g3) (by simpa using g4)⟩
theorem Rel.mutsR {B : Bd} {Pd : List (Addr × HO)} {F H : Hp} {σ : L2.St} {sd : SD} (R : Rel B Pd F σ H sd) : MutsR B.T B.K F H B.ma (B.mi.map (ownAt sd)) := by
  have : ∀ (mi : List Nat) (ma : List Addr), mi.length = ma.length → (∀ (k i : Nat) (a : Addr), mi[k]? = some i → ma[k]? = some a → σ[i]? = some (some (.ref a)) ∧ ∃ d, sd[i]? = some (.own d)) → MutsR B.T B.K F H ma (mi.map (ownAt sd)) := by
    intro mi
    induction mi with
    | nil => intro ma hl _; cases ma with
      | nil => exact .nil
      | cons _ _ => simp at hl
    | cons i mi ih => intro ma hl h; cases ma with
      | nil => simp at hl
      | cons a ma =>
        obtain ⟨h1, d, h2⟩ := h 0 i a rfl rfl
        obtain ⟨a', o, g1, g2, g3, g4, g5⟩ := R.slot i _ h2
        rw [h1] at g1
        obtain rfl : a = a' := by injection g1 with g1; injection g1 with g1; injection g1
        rw [List.map_cons]
        refine .cons g4 g2 (by unfold ownAt; rw [h2]; exact g5) (ih ma (by simpa using hl) fun k i a q1 q2 => h (k + 1) i a (by simpa using q1) (by simpa using q2))
  exact this B.mi B.ma R.mlen R.muts
theorem Rel.fin {B : Bd} {Pd : List (Addr × HO)} {F H : Hp} {σ : L2.St} {sd : SD} (R : Rel B Pd F σ H sd) : Fin B.T B.K B.F0 B.H0 B.ma F H (B.mi.map (ownAt sd)) := ⟨R.f0, R.sub, R.new, R.frame, R.mutsR, R.tb⟩
/-- the ends of a body meet what was asked of the def -/
theorem post_body {B : Bd} {sig : Sig} {Q : VK} {E : XK} {o : SOut} (hex : B.ex = fun c d _ H => E c d H) (h : PostF B.T B.K sig.own B.F0 B.H0 B.ma Q E (resOf sig B.mi o)) : PostS B B.F0 { nx := fun _ H' => Q .non H', rt := Q } o := by
  cases o with
  | next s =>
    unfold resOf at h
    cases e : sig.own with
    | true => rw [e] at h; exact h.elim
    | false => rw [e] at h; exact fun σ F' H' _ R => h .non F' H' R.fin .non
  | ret own d s =>
    unfold resOf at h
    cases e : sig.own with
    | true =>
      rw [e] at h
      cases own with
      | false => exact h.elim
      | true =>
        intro a o σ F' H' _ R co
        obtain ⟨h1, h2, h3, _⟩ := R.pend (a, o) List.mem_cons_self
        exact h a o F' H' R.fin h3 h2 h1 co
    | false =>
      rw [e] at h
      cases own with
      | false => exact fun v σ F' H' _ R dv => h v F' H' R.fin dv
      | true =>
        intro a o σ F' H' _ R co
        obtain ⟨R2, s2⟩ := R.freeze
        exact h (.ref a) _ H' R2.fin ((co.le s2).dv upd_same)
  | exc c fs s =>
    intro C dx fvs σ F' H' hc _ R hx hf
    rw [hex]
    exact h C dx fvs F' H' hc R.fin hx hf
  | brk s => exact h.elim
  | cont s => exact h.elim
  | stuck => exact h.elim

/-- the body's context -/
abbrev cxD (P : Program) (w : World) (K : PySem.W.Frag) (mg : Str → Option Value) (base : Heap) (N : List Str) (qual : Str) (scope : Scope) (f : Addr) (cd : Value) (A : Around) (outer : List Env) (s : Shared) (H : Hp) (E : XK) : Cx := cxOf (L2.CX P w) P w K mg base N qual scope f cd A outer s H E
/-- A DEF by its body's reading on data: g; mir: what it is worth -/
theorem def_ok {P : Program} {w : World} {K : PySem.W.Frag} {mg : Str → Option Value} {base : Heap} {x qual : Str} {params : Arguments} {body : List Stmt} {scope : Scope} {dvs : List V} {kws : List (Str × V)} {f : Addr} {fd : FuncData} {N ps : List Str} {k : Nat}
    {T : Tb} {sig : Sig} {mir : Mir} {g : SM} (F : FunD K x qual params body scope dvs kws f fd) (S : FnScope N ps scope) (hl : sig.modes.length = ps.length) (hn : ps.length ≤ N.length)
    (hb : ∀ (cdv : Value) (A : Around) (outer : List Env) (s : Shared) (H : Hp) (E : XK) (B : Bd), B.T = T → B.mi = mutsAt 0 sig.modes → B.pin = [] → B.ex = (fun c d _ H => E c d H) → Room k (A.deeper (PyProof.Rows.envOfC qual scope s.heap.objs.size f cdv)) →
      SVs B (cxD P w K mg base N qual scope f cdv A outer s H E) body g)
    (hg : ∀ ds, ds.length = sig.modes.length → mir ds ≠ .stuck → resOf sig (mutsAt 0 sig.modes) (g (sd0 sig.modes ds N.length)) = mir ds) :
    FnOk P w K mg base (L2.CX P w) (k + 1) f fd ps (spF T K sig mir) := by
  refine F.ok S (fun vs H Q E h => ?_) fun cdv A outer s H vs Q E hr h => ?_
  · obtain ⟨F, ds, as, _, _, ha, _⟩ := h
    rw [ha.len.1, hl]
  · obtain ⟨F, ds, as, hs, tb, ha, nd, q⟩ := h
    refine ⟨_, hb cdv A outer s H E ⟨T, K, H, F, mutsAt 0 sig.modes, as, [], fun c d _ H => E c d H⟩ rfl rfl rfl rfl hr rfl, F, _, Rel.start hs tb ha nd (by omega), ?_⟩
    refine post_body (B := ⟨T, K, H, F, mutsAt 0 sig.modes, as, [], fun c d _ H => E c d H⟩) (E := E) (sig := sig) rfl ?_
    have e : mir ds ≠ .stuck := fun z => by rw [z] at q; exact q
    rw [hg ds ha.len.2 e]
    exact q
end Pv

set_option Elab.async false
set_option linter.all false
set_option maxRecDepth 100000
set_option maxHeartbeats 1000000
/-! Pv5: calls of defs, of methods, of classes. -/
namespace Pv
open PySem L2

/-- an argument: a value, or what a slot holds, by its place -/
inductive Arg where
  | v (d : D) | s (i : Nat)
inductive ArgV (T : Tb) (K : PySem.W.Frag) (F : Hp) (σ : L2.St) : List V → List Arg → Prop
  | nil : ArgV T K F σ [] []
  | v {x : V} {d : D} {xs : List V} {as : List Arg} : DV T K F x d → ArgV T K F σ xs as → ArgV T K F σ (x :: xs) (.v d :: as)
  | s {x : V} {i : Nat} {xs : List V} {as : List Arg} : σ[i]? = some (some x) → ArgV T K F σ xs as → ArgV T K F σ (x :: xs) (.s i :: as)
theorem ArgV.le {T : Tb} {K : PySem.W.Frag} {F F' : Hp} {σ : L2.St} (e : Same F F') : ∀ {xs : List V} {as : List Arg}, ArgV T K F σ xs as → ArgV T K F' σ xs as
  | _, _, .nil => .nil
  | _, _, .v h t => .v (h.le e) (t.le e)
  | _, _, .s h t => .s h (t.le e)
abbrev AM := SD → Out (List Arg)
def PostA (B : Bd) (Pd : List (Addr × HO)) (F : Hp) (σ : L2.St) (Q : List V → Hp → Prop) : Out (List Arg) → Prop
  | .ok d sd => ∀ (v : List V) (F' H' : Hp), Same F F' → Rel B Pd F' σ H' sd → ArgV B.T B.K F' σ v d → Q v H'
  | .exc c fs sd => PostX B F c fs sd
  | .stuck => False
def tA (B : Bd) (f : AM) : TA := fun σ H Q => ∃ Pd F sd, Rel B Pd F σ H sd ∧ PostA B Pd F σ Q (f sd)
def EA (B : Bd) (X : Cx) (es : List Expr) (f : AM) : Prop := B.K = X.K → PA X es (tA B f)
section
variable {B : Bd} {Pd : List (Addr × HO)} {F F' : Hp} {σ : L2.St} {H H' : Hp} {sd : SD} {X : Cx} {pos : Pos}
theorem PostA.le {Q : List V → Hp → Prop} (e : Same F F') : ∀ {o : Out (List Arg)}, PostA B Pd F σ Q o → PostA B Pd F' σ Q o
  | .ok _ _, h => fun v F2 H2 s => h v F2 H2 (e.trans s)
  | .exc _ _ _, h => PostX.le e h
  | .stuck, h => h
def consA (f : EM) (g : AM) : AM := fun s => (f s).bind fun d s1 => (g s1).bind fun ds s2 => .ok (.v d :: ds) s2
def consS (i : Nat) (g : AM) : AM := fun s => if live s[i]? then (g s).bind fun ds s2 => .ok (.s i :: ds) s2 else .stuck
theorem tA.then {f : AM} {α : Type} {k : List Arg → SD → Out α} {Q : List V → Hp → Prop} {R : Hp → Out α → Prop} (Rl : Rel B Pd F σ H sd) (hx : ∀ F' c fs s, R F' (.exc c fs s) → PostX B F' c fs s) (hs : ∀ F', R F' .stuck → False) (hle : ∀ F' o, Same F F' → R F o → R F' o)
    (h : R F ((f sd).bind k)) (hq : ∀ v d F1 H1 sd1, Same F F1 → Rel B Pd F1 σ H1 sd1 → ArgV B.T B.K F1 σ v d → R F1 (k d sd1) → Q v H1) : tA B f σ H Q := by
  refine ⟨Pd, F, sd, Rl, ?_⟩
  cases e : f sd with
  | ok d sd1 =>
    rw [e] at h
    intro v F1 H1 s R1 dv
    exact hq v d F1 H1 sd1 s R1 dv (hle _ _ s h)
  | exc c fs s => rw [e] at h; exact hx _ _ _ _ h
  | stuck => rw [e] at h; exact hs _ h
theorem ea_nil : EA B X [] (fun s => .ok [] s) := fun _ => pa_nil.imp fun σ H Q ⟨Pd, F, sd, R, p⟩ => p [] F H (Same.refl F) R .nil
theorem ea_cons {e : Expr} {es : List Expr} {u : EM} {g : AM} (h : EV B X e u) (t : EA B X es g) (hs : starEach (e :: es) X.env = (false, eval e X.env) :: starEach es X.env) : EA B X (e :: es) (consA u g) := fun hk =>
  (pa_cons (h hk) (t hk) hs).imp fun σ H Q ⟨Pd, F, sd, R, p⟩ => tE.then (R := fun F' o => PostA B Pd F' σ Q o) R (fun _ _ _ _ h => h) (fun _ h => h) (fun _ _ e h => h.le e) p fun x d F1 H1 sd1 s1 R1 dv p1 =>
    tA.then (R := fun F' o => PostA B Pd F' σ Q o) R1 (fun _ _ _ _ h => h) (fun _ h => h) (fun _ _ e h => h.le e) p1 fun xs ds F2 H2 sd2 s2 R2 dvs p2 => p2 _ F2 H2 (Same.refl F2) R2 (.v (dv.le s2) dvs)
theorem ea_slot {i : Nat} {x : Str} {es : List Expr} {g : AM} {p : Pos} (hN : X.N[i]? = some x) (hv : Vis X.env.scope x) (t : EA B X es g) (hs : starEach (.Name x p :: es) X.env = (false, eval (.Name x p) X.env) :: starEach es X.env) (hd : (x == ("__debug__" : Str)) = false) (hcd : (x == ("__classdict__" : Str)) = false) :
    EA B X (.Name x p :: es) (consS i g) := fun hk =>
  (pa_cons (pe_var hN hv hd hcd) (t hk) hs).imp fun σ H Q ⟨Pd, F, sd, R, p⟩ => by
    unfold consS at p
    split at p
    · rename_i hl
      obtain ⟨w, hw⟩ := R.live hl
      refine ⟨w, hw, tA.then (R := fun F' o => PostA B Pd F' σ Q o) R (fun _ _ _ _ h => h) (fun _ h => h) (fun _ _ e h => h.le e) p fun xs ds F2 H2 sd2 s2 R2 dvs p2 => p2 _ F2 H2 (Same.refl F2) R2 (.s hw dvs)⟩
    · exact p.elim

/-! ### what is handed in, as data; what is changed behind -/
/-- the data of the arguments, the places of what may be changed, those of what is the frame's own and only lent -/
def argD (s : SD) : List Mode → List Arg → Option (List D × List Nat × List Nat)
  | [], [] => some ([], [], [])
  | .val :: ms, .v d :: as => (argD s ms as).map fun r => (d :: r.1, r.2)
  | .chg :: ms, .s i :: as => match s[i]? with
    | some (.own d) => (argD s ms as).map fun r => (d :: r.1, i :: r.2.1, r.2.2)
    | _ => none
  | .view :: ms, .s i :: as => match s[i]? with
    | some (.own d) => (argD s ms as).map fun r => (d :: r.1, r.2.1, i :: r.2.2)
    | some (.view d) => (argD s ms as).map fun r => (d :: r.1, r.2)
    | _ => none
  | _, _ => none
def putMuts : List Nat → List D → SD → SD
  | i :: is, m :: ms, s => putMuts is ms (s.set i (.own m))
  | _, _, s => s
/-- no place twice, none lent that is changed -/
def apart (is ws : List Nat) : Bool := decide is.Nodup && ws.all fun w => !is.contains w
def callM (sig : Sig) (mir : Mir) (g : AM) : EM := fun s => (g s).bind fun as s1 => match argD s1 sig.modes as with
  | some (ds, is, ws) => if apart is ws then (match mir ds with
    | .ret d ms => .ok d (putMuts is ms s1)
    | .exc c fs ms => .exc c fs (putMuts is ms s1)
    | .stuck => .stuck) else .stuck
  | none => .stuck
theorem putMuts_len : ∀ (is : List Nat) (ms : List D) (s : SD), (putMuts is ms s).length = s.length
  | [], _, _ => rfl
  | _ :: _, [], _ => rfl
  | i :: is, m :: ms, s => by unfold putMuts; rw [putMuts_len is ms, List.length_set]
theorem putMuts_out : ∀ (is : List Nat) (ms : List D) (s : SD) (j : Nat), j ∉ is → (putMuts is ms s)[j]? = s[j]?
  | [], _, _, _, _ => rfl
  | _ :: _, [], _, _, _ => rfl
  | i :: is, m :: ms, s, j, h => by
    unfold putMuts
    rw [putMuts_out is ms _ j (fun z => h (List.mem_cons_of_mem _ z)), List.getElem?_set_ne (fun z => h (by rw [z]; exact List.mem_cons_self))]
theorem putMuts_in : ∀ (is : List Nat) (ms : List D) (s : SD) (k i : Nat) (m : D), is.Nodup → (∀ i ∈ is, i < s.length) → is[k]? = some i → ms[k]? = some m → (putMuts is ms s)[i]? = some (.own m)
  | [], _, _, _, _, _, _, _, h, _ => by simp at h
  | _ :: _, [], _, _, _, _, _, _, _, h => by simp at h
  | i :: is, m :: ms, s, 0, _, _, nd, hs, h, h' => by
    simp at h h'
    subst h; subst h'
    unfold putMuts
    rw [putMuts_out _ _ _ _ (List.nodup_cons.mp nd).1]
    exact List.getElem?_set_self (hs _ List.mem_cons_self)
  | i :: is, m :: ms, s, k + 1, j, m', nd, hs, h, h' => by
    unfold putMuts
    exact putMuts_in is ms _ k j m' (List.nodup_cons.mp nd).2 (fun i hi => by rw [List.length_set]; exact hs i (List.mem_cons_of_mem _ hi)) (by simpa using h) (by simpa using h')
theorem MutsR.get {T : Tb} {K : PySem.W.Frag} {as : List Addr} {ms : List D} (h : MutsR T K F H as ms) : as.length = ms.length ∧ ∀ (k : Nat) (a : Addr), as[k]? = some a → ∃ o m, ms[k]? = some m ∧ H a = some o ∧ F a = none ∧ CO T K F o m := by
  induction h with
  | nil => exact ⟨rfl, fun k a h => by simp at h⟩
  | cons h1 h2 h3 t ih =>
    refine ⟨by simp [ih.1], fun k a h => ?_⟩
    cases k with
    | zero => simp at h; subst h; exact ⟨_, _, rfl, h1, h2, h3⟩
    | succ k => obtain ⟨o, m, q⟩ := ih.2 k a (by simpa using h); exact ⟨o, m, by simpa using q⟩
/-- the state behind a call -/
theorem Rel.after {is : List Nat} {as : List Addr} {ms : List D} (R : Rel B Pd F σ H sd) (nd : is.Nodup) (hl : is.length = as.length) (hs : ∀ (k i : Nat) (a : Addr), is[k]? = some i → as[k]? = some a → σ[i]? = some (some (.ref a)) ∧ ∃ d, sd[i]? = some (.own d))
    (fin : Fin B.T B.K F H as F' H' ms) : Rel B Pd F' σ H' (putMuts is ms sd) := by
  obtain ⟨lm, gm⟩ := fin.muts.get
  have hin : ∀ i ∈ is, ∃ (k : Nat) (a : Addr) (o : HO) (m d : D), is[k]? = some i ∧ as[k]? = some a ∧ σ[i]? = some (some (.ref a)) ∧ sd[i]? = some (.own d) ∧ (putMuts is ms sd)[i]? = some (.own m) ∧ H' a = some o ∧ F' a = none ∧ CO B.T B.K F' o m := fun i hi => by
    obtain ⟨k, hk⟩ := List.mem_iff_getElem?.mp hi
    have hk' : k < as.length := by rw [← hl]; exact (List.getElem?_eq_some_iff.mp hk).1
    have ha := List.getElem?_eq_getElem hk'
    obtain ⟨h1, d, h2⟩ := hs k i _ hk ha
    obtain ⟨o, m, g1, g2, g3, g4⟩ := gm k _ ha
    refine ⟨k, _, o, m, d, hk, ha, h1, h2, putMuts_in is ms sd k i m nd (fun j hj => ?_) hk g1, g2, g3, g4⟩
    obtain ⟨k', hk2⟩ := List.mem_iff_getElem?.mp hj
    have hk3 : k' < as.length := by rw [← hl]; exact (List.getElem?_eq_some_iff.mp hk2).1
    obtain ⟨_, d', h3⟩ := hs k' j _ hk2 (List.getElem?_eq_getElem hk3)
    exact (List.getElem?_eq_some_iff.mp h3).1
  -- an address that is changed is a slot's own
  have has : ∀ a ∈ as, ∃ i d, i ∈ is ∧ σ[i]? = some (some (.ref a)) ∧ sd[i]? = some (.own d) ∧ F a = none ∧ (B.H0 a = none ∨ a ∈ B.ma) ∧ ∃ o, H' a = some o := fun a ha => by
    obtain ⟨k, hk⟩ := List.mem_iff_getElem?.mp ha
    have hk' : k < is.length := by rw [hl]; exact (List.getElem?_eq_some_iff.mp hk).1
    have hi := List.getElem?_eq_getElem hk'
    obtain ⟨h1, d, h2⟩ := hs k _ a hi hk
    obtain ⟨a', o, g1, g2, g3, g4, g5⟩ := R.slot _ _ h2
    rw [h1] at g1
    obtain rfl : a = a' := by injection g1 with g1; injection g1 with g1; injection g1
    obtain ⟨o', m, _, q, _⟩ := gm k a hk
    exact ⟨_, d, List.mem_of_getElem? hi, h1, h2, g2, g3, o', q⟩
  have nf : ∀ a o, H a = some o → F a = none → F' a = none := fun a o h1 h2 => by
    cases e : F' a with
    | none => rfl
    | some u => rcases fin.new a u e with q | q
                · rw [h2] at q; cases q
                · rw [h1] at q; cases q
  have gs : ∀ (j : Nat) (s : Slot), (putMuts is ms sd)[j]? = some s → j ∉ is → sd[j]? = some s := fun j s q h => by rwa [putMuts_out is ms sd j h] at q
  have go : ∀ (j : Nat) (e : D), (putMuts is ms sd)[j]? = some (.own e) → ∃ e', sd[j]? = some (.own e') := fun j e q => by
    by_cases hj : j ∈ is
    · obtain ⟨_, _, _, _, d, _, _, _, h2, _⟩ := hin j hj; exact ⟨d, h2⟩
    · exact ⟨e, gs j _ q hj⟩
  refine ⟨by rw [putMuts_len]; exact R.len, fun b o h m n => fin.frame b o (R.frame b o h m n) (fun hb => ?_) n, fun a m => ?_, fin.sub, R.f0.trans fin.le, fun a o h => ?_, fun j s q => ?_, fun i j d e a q1 q2 a1 a2 => ?_, fun p hp => ?_, R.pnd, fun k j b q1 q2 => ?_, R.mlen, R.pins, R.tb.trans fin.tb, R.ptb⟩
  · obtain ⟨i, d, _, _, _, _, h3, _⟩ := has b hb
    rcases h3 with z | z
    · rw [z] at h; cases h
    · exact m z
  · by_cases hb : a ∈ as
    · obtain ⟨_, _, _, _, _, _, _, q⟩ := has a hb; exact q
    · obtain ⟨k, hk⟩ := List.mem_iff_getElem?.mp m
      have hk' : k < B.mi.length := by rw [R.mlen]; exact (List.getElem?_eq_some_iff.mp hk).1
      obtain ⟨g1, d, g2⟩ := R.muts k _ a (List.getElem?_eq_getElem hk') hk
      obtain ⟨a', o, q1, q2, q3, q4, q5⟩ := R.slot _ _ g2
      rw [g1] at q1
      obtain rfl : a = a' := by injection q1 with q1; injection q1 with q1; injection q1
      exact ⟨o, fin.frame a o q4 hb q5.nc.2⟩
  · rcases fin.new a o h with q | q
    · exact R.new a o q
    · exact .inr (R.h0 q)
  · by_cases hj : j ∈ is
    · obtain ⟨k, a, o, m, d, _, _, h1, h2, h3, h4, h5, h6⟩ := hin j hj
      rw [h3] at q
      obtain rfl := Option.some.inj q
      obtain ⟨a', _, g1, _, g3, _⟩ := R.slot j _ h2
      rw [h1] at g1
      obtain rfl : a = a' := by injection g1 with g1; injection g1 with g1; injection g1
      exact ⟨a, o, h1, h5, g3, h4, h6⟩
    · have q := gs j s q hj
      refine (R.slot j s q).le fin.le (fun b e hv es => ?_) (fun b u hb es hv n => ?_)
      · subst es
        obtain ⟨b', o, g1, g2, _, g4, _⟩ := R.slot j _ q
        rw [hv] at g1
        obtain rfl : b = b' := by injection g1 with g1; injection g1 with g1; injection g1
        exact nf b o g4 g2
      · obtain ⟨e, rfl⟩ := es
        refine fin.frame b u hb (fun hm => ?_) n
        obtain ⟨i, d, hi, h1, h2, _⟩ := has b hm
        exact hj (by rw [R.sep j i _ _ b q h2 hv h1]; exact hi)
  · obtain ⟨_, q1⟩ := go i d q1
    obtain ⟨_, q2⟩ := go j e q2
    exact R.sep _ _ _ _ _ q1 q2 a1 a2
  · obtain ⟨g1, g2, g3, g4⟩ := R.pend p hp
    refine ⟨fin.frame _ _ g1 (fun hm => ?_) (R.ptb p hp), nf _ _ g1 g2, g3, fun j e q => ?_⟩
    · obtain ⟨i, d, _, h1, h2, _⟩ := has _ hm
      exact g4 i d h2 h1
    · obtain ⟨_, q⟩ := go j e q
      exact g4 j _ q
  · obtain ⟨g1, e, g2⟩ := R.muts k j b q1 q2
    refine ⟨g1, ?_⟩
    by_cases hj : j ∈ is
    · obtain ⟨_, _, _, m, _, _, _, _, _, h3, _⟩ := hin j hj; exact ⟨m, h3⟩
    · exact ⟨e, by rw [putMuts_out is ms sd j hj]; exact g2⟩
def addrAt (σ : L2.St) (i : Nat) : Addr := match σ[i]? with
  | some (some (.ref a)) => a
  | _ => 0
theorem addrAt_of {i : Nat} {a : Addr} (h : σ[i]? = some (some (.ref a))) : addrAt σ i = a := by unfold addrAt; rw [h]
/-- the arguments' data, as a callee takes them -/
theorem args_of (R : Rel B Pd F σ H sd) (M : List Addr) (hv : ∀ (a : Addr) (o : HO), B.H0 a = some o → a ∉ B.ma → a ∉ M) : ∀ {ms : List Mode} {args : List Arg} {vs : List V} {ds : List D} {is ws : List Nat}, ArgV B.T B.K F σ vs args → argD sd ms args = some (ds, is, ws) →
    (∀ w ∈ ws, addrAt σ w ∉ M) → ArgsR B.T B.K F H M ms vs ds (is.map (addrAt σ)) ∧ (∀ i ∈ is, ∃ d, sd[i]? = some (.own d)) ∧ ∀ i ∈ ws, ∃ d, sd[i]? = some (.own d)
  | [], [], _, _, _, _, .nil, h, _ => by cases h; exact ⟨.nil, fun i h => by simp at h, fun i h => by simp at h⟩
  | .val :: ms, .v d :: as, _, _, _, _, .v dv t, h, hw => by
    obtain ⟨⟨ds, is, ws⟩, h1, h2⟩ := Option.map_eq_some_iff.mp (show (argD sd ms as).map (fun r => (d :: r.1, r.2)) = _ from h)
    cases h2
    obtain ⟨g1, g2⟩ := args_of R M hv t h1 hw
    exact ⟨.val dv g1, g2⟩
  | .chg :: ms, .s i :: as, _, _, _, _, .s (x := x) hx t, h, hw => by
    unfold argD at h
    split at h
    · rename_i d q
      obtain ⟨⟨ds, is, ws⟩, h1, h2⟩ := Option.map_eq_some_iff.mp h
      cases h2
      obtain ⟨g1, g2, g3⟩ := args_of R M hv t h1 hw
      obtain ⟨a, o, e1, e2, e3, e4, e5⟩ := R.slot i _ q
      rw [hx] at e1
      obtain rfl : x = .ref a := by injection e1 with e1; injection e1
      rw [List.map_cons, addrAt_of hx]
      exact ⟨.chg e4 e2 e5 g1, fun j hj => (List.mem_cons.mp hj).elim (fun z => z ▸ ⟨d, q⟩) (g2 j), g3⟩
    · cases h
  | .view :: ms, .s i :: as, _, _, _, _, .s (x := x) hx t, h, hw => by
    unfold argD at h
    split at h
    · rename_i d q
      obtain ⟨⟨ds, is, ws⟩, h1, h2⟩ := Option.map_eq_some_iff.mp h
      cases h2
      obtain ⟨g1, g2, g3⟩ := args_of R M hv t h1 fun w hw' => hw w (List.mem_cons_of_mem _ hw')
      obtain ⟨a, o, e1, e2, e3, e4, e5⟩ := R.slot i _ q
      rw [hx] at e1
      obtain rfl : x = .ref a := by injection e1 with e1; injection e1
      have n := hw i List.mem_cons_self
      rw [addrAt_of hx] at n
      exact ⟨.view e4 n e5 g1, g2, fun j hj => (List.mem_cons.mp hj).elim (fun z => z ▸ ⟨d, q⟩) (g3 j)⟩
    · rename_i d q
      obtain ⟨⟨ds, is, ws⟩, h1, h2⟩ := Option.map_eq_some_iff.mp h
      cases h2
      obtain ⟨g1, g2, g3⟩ := args_of R M hv t h1 hw
      obtain ⟨a, o, e1, e2, e3, e4⟩ := R.slot i _ q
      rw [hx] at e1
      obtain rfl : x = .ref a := by injection e1 with e1; injection e1
      exact ⟨.view (R.frame _ _ e2 e3 e4.nc.2) (hv a o e2 e3) e4 g1, g2, g3⟩
    · cases h
  | [], _ :: _, _, _, _, _, _, h, _ => by cases h
  | .val :: _, [], _, _, _, _, _, h, _ => by cases h
  | .val :: _, .s _ :: _, _, _, _, _, _, h, _ => by cases h
  | .chg :: _, [], _, _, _, _, _, h, _ => by cases h
  | .chg :: _, .v _ :: _, _, _, _, _, _, h, _ => by cases h
  | .view :: _, [], _, _, _, _, _, h, _ => by cases h
  | .view :: _, .v _ :: _, _, _, _, _, _, h, _ => by cases h
theorem nodup_map {f : Nat → Nat} : ∀ {l : List Nat}, (∀ i ∈ l, ∀ j ∈ l, f i = f j → i = j) → l.Nodup → (l.map f).Nodup
  | [], _, _ => List.nodup_nil
  | x :: l, h, nd => by
    obtain ⟨n1, n2⟩ := List.nodup_cons.mp nd
    rw [List.map_cons]
    refine List.nodup_cons.mpr ⟨fun m => ?_, nodup_map (fun i hi j hj => h i (List.mem_cons_of_mem _ hi) j (List.mem_cons_of_mem _ hj)) n2⟩
    obtain ⟨j, hj, e⟩ := List.mem_map.mp m
    exact n1 (by rw [h x List.mem_cons_self j (List.mem_cons_of_mem _ hj) e.symm]; exact hj)
theorem apart_inv {is ws : List Nat} (h : apart is ws = true) : is.Nodup ∧ ∀ w ∈ ws, w ∉ is := by
  unfold apart at h
  rw [Bool.and_eq_true] at h
  refine ⟨of_decide_eq_true h.1, fun w hw hi => ?_⟩
  have q := List.all_eq_true.mp h.2 w hw
  simp [hi] at q
/-- .. all of them -/
theorem args_ok (R : Rel B Pd F σ H sd) {ms : List Mode} {args : List Arg} {vs : List V} {ds : List D} {is ws : List Nat} (hA : ArgV B.T B.K F σ vs args) (h : argD sd ms args = some (ds, is, ws)) (ha : apart is ws = true) :
    ArgsR B.T B.K F H (is.map (addrAt σ)) ms vs ds (is.map (addrAt σ)) ∧ (is.map (addrAt σ)).Nodup ∧ is.Nodup ∧ ∀ (k i : Nat) (a : Addr), is[k]? = some i → (is.map (addrAt σ))[k]? = some a → σ[i]? = some (some (.ref a)) ∧ ∃ d, sd[i]? = some (.own d) := by
  obtain ⟨nd, hw⟩ := apart_inv ha
  -- the slots are the frame's own, whatever M
  obtain ⟨_, own, ownW⟩ := args_of R [] (fun _ _ _ _ z => by simp at z) hA h (fun _ _ z => by simp at z)
  have at_ : ∀ i ∈ is, ∃ a d, σ[i]? = some (some (.ref a)) ∧ addrAt σ i = a ∧ sd[i]? = some (.own d) ∧ (B.H0 a = none ∨ a ∈ B.ma) := fun i hi => by
    obtain ⟨d, q⟩ := own i hi
    obtain ⟨a, o, e1, e2, e3, _⟩ := R.slot i _ q
    exact ⟨a, d, e1, addrAt_of e1, q, e3⟩
  refine ⟨(args_of R (is.map (addrAt σ)) (fun a o h1 h2 hm => ?_) hA h fun w hw' hm => ?_).1, ?_, nd, fun k i a q1 q2 => ?_⟩
  · obtain ⟨i, hi, e⟩ := List.mem_map.mp hm
    obtain ⟨a', d, _, e', _, z⟩ := at_ i hi
    rw [e] at e'; subst e'
    rcases z with z | z
    · rw [z] at h1; cases h1
    · exact h2 z
  · obtain ⟨i, hi, e⟩ := List.mem_map.mp hm
    obtain ⟨a, d, g1, e', g2, _⟩ := at_ i hi
    obtain ⟨dw, q⟩ := ownW w hw'
    obtain ⟨b, o, k1, _⟩ := R.slot w _ q
    have eb := addrAt_of k1
    have : a = b := by rw [← e', ← eb, e]
    subst this
    exact hw w hw' (by rw [R.sep w i _ _ _ q g2 k1 g1]; exact hi)
  · refine nodup_map (fun i hi j hj e => ?_) nd
    obtain ⟨a, d, g1, e1, g2, _⟩ := at_ i hi
    obtain ⟨b, d', k1, e2, k2, _⟩ := at_ j hj
    have : a = b := by rw [← e1, ← e2, e]
    subst this
    exact R.sep i j _ _ _ g2 k2 g1 k1
  · obtain ⟨b, d, g1, e1, g2, _⟩ := at_ i (List.mem_of_getElem? q1)
    rw [List.getElem?_map, q1] at q2
    have : addrAt σ i = a := Option.some.inj q2
    rw [e1] at this
    subst this
    exact ⟨g1, d, g2⟩

/-! ### a def that is called -/
/-- what is known of a def of the module -/
structure DefOk (P : Program) (w : World) (K : PySem.W.Frag) (mg : Str → Option Value) (base : Heap) (T : Tb) (x : Str) (sig : Sig) (mir : Mir) (k : Nat) : Prop where
  ex : ∃ (f : Addr) (fd : FuncData) (ps : List Str), mg x = some (.ref f) ∧ FnOk P w K mg base (L2.CX P w) k f fd ps (spF T K sig mir) ∧ PySem.W.keepIn K (.ref f) = true ∧ Binds K fd ps []
def callR (sig : Sig) (mir : Mir) (sd : SD) (args : List Arg) : Out D := match argD sd sig.modes args with
  | some (ds, is, ws) => if apart is ws then (match mir ds with
    | .ret d ms => .ok d (putMuts is ms sd)
    | .exc c fs ms => .exc c fs (putMuts is ms sd)
    | .stuck => .stuck) else .stuck
  | none => .stuck
/-- what the callee promises is what is wanted here -/
theorem call_post {sig : Sig} {mir : Mir} {args : List Arg} {vs : List V} {Q : VK} (R : Rel B Pd F σ H sd) (hA : ArgV B.T B.K F σ vs args)
    (h1 : sig.own = true → PostO B Pd F σ Q (callR sig mir sd args)) (h2 : sig.own = false → PostE B Pd F σ Q (callR sig mir sd args)) : spF B.T B.K sig mir vs H Q (WE B.ex σ) := by
  have hx : ∀ {c fs s}, callR sig mir sd args = .exc c fs s → PostX B F c fs s := fun {c fs s} e => by
    cases q : sig.own with
    | true => have h1 := h1 q; rw [e] at h1; exact h1
    | false => have h2 := h2 q; rw [e] at h2; exact h2
  have hst : callR sig mir sd args ≠ .stuck := fun e => by
    cases q : sig.own with
    | true => have h1 := h1 q; rw [e] at h1; exact h1
    | false => have h2 := h2 q; rw [e] at h2; exact h2
  unfold callR at h1 h2 hx hst
  cases q : argD sd sig.modes args with
  | none => rw [q] at hst; exact absurd rfl hst
  | some r =>
    obtain ⟨ds, is, ws⟩ := r
    rw [q] at h1 h2 hx hst
    dsimp only at h1 h2 hx hst
    by_cases ha : apart is ws = true
    · rw [if_pos ha] at h1 h2 hx hst
      obtain ⟨g1, g2, g3, g4⟩ := args_ok R hA q ha
      refine ⟨F, ds, is.map (addrAt σ), R.sub, R.tb.entry, g1, g2, ?_⟩
      have aft : ∀ {F' H' : Hp} {ms : List D}, Fin B.T B.K F H (is.map (addrAt σ)) F' H' ms → Rel B Pd F' σ H' (putMuts is ms sd) := fun fin => R.after g3 (by simp) g4 fin
      cases e : mir ds with
      | stuck => rw [e] at hst; exact absurd rfl hst
      | exc c fs ms =>
        rw [e] at hx
        intro C dx fvs F' H' hc fin hx' hf
        have R' := aft fin
        exact hx rfl C dx fvs σ F' H' hc fin.le { R' with pend := fun p hp => by simp at hp, pnd := List.nodup_nil, ptb := fun p hp => by simp at hp } hx' hf
      | ret d ms =>
        rw [e] at h1 h2
        unfold PostF
        cases e2 : sig.own with
        | false => exact fun v F' H' fin dv => h2 e2 v F' H' fin.le (aft fin) dv
        | true =>
          intro a o F' H' fin n1 n2 n3 co
          have R' := aft fin
          have h0 := R.h0 n1
          refine h1 e2 a o F' H' fin.le { R' with pend := fun q hq => ?_, pnd := ?_, ptb := fun q hq => (List.mem_cons.mp hq).elim (fun z => z ▸ co.nc.2) (R'.ptb q) } co
          · rcases List.mem_cons.mp hq with z | hq
            · subst z
              refine ⟨n3, n2, h0, fun i d' hi hσ => ?_⟩
              have old : ∃ u, H a = some u := by
                by_cases hj : i ∈ is
                · obtain ⟨_, own, _⟩ := args_of R [] (fun _ _ _ _ z => by simp at z) hA q (fun _ _ z => by simp at z)
                  obtain ⟨d1, q1⟩ := own i hj
                  obtain ⟨a1, o1, m1, _, _, m4, _⟩ := R.slot i _ q1
                  have e5 : some (some (V.ref a)) = some (some (V.ref a1)) := hσ.symm.trans m1
                  obtain rfl : a = a1 := by injection e5 with e5; injection e5 with e5; injection e5
                  exact ⟨_, m4⟩
                · rw [putMuts_out _ _ _ _ hj] at hi
                  obtain ⟨a1, o1, m1, _, _, m4, _⟩ := R.slot i _ hi
                  have e5 : some (some (V.ref a)) = some (some (V.ref a1)) := hσ.symm.trans m1
                  obtain rfl : a = a1 := by injection e5 with e5; injection e5 with e5; injection e5
                  exact ⟨_, m4⟩
              obtain ⟨u, hu⟩ := old
              rw [n1] at hu; cases hu
            · exact R'.pend q hq
          · rw [List.map_cons]
            refine List.nodup_cons.mpr ⟨fun m => ?_, R'.pnd⟩
            obtain ⟨q, hq, e⟩ := List.mem_map.mp m
            have h1 := (R.pend q hq).1
            rw [e, n1] at h1; cases h1
    · rw [if_neg ha] at hst; exact absurd rfl hst
theorem callM_eq {sig : Sig} {mir : Mir} {g : AM} {s : SD} : callM sig mir g s = (g s).bind fun as s1 => callR sig mir s1 as := rfl
theorem tA.call {g : AM} {sig : Sig} {mir : Mir} {Q : VK} (R : Rel B Pd F σ H sd) (h1 : sig.own = true → PostO B Pd F σ Q (callM sig mir g sd)) (h2 : sig.own = false → PostE B Pd F σ Q (callM sig mir g sd)) : tA B g σ H fun vs H1 => spF B.T B.K sig mir vs H1 Q (WE B.ex σ) := by
  cases q : sig.own with
  | true => exact tA.then (R := fun F' o => PostO B Pd F' σ Q o) R (fun _ _ _ _ h => h) (fun _ h => h) (fun _ _ e h => h.le e) (h1 q) fun vs as F1 H1 sd1 s1 R1 hA p1 => call_post R1 hA (fun _ => p1) fun z => by rw [q] at z; cases z
  | false => exact tA.then (R := fun F' o => PostE B Pd F' σ Q o) R (fun _ _ _ _ h => h) (fun _ h => h) (fun _ _ e h => h.le e) (h2 q) fun vs as F1 H1 sd1 s1 R1 hA p1 => call_post R1 hA (fun z => by rw [q] at z; cases z) fun _ => p1
variable {x : Str} {sig : Sig} {mir : Mir} {k : Nat} {e : Expr} {es : List Expr} {g : AM} {p : Pos}
theorem ev_call (G : DefOk X.prog X.w X.K X.mg X.base B.T x sig mir k) (ho : sig.own = false) (hr : Room k X.A) (hg : Gl X x) (tk : Takes X B.ex) (ha : EA B X (e :: es) g) (hdb : (x == ("__debug__" : Str)) = false)
    (he : starEach (e :: es) X.env = (false, eval e X.env) :: starEach es X.env) (hpl : (backTo pos (starEach es X.env)).any (·.1) = false) : EV B X (.Call (.Name x p) (e :: es) [] pos) (callM sig mir g) := fun hk => by
  obtain ⟨f, fd, ps, hm, FO, kp, hb⟩ := G.ex
  refine (pe_callSD (dvs := []) FO hr hg hm kp hb .nil (fun σ => passAt tk σ) (ha hk) hdb he hpl).imp fun σ H Q ⟨Pd, F, sd, R, p⟩ => ?_
  have q := tA.call (sig := sig) (mir := mir) R (fun z => by rw [ho] at z; cases z) (fun _ => p)
  rw [hk] at q
  simpa [tCallSD] using q
theorem eo_call (G : DefOk X.prog X.w X.K X.mg X.base B.T x sig mir k) (ho : sig.own = true) (hr : Room k X.A) (hg : Gl X x) (tk : Takes X B.ex) (ha : EA B X (e :: es) g) (hdb : (x == ("__debug__" : Str)) = false)
    (he : starEach (e :: es) X.env = (false, eval e X.env) :: starEach es X.env) (hpl : (backTo pos (starEach es X.env)).any (·.1) = false) : EO B X (.Call (.Name x p) (e :: es) [] pos) (callM sig mir g) := fun hk => by
  obtain ⟨f, fd, ps, hm, FO, kp, hb⟩ := G.ex
  refine (pe_callSD (dvs := []) FO hr hg hm kp hb .nil (fun σ => passAt tk σ) (ha hk) hdb he hpl).imp fun σ H Q ⟨Pd, F, sd, R, p⟩ => ?_
  have q := tA.call (sig := sig) (mir := mir) R (fun _ => p) (fun z => by rw [ho] at z; cases z)
  rw [hk] at q
  simpa [tCallSD] using q
end
end Pv

set_option Elab.async false
set_option linter.all false
set_option maxRecDepth 100000
set_option maxHeartbeats 1000000
/-! Pv6: targets, loops, what is walked, comprehensions. -/
namespace Pv
open PySem L2
section
variable {B : Bd} {Pd : List (Addr × HO)} {F F' : Hp} {σ : L2.St} {H H' : Hp} {sd : SD} {X : Cx} {E : Ends} {pos : Pos}
/-! ### targets -/
abbrev GM := D → SD → Option SD
/-- the slots are as they were, but these -/
def Only (is : List Nat) (σ σ' : L2.St) : Prop := σ'.length = σ.length ∧ ∀ j, j ∉ is → σ'[j]? = σ[j]?
def tG (B : Bd) (is : List Nat) (t : GM) : TG := fun v σ H Q => ∃ Pd F sd d sd', Rel B Pd F σ H sd ∧ DV B.T B.K F v d ∧ t d sd = some sd' ∧ ∀ σ', Only is σ σ' → Rel B Pd F σ' H sd' → Q σ' H
def tGs (B : Bd) (is : List Nat) (t : List D → SD → Option SD) : TGs := fun vs σ H Q => ∃ Pd F sd ds sd', Rel B Pd F σ H sd ∧ DVs B.T B.K F vs ds ∧ t ds sd = some sd' ∧ ∀ σ', Only is σ σ' → Rel B Pd F σ' H sd' → Q σ' H
def EG (B : Bd) (X : Cx) (tg : Expr) (is : List Nat) (t : GM) : Prop := B.K = X.K → PG X tg (tG B is t)
def EGs (B : Bd) (X : Cx) (tg : List Expr) (is : List Nat) (t : List D → SD → Option SD) : Prop := B.K = X.K → PGs X tg (tGs B is t)
theorem _root_.L2.PG.imp {X : Cx} {e : Expr} {t t' : TG} (h : PG X e t) (i : ∀ v σ H Q, t' v σ H Q → t v σ H Q) : PG X e t' := ⟨fun pins s σ H v u Q I r q => h.run pins s σ H v u Q I r (i _ _ _ _ q)⟩
theorem _root_.L2.PGs.imp {X : Cx} {e : List Expr} {t t' : TGs} (h : PGs X e t) (i : ∀ v σ H Q, t' v σ H Q → t v σ H Q) : PGs X e t' := ⟨fun pins s σ H v u Q I r q => h.run pins s σ H v u Q I r (i _ _ _ _ q)⟩
def gNm (i : Nat) : GM := fun d s => some (s.set i (.val d))
theorem eg_name {i : Nat} {x : Str} (hN : X.N.Nodup) (hi : X.N[i]? = some x) (hx : Loc X.env.scope x) (hm : i ∉ B.lock) (hf : X.fn x = true ∨ X.env.scope.names.lookup x = some .local) : EG B X (.Name x pos) [i] (gNm i) := fun hk =>
  (pg_name hN hi hx hf).imp fun v σ H Q ⟨Pd, F, sd, d, sd', R, dv, h, q⟩ => by
    cases h
    exact q _ ⟨List.length_set, fun j hj => List.getElem?_set_ne (fun z => hj (by rw [z]; exact List.mem_cons_self))⟩ (R.setV dv hm)
def gsNil : List D → SD → Option SD
  | [], s => some s
  | _, _ => none
def gsCons (t : GM) (u : List D → SD → Option SD) : List D → SD → Option SD
  | d :: ds, s => (t d s).bind (u ds)
  | _, _ => none
def gTp (u : List D → SD → Option SD) : GM
  | .tup ds, s => u ds s
  | _, _ => none
theorem egs_nil : EGs B X [] [] gsNil := fun hk => pgs_nil.imp fun v σ H Q ⟨Pd, F, sd, ds, sd', R, dv, h, q⟩ => by
  cases dv with
  | nil => cases h; exact ⟨rfl, q _ ⟨rfl, fun _ _ => rfl⟩ R⟩
  | cons _ _ => cases h
theorem egs_cons {e : Expr} {es : List Expr} {t : GM} {u : List D → SD → Option SD} {is js : List Nat} (h1 : EG B X e is t) (h2 : EGs B X es js u) (hs : (assignEach (e :: es) X.env).map (·.2) = assign e X.env :: (assignEach es X.env).map (·.2)) : EGs B X (e :: es) (is ++ js) (gsCons t u) := fun hk =>
  (pgs_cons (h1 hk) (h2 hk) hs).imp fun v σ H Q ⟨Pd, F, sd, ds, sd', R, dv, h, q⟩ => by
    cases dv with
    | nil => cases h
    | cons dv dvs =>
      obtain ⟨s1, e1, e2⟩ := Option.bind_eq_some_iff.mp (show (t _ sd).bind (u _) = some sd' from h)
      exact ⟨_, _, rfl, Pd, F, sd, _, s1, R, dv, e1, fun σ' o1 R' => ⟨Pd, F, s1, _, sd', R', dvs, e2, fun σ2 o2 => q σ2 ⟨o2.1.trans o1.1, fun j hj => (o2.2 j fun z => hj (List.mem_append_right _ z)).trans (o1.2 j fun z => hj (List.mem_append_left _ z))⟩⟩⟩
theorem eg_tup {es : List Expr} {k n : Nat} {u : List D → SD → Option SD} {is : List Nat} (hc : X.calm = true) (h : EGs B X es is u) (hl : ∀ ds s s', u ds s = some s' → ds.length = n) (hn : (assignEach es X.env).length = n) (hst : (assignEach es X.env).findIdx? (·.1) = none) : EG B X (.Tuple es k pos) is (gTp u) := fun hk =>
  (pg_tup hc (h hk) hn hst).imp fun v σ H Q ⟨Pd, F, sd, d, sd', R, dv, e, q⟩ => by
    cases d with
    | tup ds =>
      obtain ⟨a, vs, rfl, h1, t⟩ := dv.tup_inv
      rw [hk] at h1
      exact ⟨a, vs, rfl, seqT R.sub h1, by rw [t.length]; exact hl _ _ _ e, Pd, F, sd, ds, sd', R, t, e, q⟩
    | _ => cases e
theorem gsNil_len (ds : List D) (s s' : SD) (h : gsNil ds s = some s') : ds.length = 0 := by
  cases ds with
  | nil => rfl
  | cons _ _ => cases h
theorem gsCons_len {t : GM} {u : List D → SD → Option SD} {n : Nat} (hu : ∀ ds s s', u ds s = some s' → ds.length = n) (ds : List D) (s s' : SD) (h : gsCons t u ds s = some s') : ds.length = n + 1 := by
  cases ds with
  | nil => cases h
  | cons d ds =>
    obtain ⟨s1, _, e2⟩ := Option.bind_eq_some_iff.mp (show (t d s).bind (u ds) = some s' from h)
    rw [List.length_cons, hu _ _ _ e2]
/-- targets = e -/
def asgM (t : GM) (f : EM) : SM := fun s => (f s).st fun d s1 => match t d s1 with
  | some s2 => .next s2
  | none => .stuck
theorem sv_asg {tg e : Expr} {t : GM} {f : EM} {is : List Nat} (hg : EG B X tg is t) (he : EV B X e f) (hs : swapsWithSole [tg] e pos.line X.env = pure false) (hw : swappedStores [tg] e X.env = pure none) (h1 : (assignEach [tg] X.env).map (·.2) = [assign tg X.env]) :
    SV B X (.Assign [tg] e pos) (asgM t f) := fun hk =>
  (ps_asg (he hk) (hg hk) hs hw h1).imp fun E σ H ⟨F, sd, R, p⟩ => tE.thenS R p fun v d F1 H1 sd1 s1 R1 dv p1 => by
    cases e : t d sd1 with
    | none => rw [e] at p1; exact p1.elim
    | some s2 => rw [e] at p1; exact ⟨[], F1, sd1, d, s2, R1, dv, e, fun σ' _ R' => p1 σ' F1 H1 (Same.refl F1) R'⟩
/-- a, b = e1, e2, both names -/
def parM (i j : Nat) (g : LM) : SM := fun s => (g s).st fun ds s1 => match ds with
  | [d, e] => .next ((s1.set i (.val d)).set j (.val e))
  | _ => .stuck
theorem sv_par {i j : Nat} {x y : Str} {a b : Expr} {g : LM} {px py pt : Pos} {kt k2 : Nat} {pt2 : Pos} (hc : X.calm = true) (hN : X.N.Nodup) (hi : X.N[i]? = some x) (hj : X.N[j]? = some y) (hij : i ≠ j) (hmi : i ∉ B.lock) (hmj : j ∉ B.lock)
    (hx : X.env.scope.names.lookup x = some .local) (hy : X.env.scope.names.lookup y = some .local) (ha : EL B X [a, b] g)
    (hw : swappedStores [.Tuple [.Name x px, .Name y py] kt pt] (.Tuple [a, b] k2 pt2) X.env = pure (some [x, y]))
    (hs : swapsWithSole [.Tuple [.Name x px, .Name y py] kt pt] (.Tuple [a, b] k2 pt2) pos.line X.env = pure false) :
    SV B X (.Assign [.Tuple [.Name x px, .Name y py] kt pt] (.Tuple [a, b] k2 pt2) pos) (parM i j g) := fun hk =>
  (ps_par hc hN hi hj hij hx hy (ha hk) hw hs).imp fun E σ H ⟨F, sd, R, p⟩ => by
    refine ⟨[], F, sd, R, ?_⟩
    unfold parM at p
    cases e : g sd with
    | ok ds s1 =>
      rw [e] at p
      intro vs F1 H1 hs R1 dvs
      dsimp only [Out.st] at p
      split at p
      · cases dvs with
        | cons d1 t =>
          cases t with
          | cons d2 t =>
            cases t
            exact ⟨_, _, rfl, p _ F1 H1 hs ((R1.setV d1 hmi).setV d2 hmj)⟩
      · exact p.elim
    | exc c fs s => rw [e] at p; exact p
    | stuck => rw [e] at p; exact p
/-- x op= e, x a name -/
def augM (i : Nat) (g : D → D → Option D) (f : EM) : SM := fun s => match s[i]? with
  | some (.val d) => (f s).st fun e s1 => match g d e with
    | some z => .next (s1.set i (.val z))
    | none => .stuck
  | _ => .stuck

/-! ### while -/
/-- so many turns -/
def whileN : Nat → TM → SM → SM
  | 0, _, _, _ => .stuck
  | n + 1, c, b, s => (c s).st fun t s1 => if t then (match b s1 with
      | .next s2 => whileN n c b s2
      | .cont s2 => whileN n c b s2
      | .brk s2 => .next s2
      | o => o) else .next s1
def whileM (μ : SD → Nat) (c : TM) (b : SM) : SM := fun s => whileN (μ s) c b s
theorem sv_while {c : Expr} {body : List Stmt} {f : TM} {g : SM} (μ : SD → Nat) (hp : PassesOwn (model X.prog X.w) X.A X.env X.xe) (hc : ET B X c f) (hb : SVs B X body g) : SV B X (.While c body [] pos) (whileM μ f g) := fun hk =>
  (ps_while hp (hc hk) (hb hk)).imp fun E σ H ⟨F0, sd0, R0, p0⟩ => by
    refine ⟨fun m σ H => ∃ F sd, Rel B [] F σ H sd ∧ PostS B F E (whileN m f g sd), ⟨μ sd0, F0, sd0, R0, p0⟩, ?_⟩
    rintro m σ H ⟨F, sd, R, p⟩
    cases m with
    | zero => exact p.elim
    | succ m =>
      refine tT.thenS R (show PostS B F E ((f sd).st _) from p) fun b F1 H1 sd1 s1 R1 p1 => ?_
      cases b with
      | false => rw [if_neg Bool.false_ne_true] at p1 ⊢; exact p1 σ F1 H1 (Same.refl F1) R1
      | true =>
        rw [if_pos rfl] at p1 ⊢
        refine ⟨fun σ H => ∃ F sd, Rel B [] F σ H sd ∧ PostS B F E (whileN m f g sd), fun σ' H' h => ⟨m, Nat.lt_succ_self m, h⟩, F1, sd1, R1, ?_⟩
        cases e : g sd1 with
        | next s2 => rw [e] at p1; exact fun σ2 F2 H2 s2' R2 => ⟨F2, s2, R2, p1.le s2'⟩
        | cont s2 => rw [e] at p1; exact fun σ2 F2 H2 s2' R2 => ⟨F2, s2, R2, p1.le s2'⟩
        | brk s2 => rw [e] at p1; exact p1
        | ret o d s2 => rw [e] at p1; cases o <;> exact p1
        | exc c fs s2 => rw [e] at p1; exact p1
        | stuck => rw [e] at p1; exact p1

/-! ### what is walked -/
/-- the iterator gives the data, one after the other -/
def WalkD (T : Tb) (K : PySem.W.Frag) (F : Hp) (J : It) (ds : List D) : Prop :=
  ∃ (G : Hp → Prop) (Y : Nat → Hp → V → Hp → Prop), Walk J ds.length G Y ∧ (∀ H, Same F H → G H) ∧
    ∀ i H x H', i < ds.length → Y i H x H' → ∀ F1, Same F F1 → Same F1 H → ∃ F2, Same F1 F2 ∧ Same H H' ∧ Same F2 H' ∧ (∀ a o, F2 a = some o → F1 a = some o ∨ H a = none) ∧ (∀ a c q, H' a = some (LamX.CodeO c q) → H a = some (LamX.CodeO c q) ∨ F2 a = some (LamX.CodeO c q)) ∧ ∃ d, ds[i]? = some d ∧ DV T K F2 x d
theorem WalkD.le {T : Tb} {K : PySem.W.Frag} {J : It} {ds : List D} (e : Same F F') (h : WalkD T K F J ds) : WalkD T K F' J ds := by
  obtain ⟨G, Y, w, hG, hY⟩ := h
  exact ⟨G, Y, w, fun H s => hG H (e.trans s), fun i H x H' hi y F1 s => hY i H x H' hi y F1 (e.trans s)⟩
def PostI (B : Bd) (Pd : List (Addr × HO)) (F : Hp) (σ : L2.St) (Q : It → Hp → Prop) : Out (List D) → Prop
  | .ok ds sd => ∀ (J : It) (F' H' : Hp), Same F F' → Rel B Pd F' σ H' sd → WalkD B.T B.K F' J ds → ds.length ≤ sizeLine → Q J H'
  | .exc c fs sd => PostX B F c fs sd
  | .stuck => False
def tI (B : Bd) (f : LM) : TI := fun σ H R => ∃ Pd F sd, Rel B Pd F σ H sd ∧ PostI B Pd F σ R (f sd)
def EI (B : Bd) (X : Cx) (tg iter : Expr) (f : LM) : Prop := B.K = X.K → PI X tg iter (tI B f)
theorem _root_.L2.PI.imp {X : Cx} {tg e : Expr} {t t' : TI} (h : PI X tg e t) (i : ∀ σ H Q, t' σ H Q → t σ H Q) : PI X tg e t' := ⟨fun pins s σ H Q I q => h.run pins s σ H Q I (i _ _ _ q)⟩
theorem PostI.le {Q : It → Hp → Prop} (e : Same F F') : ∀ {o : Out (List D)}, PostI B Pd F σ Q o → PostI B Pd F' σ Q o
  | .ok _ _, h => fun v F2 H2 s => h v F2 H2 (e.trans s)
  | .exc _ _ _, h => PostX.le e h
  | .stuck, h => h
/-- the frame behind one step of the walk -/
theorem Rel.walk {F2 : Hp} (R : Rel B Pd F σ H sd) (h1 : Same F F2) (h2 : Same H H') (h3 : Same F2 H') (h4 : ∀ a o, F2 a = some o → F a = some o ∨ H a = none) (h5 : ∀ a c q, H' a = some (LamX.CodeO c q) → H a = some (LamX.CodeO c q) ∨ F2 a = some (LamX.CodeO c q)) : Rel B Pd F2 σ H' sd := R.grow h1 h2 h3 h4 h5

/-! ### for -/
def forL (t : GM) (b : SM) : List D → SM
  | [], s => .next s
  | d :: ds, s => match t d s with
    | some s1 => (match b s1 with
      | .next s2 => forL t b ds s2
      | .cont s2 => forL t b ds s2
      | .brk s2 => .next s2
      | o => o)
    | none => .stuck
def forM (f : LM) (t : GM) (b : SM) : SM := fun s => (f s).st fun ds s1 => forL t b ds s1
theorem sv_for {tg iter : Expr} {body : List Stmt} {f : LM} {t : GM} {g : SM} {is : List Nat} (hp : PassesOwn (model X.prog X.w) X.A X.env X.xe) (hc : X.calm = true) (hi : EI B X tg iter f) (hg : EG B X tg is t) (hb : SVs B X body g)
    (hs : ∀ x, foldedSetIterable iter X.env x = pure x) : SV B X (.For tg iter body [] pos) (forM f t g) := fun hk =>
  (ps_for hp hc (hi hk) (hg hk) (hb hk) hs).imp fun E σ H ⟨F0, sd0, R0, p0⟩ => by
    refine ⟨[], F0, sd0, R0, ?_⟩
    unfold forM at p0
    cases e : f sd0 with
    | exc c fs s => rw [e] at p0; exact p0
    | stuck => rw [e] at p0; exact p0
    | ok ds sd1 =>
      rw [e] at p0
      intro J F1 H1 s1 R1 wd _
      obtain ⟨G, Y, w, hG, hY⟩ := wd
      refine for_it w (fun i σ H => ∃ F sd, Same F1 F ∧ Rel B [] F σ H sd ∧ PostS B F E (forL t g (ds.drop i) sd)) ⟨F1, sd1, Same.refl F1, R1, by rw [List.drop_zero]; exact PostS.le s1 p0⟩
        (fun i σ H _ ⟨F, sd, s, R, _⟩ => hG H (s.trans R.sub)) (fun i x σ H H' hi ⟨F, sd, s, R, p⟩ y => ?_) fun σ H ⟨F, sd, s, R, p⟩ => ?_
      · obtain ⟨F2, g1, g2, g3, g4, g5, d, hd, dv⟩ := hY i H x H' hi y F s R.sub
        have R2 := R.walk g1 g2 g3 g4 g5
        have ed : ds.drop i = d :: ds.drop (i + 1) := by
          rw [List.drop_eq_getElem_cons hi]
          congr 1
          rw [List.getElem?_eq_getElem hi] at hd
          exact Option.some.inj hd
        rw [ed] at p
        have p := p.le g1
        unfold forL at p
        cases et : t d sd with
        | none => rw [et] at p; exact p.elim
        | some sd2 =>
          rw [et] at p
          refine ⟨[], F2, sd, d, sd2, R2, dv, et, fun σ' _ R' => ⟨F2, sd2, R', ?_⟩⟩
          dsimp only at p
          cases e : g sd2 with
          | next s2 => rw [e] at p; exact fun σ3 F3 H3 s3 R3 => ⟨F3, s2, (s.trans g1).trans s3, R3, p.le s3⟩
          | cont s2 => rw [e] at p; exact fun σ3 F3 H3 s3 R3 => ⟨F3, s2, (s.trans g1).trans s3, R3, p.le s3⟩
          | brk s2 => rw [e] at p; exact p
          | ret o d s2 => rw [e] at p; cases o <;> exact p
          | exc c fs s2 => rw [e] at p; exact p
          | stuck => rw [e] at p; exact p
      · rw [List.drop_length] at p
        exact p σ F H (Same.refl F) R

/-! the things that are walked -/
theorem tE.thenI {f : EM} {k : D → SD → Out (List D)} {Q : VK} {Q' : It → Hp → Prop} (Rl : Rel B Pd F σ H sd) (h : PostI B Pd F σ Q' ((f sd).bind k))
    (hq : ∀ v d F1 H1 sd1, Same F F1 → Rel B Pd F1 σ H1 sd1 → DV B.T B.K F1 v d → PostI B Pd F1 σ Q' (k d sd1) → Q v H1) : tE B f σ H Q :=
  tE.then (R := fun F' o => PostI B Pd F' σ Q' o) Rl (fun _ _ _ _ h => h) (fun _ h => h) (fun _ _ e h => h.le e) h hq
theorem tL.thenI {f : LM} {k : List D → SD → Out (List D)} {Q : List V → Hp → Prop} {Q' : It → Hp → Prop} (Rl : Rel B Pd F σ H sd) (h : PostI B Pd F σ Q' ((f sd).bind k))
    (hq : ∀ v d F1 H1 sd1, Same F F1 → Rel B Pd F1 σ H1 sd1 → DVs B.T B.K F1 v d → PostI B Pd F1 σ Q' (k d sd1) → Q v H1) : tL B f σ H Q :=
  tL.then (R := fun F' o => PostI B Pd F' σ Q' o) Rl (fun _ _ _ _ h => h) (fun _ h => h) (fun _ _ e h => h.le e) h hq
def listM (f : EM) : LM := fun s => (f s).bind fun d s1 => match d with
  | .lst ds => if ds.length ≤ sizeLine then .ok ds s1 else .stuck
  | _ => .stuck
def tupIM (f : EM) : LM := fun s => (f s).bind fun d s1 => match d with
  | .tup ds => if ds.length ≤ sizeLine then .ok ds s1 else .stuck
  | _ => .stuck
/-- a walk that makes nothing -/
theorem WalkD.plain {T : Tb} {K : PySem.W.Frag} {J : It} {ds : List D} {xs : List V} {G : Hp → Prop} (w : Walk J xs.length G (YAt xs)) (hG : ∀ H, Same F H → G H) (dv : DVs T K F xs ds) : WalkD T K F J ds := by
  refine ⟨G, YAt xs, by rw [← dv.length]; exact w, hG, fun i H x H' hi y F1 s s' => ?_⟩
  obtain ⟨rfl, hx⟩ := y
  obtain ⟨d, hd, q⟩ := dv.get' hx
  exact ⟨F1, Same.refl F1, Same.refl _, s', fun a o h => .inl h, fun a c q h => .inl h, d, hd, q.le s⟩
theorem ei_list {tg e : Expr} {f : EM} (h : EV B X e f) : EI B X tg e (listM f) := fun hk =>
  (pi_list (h hk)).imp fun σ H Q ⟨Pd, F, sd, R, p⟩ => tE.thenI R p fun v d F1 H1 sd1 s1 R1 dv p1 => by
    cases d with
    | lst ds =>
      dsimp only at p1
      split at p1
      · rename_i hz
        obtain ⟨a, vs, rfl, h1, t⟩ := dv.lst_inv
        refine ⟨a, rfl, ⟨vs, SqL.of (R1.sub _ _ h1)⟩, p1 _ F1 H1 (Same.refl F1) R1 (.plain walk_list (fun H s => SqL.of (s _ _ h1)) t) hz⟩
      · exact p1.elim
    | _ => exact p1.elim
theorem ei_tup {tg e : Expr} {f : EM} (h : EV B X e f) : EI B X tg e (tupIM f) := fun hk =>
  (pi_tup (h hk)).imp fun σ H Q ⟨Pd, F, sd, R, p⟩ => tE.thenI R p fun v d F1 H1 sd1 s1 R1 dv p1 => by
    cases d with
    | tup ds =>
      dsimp only at p1
      split at p1
      · rename_i hz
        obtain ⟨a, vs, rfl, h1, t⟩ := dv.tup_inv
        rw [hk] at h1
        exact ⟨a, rfl, ⟨vs, seqT R1.sub h1⟩, p1 _ F1 H1 (Same.refl F1) R1 (.plain walk_tup (fun H s => seqT s h1) t) hz⟩
      · exact p1.elim
    | _ => exact p1.elim
/-- the ints of a range -/
def rangeD (lo : Int) (n : Nat) : List D := (List.range n).map fun i => .int (lo + (i : Nat))
def small62 (i : Int) : Bool := decide (-(2 ^ 62) ≤ i ∧ i < 2 ^ 62)
def rangeM1 (f : EM) : LM := fun s => (f s).bind fun d s1 => match d with
  | .int j => if small62 j && decide (j ≤ 16777216) then .ok (rangeD 0 j.toNat) s1 else .stuck
  | _ => .stuck
def rangeM2 (f g : EM) : LM := fun s => (f s).bind fun d s1 => (g s1).bind fun e s2 => match d, e with
  | .int i, .int j => if small62 i && small62 j && decide (j - i ≤ 16777216) then .ok (rangeD i (j - i).toNat) s2 else .stuck
  | _, _ => .stuck
theorem small62_inv {i : Int} (h : small62 i = true) : -(2 ^ 62) ≤ i ∧ i < 2 ^ 62 := of_decide_eq_true h
theorem WalkD.range {T : Tb} {K : PySem.W.Frag} {lo : Int} {n : Nat} : WalkD T K F (Itr lo n) (rangeD lo n) := by
  refine ⟨_, _, by unfold rangeD; rw [List.length_map, List.length_range]; exact walk_range, fun _ _ => trivial, fun i H x H' hi y F1 s s' => ?_⟩
  obtain ⟨rfl, rfl⟩ := y
  have hi' : i < n := by unfold rangeD at hi; simpa using hi
  exact ⟨F1, Same.refl F1, Same.refl _, s', fun a o h => .inl h, fun a c q h => .inl h, _, by unfold rangeD; rw [List.getElem?_map, List.getElem?_range hi'] <;> rfl, .int _⟩
theorem rangeD_len {lo : Int} {n : Nat} : (rangeD lo n).length = n := by unfold rangeD; simp
theorem ei_range1 {tg a : Expr} {f : EM} {p : Pos} (hg : Gl X "range") (hm : X.mg "range" = none) (ha : EV B X a f) (hs : starEach [a] X.env = [(false, eval a X.env)]) : EI B X tg (.Call (.Name "range" p) [a] [] pos) (rangeM1 f) := fun hk =>
  (pi_range1 hg hm (pa_cons (ha hk) pa_nil hs) hs).imp fun σ H Q ⟨Pd, F, sd, R, p⟩ => tE.thenI R p fun v d F1 H1 sd1 s1 R1 dv p1 => by
    cases d with
    | int j =>
      dsimp only at p1
      split at p1
      · rename_i hj
        rw [Bool.and_eq_true] at hj
        obtain ⟨h1, h3⟩ := small62_inv hj.1
        have h2 := of_decide_eq_true hj.2
        cases dv
        exact ⟨j, rfl, h1, h3, p1 _ F1 H1 (Same.refl F1) R1 .range (by rw [rangeD_len, sizeLine_eq]; omega)⟩
      · exact p1.elim
    | _ => exact p1.elim
theorem ei_range2 {tg a b : Expr} {f g : EM} {p : Pos} (hg : Gl X "range") (hm : X.mg "range" = none) (ha : EV B X a f) (hb : EV B X b g) (hs : starEach [a, b] X.env = [(false, eval a X.env), (false, eval b X.env)]) (hs2 : starEach [b] X.env = [(false, eval b X.env)]) : EI B X tg (.Call (.Name "range" p) [a, b] [] pos) (rangeM2 f g) := fun hk =>
  (pi_range2 hg hm (pa_cons (ha hk) (pa_cons (hb hk) pa_nil hs2) (by rw [hs, hs2])) hs hs2).imp fun σ H Q ⟨Pd, F, sd, R, p⟩ => tE.thenI R p fun v d F1 H1 sd1 s1 R1 dv p1 => tE.thenI R1 p1 fun v2 d2 F2 H2 sd2 s2 R2 dv2 p2 => by
    split at p2
    · split at p2
      · rename_i i j hj
        rw [Bool.and_eq_true, Bool.and_eq_true] at hj
        obtain ⟨h1, h3⟩ := small62_inv hj.1.1
        obtain ⟨h4, h5⟩ := small62_inv hj.1.2
        have h2 := of_decide_eq_true hj.2
        cases dv
        cases dv2
        exact ⟨i, j, rfl, ⟨h1, h3, h4, h5⟩, p2 _ F2 H2 (Same.refl F2) R2 .range (by rw [rangeD_len, sizeLine_eq]; omega)⟩
      · exact p2.elim
    · exact p2.elim
/-- pairs -/
theorem WalkD.pairs {T : Tb} {K : PySem.W.Frag} {J : It} {n : Nat} {xs ys : Nat → Option V} {as bs : Nat → Option D} {ds : List D} {G : Hp → Prop} (w : Walk J n G (YPair xs ys)) (hG : ∀ H, Same F H → G H) (hl : ds.length = n)
    (h1 : ∀ i x, xs i = some x → ∃ d, as i = some d ∧ DV T K F x d) (h2 : ∀ i y, ys i = some y → ∃ d, bs i = some d ∧ DV T K F y d) (hd : ∀ i a b, as i = some a → bs i = some b → i < n → ds[i]? = some (.tup [a, b])) : WalkD T K F J ds := by
  subst hl
  refine ⟨G, _, w, hG, fun i H x H' hi y F1 s s' => ?_⟩
  obtain ⟨t, x1, y1, rfl, hn, rfl, e1, e2⟩ := y
  obtain ⟨a, ha, da⟩ := h1 i x1 e1
  obtain ⟨b, hb, db⟩ := h2 i y1 e2
  have hf : F1 t = none := s'.free hn
  have g := same_upd (o := HO.tup [x1, y1]) hf
  refine ⟨upd F1 t (.tup [x1, y1]), g, same_upd hn, fun b u q => ?_, fun b u q => ?_, fun a c q e => ?_, _, hd i a b ha hb hi, .tup (SqT.of upd_same) (.cons (da.le (s.trans g)) (.cons (db.le (s.trans g)) .nil))⟩
  · by_cases e : b = t
    · subst e; rw [upd_same] at q ⊢; exact q
    · rw [upd_ne e] at q ⊢; exact s' b u q
  · by_cases e : b = t
    · subst e; exact .inr hn
    · rw [upd_ne e] at q; exact .inl q
  · by_cases z : a = t
    · subst z; rw [upd_same] at e ⊢; exact .inr e
    · rw [upd_ne z] at e; exact .inl e
def enumD : Nat → List D → List D
  | _, [] => []
  | i, d :: ds => .tup [.int (i : Nat), d] :: enumD (i + 1) ds
theorem enumD_len : ∀ (n : Nat) (ds : List D), (enumD n ds).length = ds.length
  | _, [] => rfl
  | n, d :: ds => by simp [enumD, enumD_len (n + 1) ds]
theorem enumD_get : ∀ (n : Nat) (ds : List D) (i : Nat) (d : D), ds[i]? = some d → (enumD n ds)[i]? = some (.tup [.int ((n + i : Nat) : Int), d])
  | _, [], _, _, h => by simp at h
  | n, d :: ds, 0, _, h => by simp at h; subst h; rfl
  | n, d :: ds, i + 1, x, h => by
    have q := enumD_get (n + 1) ds i x (by simpa using h)
    have e : n + (i + 1) = n + 1 + i := by omega
    rw [e]
    simpa [enumD] using q
def enumM (f : EM) : LM := fun s => (f s).bind fun d s1 => match d with
  | .lst ds => if ds.length ≤ sizeLine then .ok (enumD 0 ds) s1 else .stuck
  | _ => .stuck
theorem ei_enum {e : Expr} {f : EM} {p tpos : Pos} {elts : List Expr} {kk : Nat} (hg : Gl X "enumerate") (hm : X.mg "enumerate" = none) (h : EV B X e f) (hs : starEach [e] X.env = [(false, eval e X.env)]) : EI B X (.Tuple elts kk tpos) (.Call (.Name "enumerate" p) [e] [] pos) (enumM f) := fun hk =>
  (pi_enum hg hm (pa_cons (h hk) pa_nil hs) hs).imp fun σ H Q ⟨Pd, F, sd, R, p⟩ => tE.thenI R p fun v d F1 H1 sd1 s1 R1 dv p1 => by
    cases d with
    | lst ds =>
      dsimp only at p1
      split at p1
      · rename_i hz
        obtain ⟨a, vs, rfl, h1, t⟩ := dv.lst_inv
        refine ⟨a, vs, rfl, SqL.of (R1.sub _ _ h1), p1 _ F1 H1 (Same.refl F1) R1 ?_ (by rw [enumD_len]; exact hz)⟩
        refine .pairs (as := fun i => some (.int (i : Nat))) (bs := fun i => ds[i]?) walk_enum (fun H s => SqL.of (s _ _ h1)) (by rw [enumD_len, t.length]) (fun i x e => ?_) (fun i y e => t.get' e) fun i a b ha hb _ => ?_
        · cases e; exact ⟨_, rfl, .int _⟩
        · cases ha
          simpa using enumD_get 0 ds i b hb
      · exact p1.elim
    | _ => exact p1.elim
def zipD : List D → List D → List D
  | a :: as, b :: bs => .tup [a, b] :: zipD as bs
  | _, _ => []
theorem zipD_len : ∀ (as bs : List D), (zipD as bs).length = min as.length bs.length
  | [], _ => by simp [zipD]
  | _ :: _, [] => by simp [zipD]
  | a :: as, b :: bs => by simp [zipD, zipD_len as bs]
theorem zipD_get : ∀ (as bs : List D) (i : Nat) (a b : D), as[i]? = some a → bs[i]? = some b → (zipD as bs)[i]? = some (.tup [a, b])
  | [], _, _, _, _, h, _ => by simp at h
  | _ :: _, [], _, _, _, _, h => by simp at h
  | a :: as, b :: bs, 0, _, _, h, h' => by simp at h h'; subst h; subst h'; rfl
  | a :: as, b :: bs, i + 1, x, y, h, h' => zipD_get as bs i x y (by simpa using h) (by simpa using h')
def zipM (f g : EM) : LM := fun s => (f s).bind fun d s1 => (g s1).bind fun e s2 => match d, e with
  | .lst as, .lst bs => if as.length ≤ sizeLine then .ok (zipD as bs) s2 else .stuck
  | _, _ => .stuck
theorem ei_zip {e e2 : Expr} {f g : EM} {p tpos : Pos} {elts : List Expr} {kk : Nat} (hg : Gl X "zip") (hm : X.mg "zip" = none) (h : EV B X e f) (h2 : EV B X e2 g) (hs : starEach [e, e2] X.env = [(false, eval e X.env), (false, eval e2 X.env)]) (hs2 : starEach [e2] X.env = [(false, eval e2 X.env)])
    (hpl : (backTo pos (starEach [e2] X.env)).any (·.1) = false) : EI B X (.Tuple elts kk tpos) (.Call (.Name "zip" p) [e, e2] [] pos) (zipM f g) := fun hk =>
  (pi_zip hg hm (pa_cons (h hk) (pa_cons (h2 hk) pa_nil hs2) (by rw [hs, hs2])) (by rw [hs, hs2]) hpl).imp fun σ H Q ⟨Pd, F, sd, R, p⟩ => tE.thenI R p fun v d F1 H1 sd1 s1 R1 dv p1 => tE.thenI R1 p1 fun v2 d2 F2 H2 sd2 s2 R2 dv2 p2 => by
    split at p2
    · split at p2
      · rename_i as bs hz
        obtain ⟨a, vs, rfl, h1, t⟩ := (dv.le s2).lst_inv
        obtain ⟨b, ws, rfl, k1, u⟩ := dv2.lst_inv
        refine ⟨a, b, vs, ws, rfl, SqL.of (R2.sub _ _ h1), SqL.of (R2.sub _ _ k1), p2 _ F2 H2 (Same.refl F2) R2 ?_ (by rw [zipD_len]; omega)⟩
        exact .pairs (as := fun i => as[i]?) (bs := fun i => bs[i]?) (walk_zip rfl) (fun H s => ⟨SqL.of (s _ _ h1), SqL.of (s _ _ k1)⟩) (by rw [zipD_len, t.length, u.length]) (fun i y e => t.get' e) (fun i y e => u.get' e) fun i a b ha hb _ => zipD_get _ _ _ _ _ ha hb
      · exact p2.elim
    · exact p2.elim
def revM (f : EM) : LM := fun s => (f s).bind fun d s1 => match d with
  | .lst ds => if ds.length ≤ sizeLine then .ok ds.reverse s1 else .stuck
  | _ => .stuck
theorem ei_rev {tg e : Expr} {f : EM} {p : Pos} (hg : Gl X "reversed") (hm : X.mg "reversed" = none) (h : EV B X e f) (hs : starEach [e] X.env = [(false, eval e X.env)]) : EI B X tg (.Call (.Name "reversed" p) [e] [] pos) (revM f) := fun hk =>
  (pi_reversed hg hm (pa_cons (h hk) pa_nil hs) hs).imp fun σ H Q ⟨Pd, F, sd, R, p⟩ => tE.thenI R p fun v d F1 H1 sd1 s1 R1 dv p1 => by
    cases d with
    | lst ds =>
      dsimp only at p1
      split at p1
      · rename_i hz
        obtain ⟨a, vs, rfl, h1, t⟩ := dv.lst_inv
        refine ⟨a, vs, rfl, SqL.of (R1.sub _ _ h1), p1 _ F1 H1 (Same.refl F1) R1 ?_ (by rw [List.length_reverse]; exact hz)⟩
        refine ⟨_, _, by rw [List.length_reverse, ← t.length]; exact walk_rev, fun H s => SqL.of (s _ _ h1), fun i H x H' hi y F1 s s' => ?_⟩
        obtain ⟨rfl, hx⟩ := y
        rw [List.length_reverse] at hi
        obtain ⟨d, hd, q⟩ := t.get' hx
        refine ⟨F1, Same.refl F1, Same.refl _, s', fun a o h => .inl h, fun a c q h => .inl h, d, ?_, q.le s⟩
        rw [List.getElem?_reverse hi, ← t.length]
        exact hd
      · exact p1.elim
    | _ => exact p1.elim

/-! ### comprehensions -/
/-- nothing is raised there -/
abbrev Bd.nox (B : Bd) : Bd := { B with ex := fun _ _ _ _ => False }
theorem Rel.nox (R : Rel B Pd F σ H sd) : Rel B.nox Pd F σ H sd := ⟨R.len, R.frame, R.mm, R.sub, R.f0, R.new, R.slot, R.sep, R.pend, R.pnd, R.muts, R.mlen, R.pins, R.tb, R.ptb⟩
theorem Rel.unnox (R : Rel B.nox Pd F σ H sd) : Rel B Pd F σ H sd := ⟨R.len, R.frame, R.mm, R.sub, R.f0, R.new, R.slot, R.sep, R.pend, R.pnd, R.muts, R.mlen, R.pins, R.tb, R.ptb⟩
def wipeD (s : SD) : List Nat → SD
  | [] => s
  | v :: vs => (wipeD s vs).set v .non
def EVb (B : Bd) (X : Cx) (scope : Scope) (e : Expr) (f : EM) : Prop := ∀ (s : Shared) (H : Hp) (C : Addr) (cl : List (Str × Addr)) (fp : List Addr), EV B.nox (X.blk s H scope (PySem.compEnvC scope cl C X.env) fp) e f
def ETs (B : Bd) (X : Cx) (es : List Expr) (f : TM) : Prop := B.K = X.K → PTs X es (tT B f)
theorem ets_nil : ETs B X [] (fun s => .ok true s) := fun _ => ⟨fun pins s σ H Q I ⟨Pd, F, sd, R, p⟩ => pts_nil.run pins s σ H Q I (p F H (Same.refl F) R)⟩
theorem ets_one {c : Expr} {f : TM} (h : ET B X c f) : ETs B X [c] f := fun hk => pts_one (h hk)
def Out.nx {α : Type} : Out α → Out α
  | .exc _ _ _ => .stuck
  | o => o
/-- the items of a comprehension, one after the other; the block's own names are forgotten behind -/
def lcL (t : GM) (c : TM) (e : EM) (own : List Nat) : List D → List D → SD → Out D
  | [], acc, s => .ok (.lst acc) (wipeD s own)
  | d :: ds, acc, s => match t d (wipeD s own) with
    | some s1 => (c s1).nx.bind fun b s2 => if b then (e s2).nx.bind fun y s3 => lcL t c e own ds (acc ++ [y]) s3 else lcL t c e own ds acc s2
    | none => .stuck
def lcM (f : LM) (t : GM) (c : TM) (e : EM) (own : List Nat) : EM := fun s => (f s).bind fun ds s1 => lcL t c e own ds [] s1
theorem wipeD_len (s : SD) : ∀ vs : List Nat, (wipeD s vs).length = s.length
  | [] => rfl
  | v :: vs => by unfold wipeD; rw [List.length_set, wipeD_len s vs]
theorem wipeD_get {s : SD} {j : Nat} {x : Slot} : ∀ {vs : List Nat}, (wipeD s vs)[j]? = some x → x = .non ∨ (s[j]? = some x ∧ j ∉ vs)
  | [], h => .inr ⟨h, by simp⟩
  | v :: vs, h => by
    unfold wipeD at h
    rcases set_get h with ⟨_, e, _⟩ | ⟨n, h⟩
    · exact .inl e
    · rcases wipeD_get h with e | ⟨e1, e2⟩
      · exact .inl e
      · exact .inr ⟨e1, fun m => (List.mem_cons.mp m).elim (fun z => n z.symm) e2⟩
theorem wipeD_out {s : SD} {j : Nat} : ∀ {vs : List Nat}, j ∉ vs → (wipeD s vs)[j]? = s[j]?
  | [], _ => rfl
  | v :: vs, h => by
    unfold wipeD
    rw [List.getElem?_set_ne (fun z => h (by rw [z]; exact List.mem_cons_self))]
    exact wipeD_out fun m => h (List.mem_cons_of_mem _ m)
theorem wipe_ext {σ σ' : L2.St} {vs : List Nat} (hl : σ'.length = σ.length) (h : ∀ j, j ∉ vs → σ'[j]? = σ[j]?) : wipe σ' vs = wipe σ vs := by
  have inn : ∀ (τ : L2.St) (us : List Nat) (j : Nat), j ∈ us → j < τ.length → (wipe τ us)[j]? = some none := by
    intro τ us
    induction us with
    | nil => intro j h; simp at h
    | cons u us ih =>
      intro j hj hl
      unfold wipe
      by_cases e : u = j
      · subst e
        exact List.getElem?_set_self (by rw [wipe_length]; exact hl)
      · rw [List.getElem?_set_ne e]
        exact ih j ((List.mem_cons.mp hj).elim (fun z => absurd z.symm e) id) hl
  apply List.ext_getElem?
  intro j
  by_cases hj : j ∈ vs
  · by_cases hlt : j < σ.length
    · rw [inn _ _ _ hj hlt, inn _ _ _ hj (by omega)]
    · rw [List.getElem?_eq_none (by rw [wipe_length]; omega), List.getElem?_eq_none (by rw [wipe_length]; omega)]
  · rw [wipe_out hj, wipe_out hj, h j hj]
/-- slots forgotten -/
theorem Rel.forget {σ' : L2.St} {sd' : SD} (R : Rel B Pd F σ H sd) (hl : sd'.length = σ'.length) (h : ∀ (j : Nat) (s : Slot), sd'[j]? = some s → s = .non ∨ (sd[j]? = some s ∧ σ'[j]? = σ[j]?)) (hm : ∀ i ∈ B.lock, sd'[i]? = sd[i]? ∧ σ'[i]? = σ[i]?) : Rel B Pd F σ' H sd' := by
  have own : ∀ (j : Nat) (d : D), sd'[j]? = some (.own d) → sd[j]? = some (.own d) ∧ σ'[j]? = σ[j]? := fun j d q => (h j _ q).elim (fun z => nomatch z) id
  refine ⟨hl, R.frame, R.mm, R.sub, R.f0, R.new, fun j s q => ?_, fun i j d e a q1 q2 a1 a2 => ?_, fun p hp => ?_, R.pnd, fun k j b q1 q2 => ?_, R.mlen, fun p hp => ?_, R.tb, R.ptb⟩
  · rcases h j s q with e | ⟨e1, e2⟩
    · subst e; trivial
    · rw [e2]; exact R.slot j s e1
  · obtain ⟨g1, g2⟩ := own i d q1
    obtain ⟨k1, k2⟩ := own j e q2
    exact R.sep i j d e a g1 k1 (by rw [← g2]; exact a1) (by rw [← k2]; exact a2)
  · obtain ⟨g1, g2, g3, g4⟩ := R.pend p hp
    exact ⟨g1, g2, g3, fun j e q => by obtain ⟨k1, k2⟩ := own j e q; rw [k2]; exact g4 j e k1⟩
  · obtain ⟨e1, e2⟩ := hm j (List.mem_append_left _ (List.mem_of_getElem? q1))
    rw [e1, e2]
    exact R.muts k j b q1 q2
  · rw [(hm p.1 (List.mem_append_right _ (List.mem_map_of_mem hp))).2]
    exact R.pins p hp
theorem Rel.wipe {vs : List Nat} (R : Rel B Pd F σ H sd) (hv : ∀ v ∈ vs, v ∉ B.lock) : Rel B Pd F (L2.wipe σ vs) H (wipeD sd vs) :=
  R.forget (by rw [wipeD_len, wipe_length]; exact R.len) (fun j s q => (wipeD_get q).elim .inl fun ⟨e1, e2⟩ => .inr ⟨e1, wipe_out e2⟩) fun i hi => ⟨wipeD_out fun m => hv i m hi, wipe_out fun m => hv i m hi⟩
theorem Rel.unwipe {vs : List Nat} (R : Rel B Pd F (L2.wipe σ vs) H sd) (hv : ∀ v ∈ vs, v ∉ B.lock) : Rel B Pd F σ H (wipeD sd vs) :=
  R.forget (by rw [wipeD_len, R.len, wipe_length]) (fun j s q => (wipeD_get q).elim .inl fun ⟨e1, e2⟩ => .inr ⟨e1, (wipe_out e2).symm⟩) fun i hi => ⟨wipeD_out fun m => hv i m hi, (wipe_out fun m => hv i m hi).symm⟩
theorem wipeD_idem {s : SD} {vs : List Nat} : wipeD (wipeD s vs) vs = wipeD s vs := by
  have inn : ∀ (τ : SD) (us : List Nat) (j : Nat), j ∈ us → j < τ.length → (wipeD τ us)[j]? = some .non := by
    intro τ us
    induction us with
    | nil => intro j h; simp at h
    | cons u us ih =>
      intro j hj hl
      unfold wipeD
      by_cases e : u = j
      · subst e
        exact List.getElem?_set_self (by rw [wipeD_len]; exact hl)
      · rw [List.getElem?_set_ne e]
        exact ih j ((List.mem_cons.mp hj).elim (fun z => absurd z.symm e) id) hl
  apply List.ext_getElem?
  intro j
  by_cases hj : j ∈ vs
  · by_cases hlt : j < s.length
    · rw [inn _ _ _ hj (by rw [wipeD_len]; exact hlt), inn _ _ _ hj hlt]
    · rw [List.getElem?_eq_none (by rw [wipeD_len, wipeD_len]; omega), List.getElem?_eq_none (by rw [wipeD_len]; omega)]
  · rw [wipeD_out hj]
theorem lcL_wipe {t : GM} {c : TM} {e : EM} {own : List Nat} {ds acc : List D} {s : SD} : lcL t c e own ds acc (wipeD s own) = lcL t c e own ds acc s := by
  cases ds <;> (unfold lcL; rw [wipeD_idem])
/-- [e for t in iter if c] -/
theorem lc_imp {t : GM} {c : TM} {e : EM} {f : LM} {is : List Nat} {own : List Nat} {Q : VK} (hv : ∀ v ∈ own, v ∉ B.lock) (his : ∀ i ∈ is, i ∈ own) (h : tO B (lcM f t c e own) σ H Q) : tLc (tI B f) (tG B.nox is t) (tT B.nox c) (tE B.nox e) own σ H Q := by
  obtain ⟨Pd, F0, sd0, R0, p0⟩ := h
  refine ⟨Pd, F0, sd0, R0, ?_⟩
  unfold lcM at p0
  cases ef : f sd0 with
  | exc c fs s => rw [ef] at p0; exact p0
  | stuck => rw [ef] at p0; exact p0
  | ok ds sd1 =>
    rw [ef] at p0
    intro J F1 H1 s1 R1 wd hz D hD
    obtain ⟨G, Y, w, hG, hY⟩ := wd
    -- back to the def's slots
    have back : ∀ {Pd : List (Addr × HO)} {F H : Hp} {σ2 : L2.St} {sd : SD}, Only is (L2.wipe σ own) σ2 → Rel B.nox Pd F σ2 H sd → Rel B Pd F σ H (wipeD sd own) := fun {Pd F H σ2 sd} on R => by
      have out : ∀ j, j ∉ own → σ2[j]? = σ[j]? := fun j hj => (on.2 j fun z => hj (his j z)).trans (wipe_out hj)
      refine R.unnox.forget (by rw [wipeD_len, R.len, on.1, wipe_length]) (fun j s q => (wipeD_get q).elim .inl fun ⟨e1, e2⟩ => .inr ⟨e1, (out j e2).symm⟩) fun i hi => ⟨wipeD_out fun m => hv i m hi, (out i fun m => hv i m hi).symm⟩
    refine lc_it w (fun i H => ∃ F sd acc vs, Same F1 F ∧ Rel B ((D, .lst vs) :: Pd) F σ H sd ∧ DVs B.T B.K F vs acc ∧ acc.length ≤ i ∧ PostO B Pd F σ Q (lcL t c e own (ds.drop i) acc sd)) ?_ ?_ ?_ ?_
    · exact ⟨F1, sd1, [], [], Same.refl F1, R1.allocP (.lst []) hD nc_lst, .nil, Nat.le_refl _, by rw [List.drop_zero]; exact PostO.le s1 p0⟩
    · rintro i H _ ⟨F, sd, acc, vs, s, R, _⟩
      exact hG H (s.trans R.sub)
    · rintro i x H H' hi ⟨F, sd, acc, vs, s, R, da, hl, p⟩ y
      obtain ⟨F2, g1, g2, g3, g4, g5, d, hd, dv⟩ := hY i H x H' hi y F s R.sub
      have R2 := R.walk g1 g2 g3 g4 g5
      have ed : ds.drop i = d :: ds.drop (i + 1) := by
        rw [List.drop_eq_getElem_cons hi]
        congr 1
        rw [List.getElem?_eq_getElem hi] at hd
        exact Option.some.inj hd
      rw [ed] at p
      have p := p.le g1
      unfold lcL at p
      cases et : t d (wipeD sd own) with
      | none => rw [et] at p; exact p.elim
      | some sd2 =>
        rw [et] at p
        dsimp only at p
        refine ⟨(D, .lst vs) :: Pd, F2, wipeD sd own, d, sd2, (R2.wipe hv).nox, dv, et, fun σ2 on R3 => ⟨?_, (D, .lst vs) :: Pd, F2, sd2, R3, ?_⟩⟩
        · rw [wipe_ext (σ := L2.wipe σ own) on.1 (fun j hj => on.2 j fun z => hj (his j z))]
          exact wipe_ext (by rw [wipe_length]) fun j hj => wipe_out hj
        · cases ec : c sd2 with
          | exc c fs s => rw [ec] at p; exact p.elim
          | stuck => rw [ec] at p; exact p.elim
          | ok b sd3 =>
            rw [ec] at p
            intro F3 H3 s3 R4
            have p := PostO.le s3 p
            dsimp only [Out.nx, Out.bind] at p
            cases b with
            | false =>
              rw [if_neg Bool.false_ne_true] at p ⊢
              exact ⟨F3, wipeD sd3 own, acc, vs, (s.trans g1).trans s3, back on R4, da.le (g1.trans s3), by omega, by rw [lcL_wipe]; exact p⟩
            | true =>
              rw [if_pos rfl] at p ⊢
              refine ⟨(D, .lst vs) :: Pd, F3, sd3, R4, ?_⟩
              cases ee : e sd3 with
              | exc c fs s => rw [ee] at p; exact p.elim
              | stuck => rw [ee] at p; exact p.elim
              | ok z sd4 =>
                rw [ee] at p
                intro v F4 H4 s4 R5 dz
                have p := PostO.le s4 p
                dsimp only [Out.nx, Out.bind] at p
                have da' := da.le ((g1.trans s3).trans s4)
                refine ⟨vs, (R5.pend _ List.mem_cons_self).1, by rw [da.length]; omega, F4, wipeD sd4 own, acc ++ [z], vs ++ [v], ((s.trans g1).trans s3).trans s4, back on (R5.turnP nc_lst), da'.app (.cons dz .nil), by rw [List.length_append, List.length_singleton]; omega, by rw [lcL_wipe]; exact p⟩
    · rintro H ⟨F, sd, acc, vs, s, R, da, hl, p⟩
      rw [List.drop_length] at p
      have R' : Rel B ((D, .lst vs) :: Pd) F σ H (wipeD sd own) := R.forget (by rw [wipeD_len]; exact R.len) (fun j s q => (wipeD_get q).elim .inl fun ⟨e1, e2⟩ => .inr ⟨e1, rfl⟩) fun i hi => ⟨wipeD_out fun m => hv i m hi, rfl⟩
      exact p D (.lst vs) F H (Same.refl F) R' (.lst da)
def EGb (B : Bd) (X : Cx) (scope : Scope) (tg : Expr) (is : List Nat) (t : GM) : Prop := ∀ (s : Shared) (H : Hp) (C : Addr) (cl : List (Str × Addr)) (fp : List Addr), EG B.nox (X.blk s H scope (PySem.compEnvC scope cl C X.env) fp) tg is t
def ETb (B : Bd) (X : Cx) (scope : Scope) (es : List Expr) (f : TM) : Prop := ∀ (s : Shared) (H : Hp) (C : Addr) (cl : List (Str × Addr)) (fp : List Addr), ETs B.nox (X.blk s H scope (PySem.compEnvC scope cl C X.env) fp) es f
theorem eo_lc {elt tg iter : Expr} {ifs : List Expr} {scope : Scope} {own : List (Str × Nat)} {f : LM} {t : GM} {c : TM} {e : EM} {is : List Nat} (hc : X.calm = true) (hN : X.N.Nodup) (hi : EI B X tg iter f) (ok : BlkOk X.N X.env.scope scope own)
    (hg : EGb B X scope tg is t) (ht : ETb B X scope ifs c) (he : EVb B X scope elt e) (hv : ∀ v ∈ own.map (·.2), v ∉ B.lock) (his : ∀ i ∈ is, i ∈ own.map (·.2)) (hs : ∀ x, foldedSetIterable iter X.env x = pure x) :
    EO B X (.ListComp elt [⟨tg, iter, ifs, 0⟩] scope pos) (lcM f t c e (own.map (·.2))) := fun hk =>
  (pe_lc hc hN (hi hk) ok (fun s H C cl fp => hg s H C cl fp hk) (fun s H C cl fp => ht s H C cl fp hk) (fun s H C cl fp => he s H C cl fp hk) hs).imp fun σ H Q h => lc_imp hv his h
/-- name = [..] on one line: the name's value is for good, or the frame's own -/
theorem sv_setLc {i : Nat} {y : Str} {py : Pos} {elt tg iter : Expr} {ifs : List Expr} {scope : Scope} {own : List (Str × Nat)} {lpos : Pos} {f : LM} {t : GM} {c : TM} {e : EM} {is : List Nat} (hc : X.calm = true) (hN : X.N.Nodup) (hy : X.N[i]? = some y) (hyl : X.env.scope.names.lookup y = some .local) (hm : i ∉ B.lock)
    (hsw : swapsWith (.ListComp elt [⟨tg, iter, ifs, 0⟩] scope lpos) (some (.Name y py)) pos.line X.env = pure true) (hi : EI B X tg iter f) (ok : BlkOk X.N X.env.scope scope own)
    (hg : EGb B X scope tg is t) (ht : ETb B X scope ifs c) (he : EVb B X scope elt e) (hv : ∀ v ∈ own.map (·.2), v ∉ B.lock) (his : ∀ i ∈ is, i ∈ own.map (·.2)) (hs : ∀ x, foldedSetIterable iter X.env x = pure x) :
    SV B X (.Assign [.Name y py] (.ListComp elt [⟨tg, iter, ifs, 0⟩] scope lpos) pos) (setOM i (lcM f t c e (own.map (·.2)))) := fun hk =>
  (ps_setLc hc hN hy hyl hsw (hi hk) ok (fun s H C cl fp => hg s H C cl fp hk) (fun s H C cl fp => ht s H C cl fp hk) (fun s H C cl fp => he s H C cl fp hk) hs).imp fun E σ H ⟨F, sd, R, p⟩ =>
    lc_imp hv his (tO.thenS R p fun a o d F1 H1 sd1 s1 R1 co p1 => p1 _ F1 H1 (Same.refl F1) (R1.setO co hm))
end
end Pv

set_option Elab.async false
set_option linter.all false
set_option maxRecDepth 100000
set_option maxHeartbeats 1000000
/-! Pv7: objects: fields, methods, what a class makes, another class's __init__. -/
namespace Pv
open PySem L2
section
variable {B : Bd} {Pd : List (Addr × HO)} {F F' : Hp} {σ : L2.St} {H H' : Hp} {sd : SD} {X : Cx} {E : Ends} {pos : Pos}
/-! ### fields -/
/-- the classes (by their numbers) whose instances have the attribute as a field alone -/
def FldOk (X : Cx) (T : Tb) (cs : List Nat) (f : Str) : Prop := ∀ c ∈ cs, ∀ C, T.cl[c]? = some C → Cls X.K C ∧ NoAttr X.K C f
def gFld (m : Nat) (cs : List Nat) : D → Option D
  | .ins c fs => if cs.contains c then fs.lookup m else none
  | _ => none
def fldM (m : Nat) (cs : List Nat) (f : EM) : EM := fun s => (f s).bind fun d s1 => lift (gFld m cs d) s1
theorem gFld_inv {m : Nat} {cs : List Nat} {d z : D} (h : gFld m cs d = some z) : ∃ c fs, d = .ins c fs ∧ c ∈ cs ∧ fs.lookup m = some z := by
  unfold gFld at h
  split at h
  · split at h
    · exact ⟨_, _, rfl, by simpa using (by assumption : cs.contains _ = true), h⟩
    · cases h
  · cases h
theorem ev_fld {e : Expr} {f : Str} {m : Nat} {cs : List Nat} {u : EM} (hm : B.T.nm[m]? = some f) (hc : FldOk X B.T cs f) (h : EV B X e u) (hb : attributeBase e f X.env (eval e X.env) = eval e X.env) : EV B X (.Attribute e f pos) (fldM m cs u) := fun hk =>
  (pe_fld (h hk) hb).imp fun σ H Q ⟨Pd, F, sd, R, p⟩ => tE.thenE R p fun v d F1 H1 sd1 s1 R1 dv p1 => by
    cases g : gFld m cs d with
    | none => rw [g] at p1; exact p1.elim
    | some z =>
      rw [g] at p1
      obtain ⟨c, fs, rfl, hcs, hl⟩ := gFld_inv g
      cases dv with
      | ins h1 hC t =>
        obtain ⟨y, hy, dy⟩ := t.get hm hl
        obtain ⟨k1, k2⟩ := hc c hcs _ hC
        exact ⟨_, _, _, _, y, rfl, R1.sub _ _ h1, k1, k2, hy, p1 y F1 H1 (Same.refl F1) R1 dy⟩
/-- a field of what a slot holds -/
def fldOwn (i m : Nat) (cs : List Nat) : EM := fun s => lift ((peek s[i]?).bind (gFld m cs)) s
theorem ev_fldOwn {i : Nat} {x : Str} {f : Str} {m : Nat} {cs : List Nat} {p1 : Pos} (hN : X.N[i]? = some x) (hv : Vis X.env.scope x) (hm : B.T.nm[m]? = some f) (hc : FldOk X B.T cs f) (hd : (x == ("__debug__" : Str)) = false) (hcd : (x == ("__classdict__" : Str)) = false)
    (hb : attributeBase (.Name x p1) f X.env (eval (.Name x p1) X.env) = eval (.Name x p1) X.env) : EV B X (.Attribute (.Name x p1) f pos) (fldOwn i m cs) := fun hk =>
  (pe_fld (pe_var hN hv hd hcd) hb).imp fun σ H Q ⟨Pd, F, sd, R, p⟩ => by
    unfold fldOwn at p
    cases q : sd[i]? with
    | none => rw [q] at p; exact p.elim
    | some s =>
      have r := R.slot i s q
      rw [q] at p
      have fin : ∀ {a : Addr} {o : HO} {d : D}, σ[i]? = some (some (.ref a)) → H a = some o → CO B.T B.K F o d → PostE B Pd F σ Q (lift (gFld m cs d) sd) → tFld X.K (tVar i) f σ H Q := fun {a o d} ha ho co p => by
        cases g : gFld m cs d with
        | none => rw [g] at p; exact p.elim
        | some z =>
          rw [g] at p
          obtain ⟨c, fs, rfl, hcs, hl⟩ := gFld_inv g
          cases co with
          | ins hC t =>
            obtain ⟨y, hy, dy⟩ := t.get hm hl
            obtain ⟨k1, k2⟩ := hc c hcs _ hC
            exact ⟨_, ha, a, _, _, _, y, rfl, ho, k1, k2, hy, p y F H (Same.refl F) R dy⟩
      cases s with
      | non => exact p.elim
      | val d =>
        obtain ⟨v, h1, dv⟩ := r
        cases g : gFld m cs d with
        | none =>
          have p : PostE B Pd F σ Q (lift (gFld m cs d) sd) := p
          rw [g] at p; exact p.elim
        | some z =>
          obtain ⟨c, fs, rfl, hcs, hl⟩ := gFld_inv g
          cases dv with
          | ins h2 hC t => exact fin h1 (R.sub _ _ h2) (.ins hC t) p
      | own d => obtain ⟨a, o, h1, _, _, h4, h5⟩ := r; exact fin h1 h4 h5 p
      | view d => obtain ⟨a, o, h1, h2, h3, h4⟩ := r; exact fin h1 (R.frame _ _ h2 h3 h4.nc.2) h4 p
/-- x.f = e, x the frame's own -/
def setFldM (i m : Nat) (cs : List Nat) (u : EM) : SM := fun s => (u s).st fun d s1 => match s1[i]? with
  | some (.own (.ins c fs)) => if cs.contains c && decide (fs.length < 1000) then .next (s1.set i (.own (.ins c (putD m d fs)))) else .stuck
  | _ => .stuck
theorem sv_setFld {i : Nat} {x : Str} {f : Str} {m : Nat} {cs : List Nat} {e : Expr} {u : EM} {p1 p2 : Pos} (hN : X.N[i]? = some x) (hv : Vis X.env.scope x) (hm : B.T.nm[m]? = some f) (hc : FldOk X B.T cs f) (hd : (x == ("__debug__" : Str)) = false) (hcd : (x == ("__classdict__" : Str)) = false) (h : EV B X e u)
    (hs : swapsWith e (some (.Attribute (.Name x p1) f p2)) pos.line X.env = pure false) : SV B X (.Assign [.Attribute (.Name x p1) f p2] e pos) (setFldM i m cs u) := fun hk =>
  (ps_fld (pe_var hN hv hd hcd) (h hk) hs).imp fun E σ H ⟨F, sd, R, p⟩ => tE.thenS R p fun v d F1 H1 sd1 s1 R1 dv p1 => by
    split at p1
    · rename_i c fs q
      split at p1
      · rename_i hcl
        rw [Bool.and_eq_true] at hcl
        obtain ⟨a, o, h1, _, _, h4, h5⟩ := R1.slot i _ q
        cases h5 with
        | ins hC t =>
          obtain ⟨k1, k2⟩ := hc c (by simpa using hcl.1) _ hC
          exact ⟨_, h1, a, _, _, _, rfl, h4, k1, k2, by rw [t.length]; exact of_decide_eq_true hcl.2, p1 σ F1 _ (Same.refl F1) (R1.mutO q h1 (.ins hC (t.put hm dv)))⟩
      · exact p1.elim
    · exact p1.elim

/-! ### methods -/
theorem pe_methD {m : Str} {e o : Expr} {es : List Expr} {ta : TE} {t : TA} {CX : CXT} {E : L2.St → XK} {apos : Pos} {pl : Sem Bool} (he : PE X o ta) (hx : ∀ σ, PassesAt CX X σ (E σ)) (ha : PA X (e :: es) t)
    (hst : starEach (e :: es) X.env = (false, eval e X.env) :: starEach es X.env) (hpl : (backTo pos (starEach es X.env)).any (·.1) = false)
    (ht : eval (.Call (.Attribute o m apos) (e :: es) [] pos) X.env = (do
      let ov ← eval o X.env
      standAt apos.atName
      let (f, first) ← holding [ov] (getMethod ov m pl)
      callWith pos f first (backTo pos (starEach (e :: es) X.env)) (backToKw pos (keywordEach [] X.env)))) :
    PE X (.Call (.Attribute o m apos) (e :: es) [] pos) (fun σ H Q => ta σ H fun x H1 => ∃ (a C dx : Addr) (fs : List (Str × V)) (f : Addr) (fd : FuncData) (ps : List Str) (k : Nat) (sp : Sp), x = .ref a ∧ H1 a = some (.ins C dx fs) ∧ Cls X.K C ∧ Meth X.K C m f ∧ fs.lookup m = none ∧
      FnOk X.prog X.w X.K X.mg X.base CX k f fd ps sp ∧ Room k X.A ∧ Binds X.K fd ps [] ∧ t σ H1 fun vs H2 => sp (x :: vs) H2 Q (E σ)) := by
  refine ⟨fun pins s σ H Q I h => ?_⟩
  refine PySem.W.methodCall_KW (pl := pl) (thn (he.run pins s σ H _ I h) fun u s1 ⟨x, H1, I1, rx, a, C, dx, fs, f, fd, ps, k, sp, ex, ea, c, hm, l, F, hr, hb, q⟩ => ?_) ht
  subst ex
  obtain rfl : u = Value.ref a := rx
  refine getmeth_ok I1 ea c hm l ?_
  refine PySem.W.callWith_K (first := [.ref a]) (h₀ := X.base) I.ok.mod.kin hm.kp (thn (ha.run pos pins s1 σ H1 _ I1 q) fun us s2 ⟨vs, H2, I2, r, q2⟩ => ⟨I2.kIn, ?_⟩) hst hpl
  exact run_fnS (us := .ref a :: us) (vs := .ref a :: vs) F hr hb (hx σ) I2 (.cons rfl r) q2
theorem pe_methD0 {m : Str} {o : Expr} {ta : TE} {CX : CXT} {E : L2.St → XK} {apos : Pos} {pl : Sem Bool} (he : PE X o ta) (hx : ∀ σ, PassesAt CX X σ (E σ))
    (ht : eval (.Call (.Attribute o m apos) [] [] pos) X.env = (do
      let ov ← eval o X.env
      standAt apos.atName
      let (f, first) ← holding [ov] (getMethod ov m pl)
      callWith pos f first (backTo pos (starEach [] X.env)) (backToKw pos (keywordEach [] X.env)))) :
    PE X (.Call (.Attribute o m apos) [] [] pos) (fun σ H Q => ta σ H fun x H1 => ∃ (a C dx : Addr) (fs : List (Str × V)) (f : Addr) (fd : FuncData) (ps : List Str) (k : Nat) (sp : Sp), x = .ref a ∧ H1 a = some (.ins C dx fs) ∧ Cls X.K C ∧ Meth X.K C m f ∧ fs.lookup m = none ∧
      FnOk X.prog X.w X.K X.mg X.base CX k f fd ps sp ∧ Room k X.A ∧ Binds X.K fd ps [] ∧ sp [x] H1 Q (E σ)) := by
  refine ⟨fun pins s σ H Q I h => ?_⟩
  refine PySem.W.methodCall_KW (pl := pl) (thn (he.run pins s σ H _ I h) fun u s1 ⟨x, H1, I1, rx, a, C, dx, fs, f, fd, ps, k, sp, ex, ea, c, hm, l, F, hr, hb, q⟩ => ?_) ht
  subst ex
  obtain rfl : u = Value.ref a := rx
  refine getmeth_ok I1 ea c hm l ?_
  exact PySem.W.callWith_K0 (first := [.ref a]) I1.kIn hm.kp (run_fnS (us := [.ref a]) (vs := [.ref a]) F hr hb (hx σ) I1 (.cons rfl .nil) q)
/-- what is known of a class's method -/
structure MethOk (P : Program) (w : World) (K : PySem.W.Frag) (mg : Str → Option Value) (base : Heap) (T : Tb) (c : Nat) (m : Str) (sig : Sig) (mir : Mir) (k : Nat) : Prop where
  ex : ∃ (C f : Addr) (fd : FuncData) (ps : List Str), T.cl[c]? = some C ∧ Cls K C ∧ Meth K C m f ∧ FnOk P w K mg base (L2.CX P w) k f fd ps (spF T K sig mir) ∧ Binds K fd ps []
def MethsOk (X : Cx) (T : Tb) (m : Str) (sig : Sig) (mt : List (Nat × Mir)) : Prop := ∀ c mir, mt.lookup c = some mir → ∃ k, MethOk X.prog X.w X.K X.mg X.base T c m sig mir k ∧ Room k X.A
/-- the result of a call: new, or for good -/
def PostC (B : Bd) (Pd : List (Addr × HO)) (F : Hp) (σ : L2.St) (Q : VK) (own : Bool) (o : Out D) : Prop := (own = true → PostO B Pd F σ Q o) ∧ (own = false → PostE B Pd F σ Q o)
theorem PostC.le {own : Bool} {Q : VK} {o : Out D} (e : Same F F') (h : PostC B Pd F σ Q own o) : PostC B Pd F' σ Q own o := ⟨fun z => (h.1 z).le e, fun z => (h.2 z).le e⟩
theorem PostC.exc {own : Bool} {Q : VK} {c : Nat} {fs : List (Nat × D)} {s : SD} (h : PostC B Pd F σ Q own (.exc c fs s)) : PostX B F c fs s := by
  cases own with
  | true => exact h.1 rfl
  | false => exact h.2 rfl
theorem PostC.no {own : Bool} {Q : VK} (h : PostC B Pd F σ Q own .stuck) : False := by
  cases own with
  | true => exact h.1 rfl
  | false => exact h.2 rfl
theorem tE.thenC {own : Bool} {f : EM} {k : D → SD → Out D} {Q Q' : VK} (Rl : Rel B Pd F σ H sd) (h : PostC B Pd F σ Q' own ((f sd).bind k))
    (hq : ∀ v d F1 H1 sd1, Same F F1 → Rel B Pd F1 σ H1 sd1 → DV B.T B.K F1 v d → PostC B Pd F1 σ Q' own (k d sd1) → Q v H1) : tE B f σ H Q :=
  tE.then (R := fun F' o => PostC B Pd F' σ Q' own o) Rl (fun _ _ _ _ h => h.exc) (fun _ h => h.no) (fun _ _ e h => h.le e) h hq
theorem tA.thenC {own : Bool} {f : AM} {k : List Arg → SD → Out D} {Q : List V → Hp → Prop} {Q' : VK} (Rl : Rel B Pd F σ H sd) (h : PostC B Pd F σ Q' own ((f sd).bind k))
    (hq : ∀ v d F1 H1 sd1, Same F F1 → Rel B Pd F1 σ H1 sd1 → ArgV B.T B.K F1 σ v d → PostC B Pd F1 σ Q' own (k d sd1) → Q v H1) : tA B f σ H Q :=
  tA.then (R := fun F' o => PostC B Pd F' σ Q' own o) Rl (fun _ _ _ _ h => h.exc) (fun _ h => h.no) (fun _ _ e h => h.le e) h hq
/-- o.m(..), o a value for good: the class tells what it is worth -/
def methM (mt : List (Nat × Mir)) (sig : Sig) (f : EM) (g : AM) : EM := fun s => (f s).bind fun d s1 => match d with
  | .ins c _ => (match mt.lookup c with
    | some mir => (g s1).bind fun as s2 => callR sig mir s2 (.v d :: as)
    | none => .stuck)
  | _ => .stuck
theorem DFs.noname {T : Tb} {K : PySem.W.Frag} {m : Str} (hm : m ∉ T.nm) : ∀ {v : List (Str × V)} {d : List (Nat × D)}, DFs T K F v d → v.lookup m = Option.none
  | _, _, .nil => rfl
  | _, _, .cons (n := n) (m := i) hn h t => by
    rw [List.lookup_cons]
    have ne : m ≠ n := fun z => hm (by rw [z]; exact List.mem_of_getElem? hn)
    rw [show (m == n) = false from by simpa using ne]
    exact DFs.noname hm t
theorem meth_post {m : Str} {sig : Sig} {mt : List (Nat × Mir)} {f : EM} {g : AM} {Q : VK} (hM : MethsOk X B.T m sig mt) (hm : m ∉ B.T.nm) (hk : B.K = X.K) (R : Rel B Pd F σ H sd) (h : PostC B Pd F σ Q sig.own (methM mt sig f g sd)) :
    tE B f σ H fun x H1 => ∃ (a C dx : Addr) (fs : List (Str × V)) (fn : Addr) (fd : FuncData) (ps : List Str) (k : Nat) (sp : Sp), x = .ref a ∧ H1 a = some (.ins C dx fs) ∧ Cls X.K C ∧ Meth X.K C m fn ∧ fs.lookup m = none ∧
      FnOk X.prog X.w X.K X.mg X.base (L2.CX X.prog X.w) k fn fd ps sp ∧ Room k X.A ∧ Binds X.K fd ps [] ∧ tA B g σ H1 fun vs H2 => sp (x :: vs) H2 Q (WE B.ex σ) := by
  refine tE.thenC R h fun x d F1 H1 sd1 s1 R1 dv p1 => ?_
  cases d with
  | ins c fds =>
    dsimp only at p1
    cases e : mt.lookup c with
    | none => rw [e] at p1; exact p1.no.elim
    | some mir =>
      rw [e] at p1
      cases dv with
      | ins h1 hC t =>
        obtain ⟨k, ⟨C', fn, fd, ps, q1, q2, q3, q4, q5⟩, hr⟩ := hM c mir e
        rw [hC] at q1
        obtain rfl := Option.some.inj q1
        refine ⟨_, _, _, _, fn, fd, ps, k, _, rfl, R1.sub _ _ h1, q2, q3, t.noname hm, q4, hr, q5, tA.thenC R1 p1 fun vs as F2 H2 sd2 s2 R2 hA p2 => ?_⟩
        rw [← hk]
        exact call_post R2 (.v (.le s2 (.ins h1 hC t)) hA) p2.1 p2.2
  | _ => exact p1.no.elim
variable {m : Str} {sig : Sig} {mt : List (Nat × Mir)} {o e : Expr} {es : List Expr} {f : EM} {g : AM} {apos : Pos} {pl : Sem Bool}
theorem ev_meth (ho : sig.own = false) (hM : MethsOk X B.T m sig mt) (hm : m ∉ B.T.nm) (tk : Takes X B.ex) (h : EV B X o f) (ha : EA B X (e :: es) g) (hst : starEach (e :: es) X.env = (false, eval e X.env) :: starEach es X.env) (hpl : (backTo pos (starEach es X.env)).any (·.1) = false)
    (ht : eval (.Call (.Attribute o m apos) (e :: es) [] pos) X.env = (do
      let ov ← eval o X.env
      standAt apos.atName
      let (f, first) ← holding [ov] (getMethod ov m pl)
      callWith pos f first (backTo pos (starEach (e :: es) X.env)) (backToKw pos (keywordEach [] X.env)))) : EV B X (.Call (.Attribute o m apos) (e :: es) [] pos) (methM mt sig f g) := fun hk =>
  (pe_methD (h hk) (fun σ => passAt tk σ) (ha hk) hst hpl ht).imp fun σ H Q ⟨Pd, F, sd, R, p⟩ => meth_post hM hm hk R ⟨fun z => (by rw [ho] at z; cases z), fun _ => p⟩
theorem eo_meth (ho : sig.own = true) (hM : MethsOk X B.T m sig mt) (hm : m ∉ B.T.nm) (tk : Takes X B.ex) (h : EV B X o f) (ha : EA B X (e :: es) g) (hst : starEach (e :: es) X.env = (false, eval e X.env) :: starEach es X.env) (hpl : (backTo pos (starEach es X.env)).any (·.1) = false)
    (ht : eval (.Call (.Attribute o m apos) (e :: es) [] pos) X.env = (do
      let ov ← eval o X.env
      standAt apos.atName
      let (f, first) ← holding [ov] (getMethod ov m pl)
      callWith pos f first (backTo pos (starEach (e :: es) X.env)) (backToKw pos (keywordEach [] X.env)))) : EO B X (.Call (.Attribute o m apos) (e :: es) [] pos) (methM mt sig f g) := fun hk =>
  (pe_methD (h hk) (fun σ => passAt tk σ) (ha hk) hst hpl ht).imp fun σ H Q ⟨Pd, F, sd, R, p⟩ => meth_post hM hm hk R ⟨fun _ => p, fun z => by rw [ho] at z; cases z⟩
def nilA : AM := fun s => .ok [] s
theorem meth_post0 {Q : VK} (hM : MethsOk X B.T m sig mt) (hm : m ∉ B.T.nm) (hk : B.K = X.K) (R : Rel B Pd F σ H sd) (h : PostC B Pd F σ Q sig.own (methM mt sig f nilA sd)) :
    tE B f σ H fun x H1 => ∃ (a C dx : Addr) (fs : List (Str × V)) (fn : Addr) (fd : FuncData) (ps : List Str) (k : Nat) (sp : Sp), x = .ref a ∧ H1 a = some (.ins C dx fs) ∧ Cls X.K C ∧ Meth X.K C m fn ∧ fs.lookup m = none ∧
      FnOk X.prog X.w X.K X.mg X.base (L2.CX X.prog X.w) k fn fd ps sp ∧ Room k X.A ∧ Binds X.K fd ps [] ∧ sp [x] H1 Q (WE B.ex σ) := by
  refine tE.thenC R h fun x d F1 H1 sd1 s1 R1 dv p1 => ?_
  cases d with
  | ins c fds =>
    dsimp only at p1
    cases e : mt.lookup c with
    | none => rw [e] at p1; exact p1.no.elim
    | some mir =>
      rw [e] at p1
      cases dv with
      | ins h1 hC t =>
        obtain ⟨k, ⟨C', fn, fd, ps, q1, q2, q3, q4, q5⟩, hr⟩ := hM c mir e
        rw [hC] at q1
        obtain rfl := Option.some.inj q1
        refine ⟨_, _, _, _, fn, fd, ps, k, _, rfl, R1.sub _ _ h1, q2, q3, t.noname hm, q4, hr, q5, ?_⟩
        rw [← hk]
        exact call_post R1 (.v (.ins h1 hC t) .nil) p1.1 p1.2
  | _ => exact p1.no.elim
theorem ev_meth0 (ho : sig.own = false) (hM : MethsOk X B.T m sig mt) (hm : m ∉ B.T.nm) (tk : Takes X B.ex) (h : EV B X o f)
    (ht : eval (.Call (.Attribute o m apos) [] [] pos) X.env = (do
      let ov ← eval o X.env
      standAt apos.atName
      let (f, first) ← holding [ov] (getMethod ov m pl)
      callWith pos f first (backTo pos (starEach [] X.env)) (backToKw pos (keywordEach [] X.env)))) : EV B X (.Call (.Attribute o m apos) [] [] pos) (methM mt sig f nilA) := fun hk =>
  (pe_methD0 (h hk) (fun σ => passAt tk σ) ht).imp fun σ H Q ⟨Pd, F, sd, R, p⟩ => meth_post0 hM hm hk R ⟨fun z => (by rw [ho] at z; cases z), fun _ => p⟩
theorem eo_meth0 (ho : sig.own = true) (hM : MethsOk X B.T m sig mt) (hm : m ∉ B.T.nm) (tk : Takes X B.ex) (h : EV B X o f)
    (ht : eval (.Call (.Attribute o m apos) [] [] pos) X.env = (do
      let ov ← eval o X.env
      standAt apos.atName
      let (f, first) ← holding [ov] (getMethod ov m pl)
      callWith pos f first (backTo pos (starEach [] X.env)) (backToKw pos (keywordEach [] X.env)))) : EO B X (.Call (.Attribute o m apos) [] [] pos) (methM mt sig f nilA) := fun hk =>
  (pe_methD0 (h hk) (fun σ => passAt tk σ) ht).imp fun σ H Q ⟨Pd, F, sd, R, p⟩ => meth_post0 hM hm hk R ⟨fun _ => p, fun z => by rw [ho] at z; cases z⟩

/-! ### a call without arguments -/
theorem pe_call0S {CX : CXT} {k : Nat} {f : Addr} {fd : FuncData} {ps : List Str} {sp : Sp} {E : L2.St → XK} {x : Str} {p : Pos} (F : FnOk X.prog X.w X.K X.mg X.base CX k f fd ps sp) (hr : Room k X.A) (hg : Gl X x) (hm : X.mg x = some (.ref f)) (hk : PySem.W.keepIn X.K (.ref f) = true) (hb : Binds X.K fd ps []) (hx : ∀ σ, PassesAt CX X σ (E σ))
    (hdb : (x == ("__debug__" : Str)) = false) : PE X (.Call (.Name x p) [] [] pos) (fun σ H Q => sp [] H Q (E σ)) := by
  refine ⟨fun pins s σ H Q I h => ?_⟩
  refine wpAny_Call_Name_kw (ld_glob I hg hm ?_ hdb)
  exact PySem.W.callWith_K0 I.kIn hk (run_fnS (us := []) F hr hb (hx σ) I .nil h)
variable {x : Str} {mir : Mir} {k : Nat} {p : Pos}
theorem ev_call0 (G : DefOk X.prog X.w X.K X.mg X.base B.T x sig mir k) (ho : sig.own = false) (hr : Room k X.A) (hg : Gl X x) (tk : Takes X B.ex) (hdb : (x == ("__debug__" : Str)) = false) : EV B X (.Call (.Name x p) [] [] pos) (callM sig mir nilA) := fun hk => by
  obtain ⟨f, fd, ps, hm, FO, kp, hb⟩ := G.ex
  refine (pe_call0S FO hr hg hm kp hb (fun σ => passAt tk σ) hdb).imp fun σ H Q ⟨Pd, F, sd, R, p⟩ => ?_
  rw [← hk]
  exact call_post R .nil (fun z => by rw [ho] at z; cases z) fun _ => p
theorem eo_call0 (G : DefOk X.prog X.w X.K X.mg X.base B.T x sig mir k) (ho : sig.own = true) (hr : Room k X.A) (hg : Gl X x) (tk : Takes X B.ex) (hdb : (x == ("__debug__" : Str)) = false) : EO B X (.Call (.Name x p) [] [] pos) (callM sig mir nilA) := fun hk => by
  obtain ⟨f, fd, ps, hm, FO, kp, hb⟩ := G.ex
  refine (pe_call0S FO hr hg hm kp hb (fun σ => passAt tk σ) hdb).imp fun σ H Q ⟨Pd, F, sd, R, p⟩ => ?_
  rw [← hk]
  exact call_post R .nil (fun _ => p) fun z => by rw [ho] at z; cases z

/-! ### C(..): a new instance -/
theorem run_makeS {CX : CXT} {k : Nat} {f C : Addr} {fd : FuncData} {ps : List Str} {sp : Sp} {E : XK} {pins : List (Addr × Obj)} {s : Shared} {Q : VK} {us : List Value} {vs : List V} (M : Mk X.K C f) (F : FnOk X.prog X.w X.K X.mg X.base CX k f fd ps sp) (hr : Room (k + 1) X.A) (hb : Binds X.K fd ps [])
    (hx : PassesAt CX X σ E) (I : Inv X pins σ H s) (r : Vals vs us)
    (h : ∀ x dx, H x = none → H dx = none → dx ≠ x → sp (.ref x :: vs) (upd (upd H dx (.own x)) x (.ins C dx [])) (fun v H2 => v = .non ∧ Q (.ref x) H2) E) :
    wpAny (model X.prog X.w) X.A (call (.ref C) us) (EP X pins σ Q) X.xe s := by
  have hq := h (s.heap.objs.size + 1) s.heap.objs.size (I.hok.fresh (Nat.le_succ _)) (I.hok.fresh (Nat.le_refl _)) (Nat.ne_of_lt (Nat.lt_succ_self _))
  have I2 := Inv.made (C := C) I
  have r2 : Vals (V.ref (s.heap.objs.size + 1) :: vs) (Value.ref (s.heap.objs.size + 1) :: us) := .cons rfl r
  have hl : (Value.ref (s.heap.objs.size + 1) :: us ++ []).length = ps.length := by
    have e := r2.length
    rw [F.len _ _ _ _ hq] at e
    rw [List.append_nil]
    exact e.symm
  have hb2 := hb _ (Value.ref (s.heap.objs.size + 1) :: us) I2.kIn hl
  rw [List.append_nil] at hb2
  refine wpAny_call (make_map (f := f) I.kIn M.makes M.init (beq_iff_eq.mp M.fn) (codeAny_mono (F.run _ X.stack _ _ ⟨Value.ref (s.heap.objs.size + 1) :: us, []⟩ (Value.ref (s.heap.objs.size + 1) :: us) _ _ E (hr.make C us [])
    (I2.env0.make C us []) hb2 r2 hq) fun r s' hq' => ?_))
  cases r with
  | error e => exact hx pins _ _ e s' I2 hq'
  | ok fl =>
    cases fl with
    | ret u =>
      obtain ⟨v, H', I3, rv, ev, q3⟩ := I2.after hq'
      subst ev
      exact ⟨rv, ⟨V.ref (s.heap.objs.size + 1), H', I3, rfl, q3⟩⟩
    | next => exact False.elim hq'
    | brk => exact False.elim hq'
    | cont => exact False.elim hq'
/-- what is known of a class that is called -/
structure MakeOk (P : Program) (w : World) (K : PySem.W.Frag) (mg : Str → Option Value) (base : Heap) (T : Tb) (x : Str) (c : Nat) (sig : Sig) (mir : Mir) (k : Nat) : Prop where
  ex : ∃ (C f : Addr) (fd : FuncData) (ps : List Str), T.cl[c]? = some C ∧ mg x = some (.ref C) ∧ Mk K C f ∧ FnOk P w K mg base (L2.CX P w) k f fd ps (spF T K ⟨.chg :: sig.modes, false⟩ mir) ∧ Binds K fd ps []
/-- sig: of the arguments behind self -/
def makeR (c : Nat) (sig : Sig) (mir : Mir) (sd : SD) (args : List Arg) : Out D := match argD sd sig.modes args with
  | some (ds, [], _) => (match mir (.ins c [] :: ds) with
    | .ret .non [d] => .ok d sd
    | .exc e fs _ => .exc e fs sd
    | _ => .stuck)
  | _ => .stuck
def makeM (c : Nat) (sig : Sig) (mir : Mir) (g : AM) : EM := fun s => (g s).bind fun as s1 => makeR c sig mir s1 as
theorem ArgsR.up {T : Tb} {K : PySem.W.Frag} {F H H' : Hp} {ms : List Mode} {vs : List V} {ds : List D} {as : List Addr} {x : Addr} (hx : H x = none) (hs : Same H H') (h : ArgsR T K F H [] ms vs ds as) : ArgsR T K F H' [x] ms vs ds as := by
  induction h with
  | nil => exact .nil
  | val dv _ ih => exact .val dv ih
  | chg h1 h2 h3 _ ih => exact .chg (hs _ _ h1) h2 h3 ih
  | view h1 h2 h3 _ ih => exact .view (hs _ _ h1) (fun m => by
      rw [List.mem_singleton] at m
      subst m
      rw [hx] at h1; cases h1) h3 ih
theorem make_post {c : Nat} {C : Addr} {args : List Arg} {vs : List V} {Q : VK} (hC : B.T.cl[c]? = some C) (R : Rel B Pd F σ H sd) (hA : ArgV B.T B.K F σ vs args) (h : PostO B Pd F σ Q (makeR c sig mir sd args)) : ∀ x dx, H x = none → H dx = none → dx ≠ x →
    spF B.T B.K ⟨.chg :: sig.modes, false⟩ mir (.ref x :: vs) (upd (upd H dx (.own x)) x (.ins C dx [])) (fun v H2 => v = .non ∧ Q (.ref x) H2) (WE B.ex σ) := by
  intro x dx hx hdx hne
  unfold makeR at h
  split at h
  · rename_i ds ws q
    obtain ⟨g, _, _⟩ := args_of R [] (fun _ _ _ _ z => by simp at z) hA q (fun _ _ z => by simp at z)
    have s1 : Same H (upd (upd H dx (.own x)) x (.ins C dx [])) := fun b u e => by rw [upd_ne (ne_of_none e hx), upd_ne (ne_of_none e hdx)]; exact e
    have fx : F x = none := R.fnone hx
    refine ⟨F, .ins c [] :: ds, [x], R.sub.trans s1, ?_, .chg upd_same fx (.ins hC .nil) (ArgsR.up hx s1 (by simpa using g)), by simp, ?_⟩
    · have t := R.tb.entry
      have t2 := (t.alloc (o := .own x) hdx (.inl ⟨nc_own, rfl⟩) (R.fnone hdx)).alloc (p := x) (o := .ins C dx []) (by rw [upd_ne hne.symm]; exact hx) (.inl ⟨nc_ins, rfl⟩) fx
      exact t2.entry
    have aft : ∀ {F' H' : Hp} {ms : List D}, Fin B.T B.K F (upd (upd H dx (.own x)) x (.ins C dx [])) [x] F' H' ms → Rel B Pd F' σ H' sd := fun {F' H' ms} fin => by
      refine R.grow' fin.le (fun b u e n => fin.frame b u (s1 b u e) (fun m => ?_) n) fin.sub (fun a o e => ?_) ⟨fin.tb.tab, R.tb.old, fun a ps e => let ⟨qs, q⟩ := R.tb.tl a ps e; fin.tb.tl a qs (s1 _ _ q), fin.tb.cd, fin.tb.nt⟩
      · rw [List.mem_singleton] at m
        subst m
        rw [hx] at e; cases e
      · rcases fin.new a o e with z | z
        · exact .inl z
        · exact .inr (s1.free z)
    cases e : mir (.ins c [] :: ds) with
    | stuck => rw [e] at h; exact h.elim
    | exc cc fs ms =>
      rw [e] at h
      intro C' dx' fvs F' H' hc fin hx' hf
      have R' := aft fin
      exact h C' dx' fvs σ F' H' hc fin.le { R' with pend := fun p hp => by simp at hp, pnd := List.nodup_nil, ptb := fun p hp => by simp at hp } hx' hf
    | ret d ms =>
      rw [e] at h
      split at h
      · rename_i d' e2
        cases e2
        intro v F' H' fin dv
        cases dv
        refine ⟨rfl, ?_⟩
        have R' := aft fin
        cases fin.muts with
        | cons m1 m2 m3 _ =>
          refine h x _ F' H' fin.le { R' with pend := fun q hq => ?_, pnd := ?_, ptb := fun q hq => (List.mem_cons.mp hq).elim (fun z => z ▸ m3.nc.2) (R'.ptb q) } m3
          · rcases List.mem_cons.mp hq with z | hq
            · subst z
              refine ⟨m1, m2, R.h0 hx, fun i d1 hi hσ => ?_⟩
              obtain ⟨b, o, k1, _, _, k4, _⟩ := R.slot i _ hi
              have e5 : some (some (V.ref x)) = some (some (V.ref b)) := hσ.symm.trans k1
              obtain rfl : x = b := by injection e5 with e5; injection e5 with e5; injection e5
              rw [hx] at k4; cases k4
            · exact R'.pend q hq
          · rw [List.map_cons]
            refine List.nodup_cons.mpr ⟨fun m => ?_, R.pnd⟩
            obtain ⟨q, hq, e⟩ := List.mem_map.mp m
            have h1 := (R.pend q hq).1
            rw [e, hx] at h1; cases h1
      · rename_i e2; cases e2
      · exact h.elim
  · exact h.elim
theorem eo_make {c : Nat} (G : MakeOk X.prog X.w X.K X.mg X.base B.T x c sig mir k) (hr : Room (k + 1) X.A) (hg : Gl X x) (tk : Takes X B.ex) (ha : EA B X (e :: es) g) (hdb : (x == ("__debug__" : Str)) = false) (he : starEach (e :: es) X.env = (false, eval e X.env) :: starEach es X.env) (hpl : (backTo pos (starEach es X.env)).any (·.1) = false) :
    EO B X (.Call (.Name x p) (e :: es) [] pos) (makeM c sig mir g) := fun hk => by
  obtain ⟨C, f, fd, ps, hC, hm, M, FO, hb⟩ := G.ex
  refine ⟨fun pins s σ H Q I ⟨Pd, F, sd, R, p⟩ => ?_⟩
  refine wpAny_Call_Name_kw (ld_glob I hg hm ?_ hdb)
  have q : tA B g σ H fun vs H1 => ∀ x dx, H1 x = none → H1 dx = none → dx ≠ x → spF B.T B.K ⟨.chg :: sig.modes, false⟩ mir (.ref x :: vs) (upd (upd H1 dx (.own x)) x (.ins C dx [])) (fun v H2 => v = .non ∧ Q (.ref x) H2) (WE B.ex σ) :=
    tA.then (R := fun F' o => PostO B Pd F' σ Q o) R (fun _ _ _ _ h => h) (fun _ h => h) (fun _ _ e h => h.le e) p fun vs as F1 H1 sd1 s1 R1 hA p1 => make_post hC R1 hA p1
  refine PySem.W.callWith_K (h₀ := X.base) I.ok.mod.kin M.kp (thn ((ha hk).run pos pins s σ H _ I q) fun us s1 ⟨vs, H1, I1, r, q⟩ => ⟨I1.kIn, ?_⟩) he hpl
  rw [hk] at q
  exact run_makeS M FO hr hb (passAt tk σ) I1 r q
theorem eo_make0 {c : Nat} (G : MakeOk X.prog X.w X.K X.mg X.base B.T x c sig mir k) (hr : Room (k + 1) X.A) (hg : Gl X x) (tk : Takes X B.ex) (hdb : (x == ("__debug__" : Str)) = false) : EO B X (.Call (.Name x p) [] [] pos) (makeM c sig mir nilA) := fun hk => by
  obtain ⟨C, f, fd, ps, hC, hm, M, FO, hb⟩ := G.ex
  refine ⟨fun pins s σ H Q I ⟨Pd, F, sd, R, p⟩ => ?_⟩
  refine wpAny_Call_Name_kw (ld_glob I hg hm ?_ hdb)
  have q := make_post (args := []) hC R .nil p
  rw [hk] at q
  exact PySem.W.callWith_K0 I.kIn M.kp (run_makeS (us := []) M FO hr hb (passAt tk σ) I .nil q)

/-! ### C.m(..), a def read off a class -/
structure ClsFn (P : Program) (w : World) (K : PySem.W.Frag) (mg : Str → Option Value) (base : Heap) (T : Tb) (x m : Str) (sig : Sig) (mir : Mir) (k : Nat) : Prop where
  ex : ∃ (C f : Addr) (fd : FuncData) (ps : List Str), mg x = some (.ref C) ∧ ClX.CRead K C (.type "type") ∧ PySem.W.findCls K (.ref C) (.type "type") m = some (.val (.ref f)) ∧ FnOk P w K mg base (L2.CX P w) k f fd ps (spF T K sig mir) ∧ PySem.W.keepIn K (.ref f) = true ∧ Binds K fd ps []
theorem ev_clsfn {p1 p2 : Pos} (G : ClsFn X.prog X.w X.K X.mg X.base B.T x m sig mir k) (ho : sig.own = false) (hr : Room k X.A) (hg : Gl X x) (tk : Takes X B.ex) (ha : EA B X (e :: es) g) (hdb : (x == ("__debug__" : Str)) = false)
    (he : starEach (e :: es) X.env = (false, eval e X.env) :: starEach es X.env) (hpl : (backTo pos (starEach es X.env)).any (·.1) = false)
    (ht : eval (.Call (.Attribute (.Name x p1) m p2) (e :: es) [] pos) X.env = (do
      let ov ← eval (.Name x p1) X.env
      standAt p2.atName
      let (f, first) ← holding [ov] (getMethod ov m pl)
      callWith pos f first (backTo pos (starEach (e :: es) X.env)) (backToKw pos (keywordEach [] X.env)))) : EV B X (.Call (.Attribute (.Name x p1) m p2) (e :: es) [] pos) (callM sig mir g) := fun hk => by
  obtain ⟨C, f, fd, ps, hm, cr, cv, FO, kp, hb⟩ := G.ex
  refine ⟨fun pins s σ H Q I ⟨Pd, F, sd, R, p⟩ => ?_⟩
  refine PySem.W.methodCall_KW (ld_glob I hg hm ?_ hdb) ht
  refine PySem.W.method_cls I.kIn cr.ga (PySem.W.cls_value I.kIn cr.rd cv rfl ?_)
  have I0 : Inv X pins σ H { s with toks := s.toks + 1 } := I.tok _
  have q := tA.call (sig := sig) (mir := mir) R (fun z => by rw [ho] at z; cases z) (fun _ => p)
  refine PySem.W.callWith_K (h₀ := X.base) I.ok.mod.kin kp (thn ((ha hk).run pos pins _ σ H _ I0 q) fun us s1 ⟨vs, H1, I1, r, q⟩ => ⟨I1.kIn, ?_⟩) he hpl
  rw [hk] at q
  exact run_fnS (us := us) FO hr hb (passAt tk σ) I1 r q
end
end Pv

set_option Elab.async false
set_option linter.all false
set_option maxRecDepth 100000
set_option maxHeartbeats 1000000
/-! Pv8: isinstance; exceptions: made, raised, caught. -/
namespace Pv
open PySem L2
/-! ### kinds -/
inductive Kd where
  | int | bool | str | tup | lst | dict | cls (c : Nat)
def isKd (sub : Nat → Nat → Bool) : Kd → D → Bool
  | .int, .int _ => true
  | .int, .bl _ => true
  | .bool, .bl _ => true
  | .str, .str _ => true
  | .tup, .tup _ => true
  | .lst, .lst _ => true
  | .lst, .arr _ => true
  | .dict, .dic _ => true
  | .cls k, .ins c _ => sub c k
  | _, _ => false
def okI (cs : List Nat) : D → Bool
  | .ins c _ => cs.contains c
  | .clo _ _ => false
  | _ => true
def kdTy : Kd → String
  | .int => "int" | .bool => "bool" | .str => "str" | .tup => "tuple" | .lst => "list" | .dict => "dict" | .cls _ => ""
def kdV (T : Tb) : Kd → V
  | .cls c => .ref (T.cl.getD c 0)
  | k => .ty (kdTy k)
def kdU (T : Tb) : Kd → Value
  | .cls c => .ref (T.cl.getD c 0)
  | k => .type (kdTy k)
/-- what the class of an instance must say, so that isinstance asks it rightly -/
structure InsC (K : PySem.W.Frag) (C : Addr) : Prop where
  cl : Cls K C
  ha : PySem.W.findIn K (.ref C) "__class__" = some (some (.builtin "object.__class__"))
  hn : PySem.W.specialIn K (.builtin "object.__class__") "__get__" = some (some (.builtin "getset_descriptor.__get__"))
  ht : PySem.W.takesIn K (.builtin "object.__class__") = some true
  hm : PySem.W.mroIn K C (.type "object") = some true
def dTys : List String := ["NoneType", "bool", "int", "str", "tuple", "list", "dict"]
/-- the answers of isinstance for these kinds, of the instances of the classes cs -/
structure KdOk (K : PySem.W.Frag) (T : Tb) (cs : List Nat) (sub : Nat → Nat → Bool) (k : Kd) : Prop where
  blt : ∀ n ∈ dTys, ∀ c, k = .cls c → PySem.W.kitOne K (.type n) (kdU T k) = some false
  ins : ∀ c ∈ cs, ∀ C, T.cl[c]? = some C → PySem.W.kitOne K (.ref C) (kdU T k) = some (isKd sub k (.ins c []))
def tyD : D → String
  | .non => "NoneType" | .bl _ => "bool" | .int _ => "int" | .str _ => "str" | .tup _ => "tuple" | .lst _ => "list" | .arr _ => "list" | .dic _ => "dict" | .ins _ _ => "" | .clo _ _ => ""
section
variable {B : Bd} {Pd : List (Addr × HO)} {F F' : Hp} {σ : L2.St} {H H' : Hp} {sd : SD} {X : Cx} {E : Ends} {pos : Pos}
theorem kd_blt {sub : Nat → Nat → Bool} {k : Kd} {d : D} (hi : ∀ c fs, d ≠ .ins c fs) (hc : ∀ c fs, d ≠ .clo c fs) (hk : ∀ c, k ≠ .cls c) : kitB (tyD d) (kdTy k) = some (isKd sub k d) := by
  cases d with
  | ins c fs => exact absurd rfl (hi c fs)
  | clo c fs => exact absurd rfl (hc c fs)
  | _ => cases k with
    | cls c => exact absurd rfl (hk c)
    | _ => (simp only [tyD, kdTy, isKd]; decide +kernel)
/-- a value's type -/
theorem DV.tyx {K : PySem.W.Frag} {T : Tb} {cs : List Nat} {v : V} {d : D} (hI : ∀ c ∈ cs, ∀ C, T.cl[c]? = some C → InsC K C) (hs : Same F H) (dv : DV T K F v d) (ho : okI cs d = true) :
    ∃ t, TyX K H v t ∧ ((∀ c fs, d ≠ .ins c fs) ∧ t = .type (tyD d) ∨ ∃ c fs C, d = .ins c fs ∧ c ∈ cs ∧ T.cl[c]? = some C ∧ t = .ref C) := by
  cases dv with
  | non => exact ⟨_, .base .non, .inl ⟨fun _ _ z => (nomatch z), rfl⟩⟩
  | bl b => exact ⟨_, .base (.bl b), .inl ⟨fun _ _ z => (nomatch z), rfl⟩⟩
  | int i => exact ⟨_, .base (.int i), .inl ⟨fun _ _ z => (nomatch z), rfl⟩⟩
  | str x => exact ⟨_, .base (.str x), .inl ⟨fun _ _ z => (nomatch z), rfl⟩⟩
  | tup h t =>
    refine ⟨.type "tuple", ?_, .inl ⟨fun _ _ z => (nomatch z), rfl⟩⟩
    rcases h with (h | ⟨o, h⟩) | ⟨o, its, n, h1, h2, _⟩
    · exact .base (.tup (hs _ _ h))
    · exact .fTuple (hs _ _ h)
    · exact .kTuple h1 h2
  | lst h t => exact ⟨_, .base (.lst (hs _ _ h)), .inl ⟨fun _ _ z => (nomatch z), rfl⟩⟩
  | arr h t =>
    refine ⟨.type "list", ?_, .inl ⟨fun _ _ z => (nomatch z), rfl⟩⟩
    rcases h with (h | ⟨o, h⟩) | ⟨o, its, n, h1, h2, _⟩
    · exact .base (.lst (hs _ _ h))
    · exact .base (.frz (hs _ _ h))
    · exact .kList h1 h2
  | dic0 h => exact ⟨_, .base (.dK (hs _ _ h)), .inl ⟨fun _ _ z => (nomatch z), rfl⟩⟩
  | @ins F a C dx c fvs fds h hC t =>
    have hc : c ∈ cs := by simpa [okI] using ho
    have q := hI _ hc _ hC
    exact ⟨_, .base (.ins (hs _ _ h) q.cl q.ha q.hn q.ht q.hm), .inr ⟨_, _, _, rfl, hc, hC, rfl⟩⟩
  | clo _ _ _ _ _ _ _ _ => cases ho
theorem kd_ans {K : PySem.W.Frag} {T : Tb} {cs : List Nat} {sub : Nat → Nat → Bool} {k : Kd} {d : D} {t : Value} (h : KdOk K T cs sub k) (hc : ∀ c fs, d ≠ .clo c fs) (ht : (∀ c fs, d ≠ .ins c fs) ∧ t = .type (tyD d) ∨ ∃ c fs C, d = .ins c fs ∧ c ∈ cs ∧ T.cl[c]? = some C ∧ t = .ref C) :
    PySem.W.kitOne K t (kdU T k) = some (isKd sub k d) := by
  rcases ht with ⟨hi, rfl⟩ | ⟨c, fs, C, rfl, hcs, hC, rfl⟩
  · by_cases q : ∃ c, k = .cls c
    · obtain ⟨c, rfl⟩ := q
      have hd : tyD d ∈ dTys := by
        cases d with
        | ins c fs => exact absurd rfl (hi c fs)
        | clo c fs => exact absurd rfl (hc c fs)
        | _ => simp [tyD, dTys]
      rw [h.blt _ hd c rfl]
      cases d with
      | ins c fs => exact absurd rfl (hi c fs)
      | _ => rfl
    · have hk : ∀ c, k ≠ .cls c := fun c z => q ⟨c, z⟩
      have e : kdU T k = .type (kdTy k) := by cases k <;> first | rfl | exact absurd rfl (hk _)
      rw [e]
      exact kit_ty (kd_blt hi hc hk)
  · rw [h.ins c hcs C hC]
    cases k <;> rfl
theorem kdV_cls {T : Tb} (k : Kd) : ClsV (kdV T k) (kdU T k) := by
  cases k with
  | cls c => exact .own _
  | _ => exact .ty _
def isiM (cs : List Nat) (sub : Nat → Nat → Bool) (ks : List Kd) (f : EM) : EM := fun s => (f s).bind fun d s1 => if okI cs d then .ok (.bl (ks.any fun k => isKd sub k d)) s1 else .stuck
theorem okI_clo {cs : List Nat} {d : D} (h : okI cs d = true) : ∀ c fs, d ≠ .clo c fs := fun c fs z => by subst z; cases h
/-- isinstance(x, C) -/
theorem ev_isi {e eC : Expr} {f : EM} {cs : List Nat} {sub : Nat → Nat → Bool} {k : Kd} {p : Pos} (hI : ∀ c ∈ cs, ∀ C, B.T.cl[c]? = some C → InsC X.K C) (hk : KdOk X.K B.T cs sub k) (hg : Gl X "isinstance") (hm : X.mg "isinstance" = none) (h : EV B X e f) (hC : PE X eC (tC (kdV B.T k)))
    (hs : starEach [e, eC] X.env = (false, eval e X.env) :: starEach [eC] X.env) (hs2 : starEach [eC] X.env = (false, eval eC X.env) :: starEach [] X.env) (hpl : (backTo pos (starEach [eC] X.env)).any (·.1) = false) : EV B X (.Call (.Name "isinstance" p) [e, eC] [] pos) (isiM cs sub [k] f) := fun hK =>
  (pe_callB call_isi hg hm (by decide +kernel) (pa_cons (h hK) (pa_cons hC pa_nil hs2) hs) (by decide) (by decide) hs hpl).imp fun σ H Q ⟨Pd, F, sd, R, p⟩ => tE.thenE R p fun v d F1 H1 sd1 s1 R1 dv p1 => by
    split at p1
    · rename_i ho
      rw [hK] at dv
      obtain ⟨t, ty, q⟩ := dv.tyx hI R1.sub ho
      refine ⟨v, _, t, _, _, rfl, kdV_cls k, ty, kd_ans hk (okI_clo ho) q, ?_⟩
      have p1 := p1 (.bl (isKd sub k d)) F1 H1 (Same.refl F1) R1
      simp only [List.any_cons, List.any_nil, Bool.or_false] at p1
      exact p1 (.bl _)
    · exact p1.elim
/-- the classes of a written tuple -/
inductive KEs (X : Cx) (T : Tb) : List Expr → List Kd → Prop
  | nil : KEs X T [] []
  | cons {e : Expr} {k : Kd} {es : List Expr} {ks : List Kd} (h : PE X e (tC (kdV T k))) (hs : starEach (e :: es) X.env = (false, eval e X.env) :: starEach es X.env) (t : KEs X T es ks) : KEs X T (e :: es) (k :: ks)
theorem KEs.pa {T : Tb} {es : List Expr} {ks : List Kd} (h : KEs X T es ks) : PA X es (fun _ H Q => Q (ks.map (kdV T)) H) := by
  induction h with
  | nil => exact pa_nil
  | cons h hs _ ih => exact pa_cons h ih hs
theorem isiT_ans {K : PySem.W.Frag} {T : Tb} {cs : List Nat} {sub : Nat → Nat → Bool} {d : D} {t : Value} (hc : ∀ c fs, d ≠ .clo c fs) (ht : (∀ c fs, d ≠ .ins c fs) ∧ t = .type (tyD d) ∨ ∃ c fs C, d = .ins c fs ∧ c ∈ cs ∧ T.cl[c]? = some C ∧ t = .ref C) : ∀ {ks : List Kd}, (∀ k ∈ ks, KdOk K T cs sub k) →
    PySem.W.kitAny K t (ks.map (kdU T)) = some (ks.any fun k => isKd sub k d) ∧ Paired ClsV (ks.map (kdV T)) (ks.map (kdU T))
  | [], _ => ⟨rfl, .nil⟩
  | k :: ks, h => by
    obtain ⟨h1, h2⟩ := isiT_ans hc ht (ks := ks) fun k hk => h k (List.mem_cons_of_mem _ hk)
    have q := kd_ans (h k List.mem_cons_self) hc ht
    refine ⟨kitAny_cons q (fun z => ?_) fun z => ?_, .cons (kdV_cls k) h2⟩
    · rw [List.any_cons, z, Bool.false_or]; exact h1
    · rw [List.any_cons, z, Bool.true_or]
/-- isinstance(x, (C, D, ..)) -/
theorem ev_isiT {e : Expr} {es : List Expr} {f : EM} {cs : List Nat} {sub : Nat → Nat → Bool} {ks : List Kd} {p tp : Pos} {kk : Nat} (hI : ∀ c ∈ cs, ∀ C, B.T.cl[c]? = some C → InsC X.K C) (hk : ∀ k ∈ ks, KdOk X.K B.T cs sub k) (hz : ks.length ≤ 1000) (hg : Gl X "isinstance") (hm : X.mg "isinstance" = none) (h : EV B X e f) (hC : KEs X B.T es ks)
    (hs : starEach [e, .Tuple es kk tp] X.env = (false, eval e X.env) :: starEach [.Tuple es kk tp] X.env) (hs2 : starEach [.Tuple es kk tp] X.env = (false, eval (.Tuple es kk tp) X.env) :: starEach [] X.env) (hpl : (backTo pos (starEach [.Tuple es kk tp] X.env)).any (·.1) = false) :
    EV B X (.Call (.Name "isinstance" p) [e, .Tuple es kk tp] [] pos) (isiM cs sub ks f) := fun hK =>
  (pe_callB call_isiT hg hm (by decide +kernel) (pa_cons (h hK) (pa_cons (pe_tup hC.pa) pa_nil hs2) hs) (by decide) (by decide) hs hpl).imp fun σ H Q ⟨Pd, F, sd, R, p⟩ => tE.thenE R p fun v d F1 H1 sd1 s1 R1 dv p1 => by
    split at p1
    · rename_i ho
      refine ⟨by rw [List.length_map, sizeLine_eq]; omega, fun q hq => ?_⟩
      obtain ⟨R2, s2⟩ := R1.alloc (.tup (ks.map (kdV B.T))) hq
      have dv2 := dv.le s2
      rw [hK] at dv2
      obtain ⟨t, ty, z⟩ := dv2.tyx hI R2.sub ho
      obtain ⟨g1, g2⟩ := isiT_ans (K := X.K) (okI_clo ho) z hk
      exact ⟨v, q, _, t, _, _, rfl, upd_same, g2, ty, g1, p1 _ _ _ s2 R2 (.bl _)⟩
    · exact p1.elim

/-! ### an exception class of the text -/
/-- C.__init__ read off a class at CD whose __init__ is ValueError's -/
theorem pe_dealinit {x : Str} {CD : Addr} {pl : Sem Bool} {e : Expr} {es : List Expr} {ta : TA} {p1 p2 : Pos} (hg : Gl X x) (hm : X.mg x = some (.ref CD)) (hdb : (x == ("__debug__" : Str)) = false) (cr : ClX.CRead X.K CD (.type "type")) (cv : PySem.W.findCls X.K (.ref CD) (.type "type") "__init__" = some (.val (.builtin "ValueError.__init__"))) (ha : PA X (e :: es) ta)
    (hc : eval (.Call (.Attribute (.Name x p1) "__init__" p2) (e :: es) [] pos) X.env = (do
      let ov ← eval (.Name x p1) X.env
      standAt p2.atName
      let (f, first) ← holding [ov] (getMethod ov "__init__" pl)
      callWith pos f first (backTo pos (starEach (e :: es) X.env)) (backToKw pos (keywordEach [] X.env))))
    (he : starEach (e :: es) X.env = (false, eval e X.env) :: starEach es X.env) (hpl : (backTo pos (starEach es X.env)).any (·.1) = false) :
    PE X (.Call (.Attribute (.Name x p1) "__init__" p2) (e :: es) [] pos) (tVeI X.K ta) := by
  refine ⟨fun pins s σ H Q I h => ?_⟩
  refine PySem.W.methodCall_KW (ld_glob I hg hm ?_ hdb) hc
  refine PySem.W.method_cls I.kIn cr.ga (PySem.W.cls_value I.kIn cr.rd cv rfl ?_)
  show wpAny _ _ (callWith pos (Value.builtin "ValueError.__init__") [] (backTo pos (starEach (e :: es) X.env)) []) _ _ _
  refine PyProof.Rows.callWith_method1 (thn (ha.run pos pins _ σ H _ (I.tok _) h) fun us s1 ⟨vs, H1, I1, r1, a, C, ws, ev, hl, T, ea, q⟩ => ?_) he hpl
  subst ev
  cases r1 with
  | @cons _ u0 _ ur ra rw' =>
    obtain rfl : u0 = Value.ref a := ra
    have hlen : ur.length ≤ sizeLine := by
      rw [← Paired.length rw', sizeLine_eq]
      omega
    exact oinit_ok T I1 ea hlen fun s' J => ⟨.non, H1, J, rfl, q⟩
/-- the promise of its own __init__: self.f = the argument -/
def spInit (C : Addr) (f : Str) : Sp := fun vs H Q _ => ∃ (a : Addr) (y : V), vs = [.ref a, y] ∧ H a = some (exo a C none) ∧ ∀ dx, H dx = none → dx ≠ a → Q .non (upd (upd H dx (exd dx [(f, y)])) a (exo a C (some dx)))
/-- what is known of an exception class -/
structure ExcOk (P : Program) (w : World) (K : PySem.W.Frag) (mg : Str → Option Value) (base : Heap) (T : Tb) (x : Str) (c m : Nat) (k : Nat) : Prop where
  ex : ∃ (C fI : Addr) (fd : FuncData) (ps : List Str) (f : Str), T.cl[c]? = some C ∧ T.nm[m]? = some f ∧ mg x = some (.ref C) ∧ OexC K C ∧ PySem.W.findIn K (.ref C) "__init__" = some (some (.ref fI)) ∧ PySem.W.typeIn K (.ref fI) = some (.type "function") ∧
    FnOk P w K mg base (L2.CX P w) k fI fd ps (spInit C f) ∧ Binds K fd ps []
/-- raise C(e) -/
def raiseM (c m : Nat) (f : EM) : SM := fun s => (f s).st fun d s1 => .exc c [(m, d)] s1
theorem passNo {X : Cx} : Passes (L2.CX X.prog X.w) X (fun _ _ _ => False) := passL
theorem sv_raise {x : Str} {c m k : Nat} {e : Expr} {f : EM} {p p1 : Pos} (G : ExcOk X.prog X.w X.K X.mg X.base B.T x c m k) (hr : Room (k + 1) X.A) (hc : X.calm = true) (tk : Takes X B.ex) (hg : Gl X x) (h : EV B X e f) (hdb : (x == ("__debug__" : Str)) = false)
    (he : starEach [e] X.env = (false, eval e X.env) :: starEach [] X.env) (hpl : (backTo p1 (starEach [] X.env)).any (·.1) = false) : SV B X (.Raise (some (.Call (.Name x p) [e] [] p1)) none pos) (raiseM c m f) := fun hk => by
  obtain ⟨C, fI, fd, ps, fn, hC, hn, hm, T, iC, tI, FO, hb⟩ := G.ex
  refine (ps_raise hc tk (pmk_oex T iC tI FO hr hb .nil passNo hg hm (pa_cons (h hk) pa_nil he) hdb he hpl)).imp fun E σ H ⟨F, sd, R, p⟩ => ?_
  refine tE.thenS R p fun v d F1 H1 sd1 s1 R1 dv p1 => ?_
  refine ⟨by simp, fun a ha => ⟨a, v, rfl, upd_same, fun dx hdx hne => ⟨rfl, dx, [(fn, v)], upd_same, by rw [upd_ne hne]; exact upd_same, ?_, ?_⟩⟩⟩
  · rw [upd_ne hne] at hdx; exact hdx
  · have hd0 : H1 dx = none := by rw [upd_ne hne] at hdx; exact hdx
    obtain ⟨R2, s2⟩ := R1.alloc (.xd [(fn, v)]) hd0
    have e1 : upd (del (upd (upd (upd H1 a (exo a C none)) dx (exd dx [(fn, v)])) a (exo a C (some dx))) a) dx (.xd [(fn, v)]) = upd H1 dx (.xd [(fn, v)]) := by
      funext b
      by_cases hb : b = dx
      · subst hb; rw [upd_same, upd_same]
      · rw [upd_ne hb, upd_ne hb]
        by_cases hba : b = a
        · subst hba; rw [del_same, ha]
        · rw [del_ne hba, upd_ne hba, upd_ne hb, upd_ne hba]
    rw [e1]
    exact p1 C dx _ σ _ _ hC s2 R2 upd_same (.cons hn (dv.le s2) .nil)

/-! ### try -/
def SOut.out (i : Nat) : SOut → SOut
  | .next s => .next (s.set i .non)
  | .ret o d s => .ret o d (s.set i .non)
  | .brk s => .brk (s.set i .non)
  | .cont s => .cont (s.set i .non)
  | _ => .stuck
/-- try: .. except X as e: ..; hit: which classes the clause takes; the suite by the class and the fields -/
def tryM (i : Nat) (hit : Nat → Bool) (g : SM) (gh : Nat → List (Nat × D) → SM) : SM := fun s => match g s with
  | .exc c fs s1 => if hit c then (if i < s1.length then (gh c fs (s1.set i .non)).out i else .stuck) else .exc c fs s1
  | o => o
/-- the suite's data -/
structure Suite (B : Bd) (i : Nat) (a : Addr) (cls : Value) (d : Option Addr) (c : Nat) (fs : List (Nat × D)) (B' : Bd) : Prop where
  T : B'.T = B.T
  K : B'.K = B.K
  mi : B'.mi = B.mi
  pin : B'.pin = (i, .ref a) :: B.pin
  ex : ∃ (C dx : Addr) (fvs : List (Str × V)), B.T.cl[c]? = some C ∧ cls = .ref C ∧ d = some dx ∧ B'.F0 dx = some (.xd fvs) ∧ DFs B.T B.K B'.F0 fvs fs
theorem sv_try {x n : Str} {i : Nat} {body suite : List Stmt} {b₀ : Stmt} {np pos' : Pos} {cv : Value} {hit : Nat → Bool} {g : SM} {gh : Nat → List (Nat × D) → SM} (hs : X.stack = X.env :: X.outer) (hf : X.env.frame = some X.env.locals) (hN : X.N.Nodup) (hi : X.N[i]? = some n) (hln : X.env.kindOf n = some .local) (hm : i ∉ B.lock)
    (hc : Names X x cv) (tk : Takes X B.ex) (hx : ∀ (c : Nat) (C : Addr), B.T.cl[c]? = some C → (∃ b, PySem.W.exmOne X.K (.ref C) cv = some b) → PySem.W.exmOne X.K (.ref C) cv = some (hit c)) (hxx : ∀ (c : Nat) (fs : List (Nat × D)) (s s1 : SD), g s = .exc c fs s1 → ∀ C, B.T.cl[c]? = some C → ∃ b, PySem.W.exmOne X.K (.ref C) cv = some b)
    (hb : ∀ (W : WX) (pn : List (Addr × Obj)) (xe : Value → Shared → Prop), Takes (X.tr pn xe) W → PassesOwn (model X.prog X.w) X.A X.env xe → SVs { B with ex := W } (X.tr pn xe) body g)
    (hsu : ∀ (a : Addr) (oe : Obj) (cls : Value) (d : Option Addr) (pn : List (Addr × Obj)), Zc cls d oe → (∃ vs, oe.data = .fields vs) → ∀ (c : Nat) (fs : List (Nat × D)) (B' : Bd), hit c = true → Suite B i a cls d c fs B' → SVs B' (X.suite a ((a, oe) :: pn)) (b₀ :: suite) (gh c fs)) :
    SV B X (.Try body [.ExceptHandler (some (.Name x np)) (some n) (b₀ :: suite) pos'] [] [] pos) (tryM i hit g gh) := fun hk => by
  refine (ps_try_as (tb := fun W => tS { B with ex := W } g) (ts := fun a cls d => fun E σ H => ∃ c fs B', hit c = true ∧ Suite B i a cls d c fs B' ∧ tS B' (gh c fs) E σ H) hs hf hN hi hln hc tk (fun W pn xe tw pw => hb W pn xe tw pw hk) (fun a oe cls d pn hz hv => ?_)).imp fun E σ H ⟨F, sd, R, p⟩ => ?_
  · refine ⟨fun pins s σ H E I ⟨c, fs, B', hh, hS, q⟩ => (hsu a oe cls d pn hz hv c fs B' hh hS (by rw [hS.K]; exact hk)).run pins s σ H E I q⟩
  · refine ⟨F, sd, { R with }, ?_⟩
    unfold tryM at p
    cases e : g sd with
    | next s => rw [e] at p; exact fun σ F' H' h1 h2 => p σ F' H' h1 { h2 with }
    | brk s => rw [e] at p; exact fun σ F' H' h1 h2 => p σ F' H' h1 { h2 with }
    | cont s => rw [e] at p; exact fun σ F' H' h1 h2 => p σ F' H' h1 { h2 with }
    | ret o d s =>
      rw [e] at p
      cases o with
      | false => exact fun v σ F' H' h1 h2 dv => p v σ F' H' h1 { h2 with } dv
      | true => exact fun a o σ F' H' h1 h2 dv => p a o σ F' H' h1 { h2 with } dv
    | stuck => rw [e] at p; exact p
    | exc c fs s1 =>
      rw [e] at p
      dsimp only at p
      intro C dx fvs σ' F1 H1 hC h1 R1 hx1 hf1
      have hex := hx c C hC (hxx c fs sd s1 e C hC)
      refine ⟨hit c, hex, fun hh a ha => ?_, fun hh => ?_⟩
      · rw [if_pos hh] at p
        have R1 : Rel B [] F1 σ' H1 s1 := { R1 with }
        split at p
        · rename_i hlt
          -- the suite's frame
          refine ⟨c, fs, { B with F0 := F1, pin := (i, .ref a) :: B.pin, ex := fun _ _ _ _ => False }, hh, ⟨rfl, rfl, rfl, rfl, C, dx, fvs, hC, rfl, rfl, hx1, hf1⟩, F1, s1.set i .non, ?_, ?_⟩
          · have R2 : Rel B [] F1 (σ'.set i (some (.ref a))) H1 (s1.set i .non) := R1.forget (by rw [List.length_set, List.length_set]; exact R1.len) (fun j s q => (set_get q).elim (fun z => .inl z.2.1) fun z => .inr ⟨z.2, List.getElem?_set_ne z.1⟩)
              (fun j hj => ⟨List.getElem?_set_ne (fun z => hm (by rw [z]; exact hj)), List.getElem?_set_ne (fun z => hm (by rw [z]; exact hj))⟩)
            refine ⟨R2.len, R2.frame, R2.mm, R2.sub, Same.refl F1, fun b o q => .inl q, R2.slot, R2.sep, R2.pend, R2.pnd, R2.muts, R2.mlen, fun q hq => ?_, R2.tb, R2.ptb⟩
            rcases List.mem_cons.mp hq with z | hq
            · subst z
              exact List.getElem?_set_self (by rw [← R1.len]; exact hlt)
            · exact R2.pins q hq
          · -- behind the suite
            have back : ∀ {Pd : List (Addr × HO)} {F2 H2 : Hp} {σ2 : L2.St} {s : SD}, Rel { B with F0 := F1, pin := (i, .ref a) :: B.pin, ex := fun _ _ _ _ => False } Pd F2 σ2 H2 s → Rel B Pd F2 (σ2.set i none) H2 (s.set i .non) := fun {Pd F2 H2 σ2 s} R3 => by
              have R4 : Rel B Pd F2 σ2 H2 s := ⟨R3.len, R3.frame, R3.mm, R3.sub, R1.f0.trans R3.f0, fun b o q => (R3.new b o q).elim (fun z => R1.new b o z) .inr, R3.slot, R3.sep, R3.pend, R3.pnd, R3.muts, R3.mlen, fun q hq => R3.pins q (List.mem_cons_of_mem _ hq), R3.tb, R3.ptb⟩
              exact R4.forget (by rw [List.length_set, List.length_set]; exact R4.len) (fun j s q => (set_get q).elim (fun z => .inl z.2.1) fun z => .inr ⟨z.2, List.getElem?_set_ne z.1⟩)
                (fun j hj => ⟨List.getElem?_set_ne (fun z => hm (by rw [z]; exact hj)), List.getElem?_set_ne (fun z => hm (by rw [z]; exact hj))⟩)
            have p := PostS.le h1 p
            cases e : gh c fs (s1.set i .non) with
            | next s => rw [e] at p; exact fun σ F' H' h1 h2 => p _ F' H' h1 (back h2)
            | brk s => rw [e] at p; exact fun σ F' H' h1 h2 => p _ F' H' h1 (back h2)
            | cont s => rw [e] at p; exact fun σ F' H' h1 h2 => p _ F' H' h1 (back h2)
            | ret o d s =>
              rw [e] at p
              cases o with
              | false => exact fun v σ F' H' h1 h2 dv => p v _ F' H' h1 (back h2) dv
              | true => exact fun a o σ F' H' h1 h2 dv => p a o _ F' H' h1 (back h2) dv
            | stuck => rw [e] at p; exact p
            | exc c fs s => rw [e] at p; exact p.elim
        · exact p.elim
      · rw [hh, if_neg Bool.false_ne_true] at p
        exact p C dx fvs σ' F1 H1 hC h1 { R1 with } hx1 hf1
/-! ### in the suite -/
/-- e.f -/
theorem ev_excFld {B' : Bd} {i c m : Nat} {a : Addr} {oe : Obj} {cls : Value} {d : Option Addr} {pn : List (Addr × Obj)} {fs : List (Nat × D)} {x f : Str} {p1 : Pos} (hS : Suite B i a cls d c fs B') (hz : Zc cls d oe) (hv : ∃ vs, oe.data = .fields vs) (hm : B.T.nm[m]? = some f)
    (hC : ∀ C, B.T.cl[c]? = some C → XfC X.K C ∧ PySem.W.findIn X.K (.ref C) f = some none) (hN : X.N[i]? = some x) (hvis : Vis X.env.scope x) (hd : (x == ("__debug__" : Str)) = false) (hcd : (x == ("__classdict__" : Str)) = false)
    (hb : attributeBase (.Name x p1) f X.env (eval (.Name x p1) X.env) = eval (.Name x p1) X.env) : EV B' (X.suite a ((a, oe) :: pn)) (.Attribute (.Name x p1) f pos) (fun s => lift (fs.lookup m) s) := fun hk => by
  obtain ⟨C, dx, fvs, h1, h2, h3, h4, h5⟩ := hS.ex
  obtain ⟨t1, t2⟩ := hC C h1
  refine (pe_xf t1 t2 hz hv (pe_var (X := X.suite a ((a, oe) :: pn)) hN hvis hd hcd) hb).imp fun σ H Q ⟨Pd, F, sd, R, p⟩ => ?_
  cases e : fs.lookup m with
  | none => rw [e] at p; exact p.elim
  | some z =>
    rw [e] at p
    obtain ⟨y, hy, dy⟩ := h5.get hm e
    have dy' : DV B'.T B'.K F y z := by rw [hS.T, hS.K]; exact dy.le R.f0
    exact ⟨.ref a, R.pins (i, .ref a) (by rw [hS.pin]; exact List.mem_cons_self), rfl, h2, dx, fvs, y, h3, R.sub _ _ (R.f0 _ _ h4), hy, p y F H (Same.refl F) R dy'⟩
/-- what the class of a caught exception must say, so that isinstance asks it rightly -/
structure ExcI (K : PySem.W.Frag) (C : Addr) : Prop where
  cl : (PySem.W.clsIn K C).isSome = true
  hg : PySem.W.findIn K (.ref C) "__getattribute__" = some (some (.builtin "BaseException.__getattribute__"))
  hk : ∃ gt, PySem.W.findIn K (.ref C) "__getattr__" = some gt
  hs : PySem.W.subIn K (.ref C) (.type "BaseException") = some true
  ha : PySem.W.findIn K (.ref C) "__class__" = some (some (.builtin "object.__class__"))
  hn : PySem.W.specialIn K (.builtin "object.__class__") "__get__" = some (some (.builtin "getset_descriptor.__get__"))
  ht : PySem.W.takesIn K (.builtin "object.__class__") = some true
  hm : PySem.W.mroIn K C (.type "object") = some true
theorem excInst {C a dx : Addr} {oe : Obj} {fvs : List (Str × V)} {pins pn : List (Addr × Obj)} {s : Shared} (hz : Zc (.ref C) (some dx) oe) (hv : ∃ vs, oe.data = .fields vs) (I : Inv (X.suite a ((a, oe) :: pn)) pins σ H s) (hd : H dx = some (.xd fvs)) : ∃ od, PySem.W.InstAt s.heap a oe C (some od) := by
  obtain ⟨hget, _⟩ := I.pin (a, oe) (List.mem_append.mpr (.inl List.mem_cons_self))
  obtain ⟨vs, hv⟩ := hv
  have hx : ObjOk X.prog X.w H s.heap dx (.xd fvs) := I.hok dx _ hd
  obtain ⟨mA, hns, _⟩ := hx
  obtain ⟨od, ho, _⟩ := lookIn_ns hns
  exact ⟨od, hget, hz.1, by unfold PySem.W.notCls; rw [hv] <;> rfl, by rw [hz.2]; exact ho⟩
/-- isinstance(e, C) -/
theorem ev_excIs {B' : Bd} {i c : Nat} {a : Addr} {oe : Obj} {cls : Value} {d : Option Addr} {pn : List (Addr × Obj)} {fs : List (Nat × D)} {x : Str} {p p1 : Pos} {eC : Expr} {k : Kd} {b : Bool} (hS : Suite B i a cls d c fs B') (hz : Zc cls d oe) (hv : ∃ vs, oe.data = .fields vs)
    (hC : ∀ C, B.T.cl[c]? = some C → ExcI X.K C ∧ PySem.W.kitOne X.K (.ref C) (kdU B.T k) = some b) (hg : Gl X "isinstance") (hm : X.mg "isinstance" = none) (hE : PE (X.suite a ((a, oe) :: pn)) eC (tC (kdV B.T k))) (hN : X.N[i]? = some x) (hvis : Vis X.env.scope x) (hd : (x == ("__debug__" : Str)) = false) (hcd : (x == ("__classdict__" : Str)) = false)
    (hs : starEach [.Name x p1, eC] X.env = (false, eval (.Name x p1) X.env) :: starEach [eC] X.env) (hs2 : starEach [eC] X.env = (false, eval eC X.env) :: starEach [] X.env) (hpl : (backTo pos (starEach [eC] X.env)).any (·.1) = false) :
    EV B' (X.suite a ((a, oe) :: pn)) (.Call (.Name "isinstance" p) [.Name x p1, eC] [] pos) (fun s => .ok (.bl b) s) := fun hk => by
  obtain ⟨C, dx, fvs, h1, h2, h3, h4, h5⟩ := hS.ex
  subst h2; subst h3
  obtain ⟨t1, t2⟩ := hC C h1
  obtain ⟨gt, hgt⟩ := t1.hk
  have hcall : CallR (X.suite a ((a, oe) :: pn)) (.builtin "isinstance") (fun xs H Q => xs = [.ref a, kdV B.T k] ∧ H dx = some (.xd fvs) ∧ Q (.bl b) H) := by
    intro pins s σ H xs us Q I r ⟨ex, hx, q⟩
    subst ex
    obtain ⟨u1, u2, rfl, r1, r2⟩ := vals2 r
    cases (show u1 = Value.ref a from r1)
    have e2 := (kdV_cls (T := B.T) k).eq r2
    subst e2
    obtain ⟨od, J⟩ := excInst hz hv I hx
    exact PySem.W.kia_one (PySem.W.kitx_exc (ox := oe) (od := some od) t1.cl t1.hg hgt t1.hs t1.ha t1.hn t1.ht t1.hm) I.kIn J t2 (fun z => nomatch z) fun tk => ⟨.bl b, H, I.tok tk, rfl, q⟩
  refine (pe_callB hcall hg hm (by decide +kernel) (pa_cons (pe_var (X := X.suite a ((a, oe) :: pn)) hN hvis hd hcd) (pa_cons hE pa_nil hs2) hs) (by decide) (by decide) hs hpl).imp fun σ H Q ⟨Pd, F, sd, R, p⟩ => ?_
  exact ⟨.ref a, R.pins (i, .ref a) (by rw [hS.pin]; exact List.mem_cons_self), rfl, R.sub _ _ (R.f0 _ _ h4), p _ F H (Same.refl F) R (.bl b)⟩
/-- isinstance(e, (C, D, ..)) -/
theorem ev_excIsT {B' : Bd} {i c : Nat} {a : Addr} {oe : Obj} {cls : Value} {d : Option Addr} {pn : List (Addr × Obj)} {fs : List (Nat × D)} {x : Str} {p p1 tp : Pos} {kk : Nat} {es : List Expr} {ks : List Kd} {b : Bool} (hS : Suite B i a cls d c fs B') (hz : Zc cls d oe) (hv : ∃ vs, oe.data = .fields vs)
    (hC : ∀ C, B.T.cl[c]? = some C → ExcI X.K C ∧ PySem.W.kitAny X.K (.ref C) (ks.map (kdU B.T)) = some b) (hl : ks.length ≤ 1000) (hg : Gl X "isinstance") (hm : X.mg "isinstance" = none) (hE : KEs (X.suite a ((a, oe) :: pn)) B.T es ks) (hN : X.N[i]? = some x) (hvis : Vis X.env.scope x) (hd : (x == ("__debug__" : Str)) = false) (hcd : (x == ("__classdict__" : Str)) = false)
    (hs : starEach [.Name x p1, .Tuple es kk tp] X.env = (false, eval (.Name x p1) X.env) :: starEach [.Tuple es kk tp] X.env) (hs2 : starEach [.Tuple es kk tp] X.env = (false, eval (.Tuple es kk tp) X.env) :: starEach [] X.env) (hpl : (backTo pos (starEach [.Tuple es kk tp] X.env)).any (·.1) = false) :
    EV B' (X.suite a ((a, oe) :: pn)) (.Call (.Name "isinstance" p) [.Name x p1, .Tuple es kk tp] [] pos) (fun s => .ok (.bl b) s) := fun hk => by
  obtain ⟨C, dx, fvs, h1, h2, h3, h4, h5⟩ := hS.ex
  subst h2; subst h3
  obtain ⟨t1, t2⟩ := hC C h1
  obtain ⟨gt, hgt⟩ := t1.hk
  have hcl : ∀ ks : List Kd, Paired ClsV (ks.map (kdV B.T)) (ks.map (kdU B.T)) := fun ks => by
    induction ks with
    | nil => exact .nil
    | cons k ks ih => exact .cons (kdV_cls k) ih
  have hcall : CallR (X.suite a ((a, oe) :: pn)) (.builtin "isinstance") (fun xs H Q => ∃ tp, xs = [.ref a, .ref tp] ∧ H tp = some (.tup (ks.map (kdV B.T))) ∧ H dx = some (.xd fvs) ∧ Q (.bl b) H) := by
    intro pins s σ H xs us Q I r ⟨tp, ex, hT, hx, q⟩
    subst ex
    obtain ⟨u1, u2, rfl, r1, r2⟩ := vals2 r
    cases (show u1 = Value.ref a from r1)
    cases (show u2 = Value.ref tp from r2)
    obtain ⟨od, J⟩ := excInst hz hv I hx
    obtain ⟨_, its, rv, o, g1, g2, n, g3⟩ := (show ObjOk X.prog X.w H s.heap tp (.tup (ks.map (kdV B.T))) from I.hok tp _ hT)
    have e3 := ClsV.all (hcl ks) rv
    subst e3
    obtain ⟨oc, od', dt, sl⟩ := o
    simp only at g2 g3
    subst g2 g3
    exact PySem.W.kia_tup (PySem.W.kitx_exc (ox := oe) (od := some od) t1.cl t1.hg hgt t1.hs t1.ha t1.hn t1.ht t1.hm) I.kIn J g1 t2 (fun z => nomatch z) fun tk => ⟨.bl b, H, I.tok tk, rfl, q⟩
  refine (pe_callB hcall hg hm (by decide +kernel) (pa_cons (pe_var (X := X.suite a ((a, oe) :: pn)) hN hvis hd hcd) (pa_cons (pe_tup hE.pa) pa_nil hs2) hs) (by decide) (by decide) hs hpl).imp fun σ H Q ⟨Pd, F, sd, R, p⟩ => ?_
  refine ⟨.ref a, R.pins (i, .ref a) (by rw [hS.pin]; exact List.mem_cons_self), by rw [List.length_map, sizeLine_eq]; omega, fun q hq => ?_⟩
  obtain ⟨R2, s2⟩ := R.alloc (.tup (ks.map (kdV B.T))) hq
  exact ⟨q, rfl, upd_same, by rw [upd_ne (ne_of_none (R.sub _ _ (R.f0 _ _ h4)) hq)]; exact R.sub _ _ (R.f0 _ _ h4), p _ _ _ s2 R2 (.bl b)⟩
end
end Pv

set_option Elab.async false
set_option linter.all false
set_option maxRecDepth 100000
set_option maxHeartbeats 1000000
/-! Pv9: built-in functions, products, slices, chains of comparisons, in. -/
namespace Pv
open PySem L2
section
variable {B : Bd} {Pd : List (Addr × HO)} {F F' : Hp} {σ : L2.St} {H H' : Hp} {sd : SD} {X : Cx} {E : Ends} {pos : Pos}
/-! ### more operators -/
def mulOk (i j : Int) : Bool := decide (i.natAbs.log2 + j.natAbs.log2 < 1000000)
theorem mulOk_of {i j : Int} {a b : Nat} (ha : i.natAbs < 2 ^ a) (hb : j.natAbs < 2 ^ b) (h0 : 0 < a) (h1 : 0 < b) (h : a + b ≤ 1000000) : mulOk i j = true := decide_eq_true (wide_mul ha hb h0 h1 h)
theorem opv_mul : OpV B X (binaryOp .Mult) (gI mulOk fun i j => .int (i * j)) := opv_I op_mulW (fun i j h => (of_decide_eq_true h : i.natAbs.log2 + j.natAbs.log2 < 1000000)) fun _ _ _ => .int _
def divOk (_ j : Int) : Bool := decide (0 < j ∧ j.natAbs.log2 < 9000)
theorem divOk_of {i j : Int} {b : Nat} (h : 0 < j) (hb : j.natAbs < 2 ^ b) (h0 : 0 < b) (h9 : b ≤ 9000) : divOk i j = true := decide_eq_true (wide_div (i := i) h hb h0 h9)
theorem opv_divW : OpV B X (binaryOp .FloorDiv) (gI divOk fun i j => .int (i / j)) := opv_I op_fdivW (fun i j h => (of_decide_eq_true h : 0 < j ∧ j.natAbs.log2 < 9000)) fun _ _ _ => .int _
/-- * : ints; a list, a text times an int -/
def gMul : D → D → Option D
  | .int i, .int j => if mulOk i j then some (.int (i * j)) else none
  | .lst xs, .int k => if -(2 ^ 63) ≤ k ∧ k < 2 ^ 63 ∧ xs.length * k.toNat ≤ sizeLine then some (.lst (List.replicate k.toNat xs).flatten) else none
  | _, _ => none
@[simp] theorem gMul_int {i j : Int} : gMul (.int i) (.int j) = if mulOk i j then some (.int (i * j)) else none := rfl
theorem DVs.rep {T : Tb} {K : PySem.W.Frag} {vs : List V} {ds : List D} (h : DVs T K F vs ds) : ∀ n : Nat, DVs T K F (List.replicate n vs).flatten (List.replicate n ds).flatten
  | 0 => .nil
  | n + 1 => by
    rw [List.replicate_succ, List.replicate_succ, List.flatten_cons, List.flatten_cons]
    exact h.app (DVs.rep h n)
theorem opv_mulG : OpV B X (binaryOp .Mult) gMul := fun hk =>
  OpR.imp (L2.OpR.or op_mulW op_rep) fun x y H Q ⟨Pd, F, σ, sd, d, e, z, R, d1, d2, g, q⟩ => by
    unfold gMul at g
    split at g
    · rename_i i j
      split at g
      · rename_i hc
        cases g
        exact .inl ⟨_, _, d1.int_inv, d2.int_inv, (of_decide_eq_true hc : i.natAbs.log2 + j.natAbs.log2 < 1000000), q _ _ _ (Same.refl F) R (.int _)⟩
      · cases g
    · split at g
      · rename_i hc
        cases g
        obtain ⟨a, xs, rfl, h1, t1⟩ := d1.lst_inv
        refine .inr ⟨a, _, xs, rfl, d2.int_inv, R.sub _ _ h1, hc.1, hc.2.1, by rw [t1.length]; exact hc.2.2, fun p hp => ?_⟩
        obtain ⟨R', hs⟩ := R.alloc (.lst _) hp
        exact q _ _ _ hs R' (DV.lst upd_same ((t1.rep _).le hs))
      · cases g
    · cases g
def gU (h : Int → D) : D → Option D
  | .int i => some (h i)
  | _ => none
def unM (g : D → Option D) (f : EM) : EM := fun s => (f s).bind fun d s1 => lift (g d) s1
theorem ev_un {op : UnaryOp} {a : Expr} {f : EM} {h : Int → Int} (ho : UnR X (unaryOp op) (rU fun i => .int (h i))) (ha : EV B X a f) : EV B X (.UnaryOp op a pos) (unM (gU fun i => .int (h i)) f) := fun hk =>
  (pe_un ho (ha hk)).imp fun σ H Q ⟨Pd, F, sd, R, p⟩ => tE.thenE R p fun v d F1 H1 sd1 s1 R1 dv p1 => by
    cases d with
    | int i => cases dv; exact ⟨i, rfl, p1 _ F1 H1 (Same.refl F1) R1 (.int _)⟩
    | _ => exact p1.elim
theorem ev_neg {a : Expr} {f : EM} (ha : EV B X a f) : EV B X (.UnaryOp .USub a pos) (unM (gU fun i => .int (-i)) f) := ev_un un_neg ha
/-- a < b < c -/
def chainM (g g' : D → D → Option D) (f1 f2 f3 : EM) : EM := fun s => (f1 s).bind fun d s1 => (f2 s1).bind fun e s2 => match g d e with
  | some (.bl true) => (f3 s2).bind fun z s3 => lift (g' e z) s3
  | some (.bl false) => .ok (.bl false) s2
  | _ => .stuck
theorem tE.thenT {f : EM} {k : D → SD → Out Bool} {Q : VK} {Q' : Bool → Hp → Prop} (Rl : Rel B Pd F σ H sd) (h : PostT B Pd F σ Q' ((f sd).bind k))
    (hq : ∀ v d F1 H1 sd1, Same F F1 → Rel B Pd F1 σ H1 sd1 → DV B.T B.K F1 v d → PostT B Pd F1 σ Q' (k d sd1) → Q v H1) : tE B f σ H Q :=
  tE.then (R := fun F' o => PostT B Pd F' σ Q' o) Rl (fun _ _ _ _ h => h) (fun _ h => h) (fun _ _ e h => h.le e) h hq
theorem chain_imp {op op' : CmpOp} {g g' : D → D → Option D} {f1 f2 f3 : EM} {Q : VK} (h : tE B (chainM g g' f1 f2 f3) σ H Q) : tChain (r2D B g) (r2D B g') (tE B f1) (tE B f2) (tE B f3) σ H Q := by
  obtain ⟨Pd, F, sd, R, p⟩ := h
  refine tE.thenE R p fun v d F1 H1 sd1 s1 R1 dv p1 => tE.thenE R1 p1 fun v2 d2 F2 H2 sd2 s2 R2 dv2 p2 => ?_
  cases e : g d d2 with
  | none => rw [e] at p2; exact p2.elim
  | some z =>
    rw [e] at p2
    refine ⟨Pd, F2, σ, sd2, d, d2, z, R2, dv.le s2, dv2, e, fun v3 F3 H3 s3 R3 dv3 => ?_⟩
    cases z with
    | bl c =>
      cases dv3
      refine ⟨c, rfl, ?_⟩
      cases c with
      | false =>
        have p2 := PostE.le s3 p2
        first
          | exact p2 _ F3 H3 (Same.refl F3) R3 (.bl false)
          | (rw [if_neg Bool.false_ne_true]; exact p2 _ F3 H3 (Same.refl F3) R3 (.bl false))
      | true =>
        have p2 := PostE.le s3 p2
        first
          | rw [if_pos rfl]
          | skip
        refine tE.thenE R3 p2 fun v4 d4 F4 H4 sd4 s4 R4 dv4 p4 => ?_
        cases e' : g' d2 d4 with
        | none => rw [e'] at p4; exact p4.elim
        | some z' =>
          rw [e'] at p4
          exact ⟨Pd, F4, σ, sd4, d2, d4, z', R4, (dv2.le s3).le s4, dv4, e', p4⟩
    | _ => exact p2.elim
theorem ev_chain {op op' : CmpOp} {g g' : D → D → Option D} {a b c : Expr} {f1 f2 f3 : EM} (ho : OpV B X (compareOp op) g) (ho' : OpV B X (compareOp op') g') (ha : EV B X a f1) (hb : EV B X b f2) (hc : EV B X c f3)
    (pc : ∀ {r r' : R2} {ta tb tc : TE}, OpR X (compareOp op) r → OpR X (compareOp op') r' → PE X a ta → PE X b tb → PE X c tc → PE X (.Compare a [op, op'] [b, c] pos) (tChain r r' ta tb tc)) : EV B X (.Compare a [op, op'] [b, c] pos) (chainM g g' f1 f2 f3) := fun hk =>
  (pc (ho hk) (ho' hk) (ha hk) (hb hk) (hc hk)).imp fun σ H Q h => chain_imp (op := op) (op' := op') h
theorem et_chain {op op' : CmpOp} {g g' : D → D → Option D} {a b c : Expr} {f1 f2 f3 : EM} (ho : OpV B X (compareOp op) g) (ho' : OpV B X (compareOp op') g') (ha : EV B X a f1) (hb : EV B X b f2) (hc : EV B X c f3)
    (pc : ∀ {r r' : R2} {ta tb tc : TE}, OpR X (compareOp op) r → OpR X (compareOp op') r' → PE X a ta → PE X b tb → PE X c tc → PT X (.Compare a [op, op'] [b, c] pos) (tTest (tChain r r' ta tb tc))) : ET B X (.Compare a [op, op'] [b, c] pos) (boolM (chainM g g' f1 f2 f3)) := fun hk =>
  (pc (ho hk) (ho' hk) (ha hk) (hb hk) (hc hk)).imp fun σ H Q h => chain_imp (op := op) (op' := op') (tB_imp h)

/-! ### a built-in of one argument: by what the argument bears, for good or owned -/
def PV (B : Bd) (F H : Hp) (v : V) (d : D) : Prop := DV B.T B.K F v d ∨ ∃ a o, v = .ref a ∧ H a = some o ∧ CO B.T B.K F o d
theorem PV.lst {v : V} {ds : List D} (hs : Same F H) (h : PV B F H v (.lst ds)) : ∃ a vs, v = .ref a ∧ H a = some (.lst vs) ∧ DVs B.T B.K F vs ds := by
  rcases h with h | ⟨a, o, rfl, ho, co⟩
  · obtain ⟨a, vs, rfl, h1, t⟩ := h.lst_inv
    exact ⟨a, vs, rfl, hs _ _ h1, t⟩
  · cases co with
    | lst t => exact ⟨a, _, rfl, ho, t⟩
theorem PV.dv {v : V} {d : D} (h : PV B F H v d) (hl : ∀ ds, d ≠ .lst ds) (hi : ∀ c fs, d ≠ .ins c fs) : DV B.T B.K F v d := by
  rcases h with h | ⟨a, o, rfl, ho, co⟩
  · exact h
  · cases co with
    | lst t => exact absurd rfl (hl _)
    | ins _ _ => exact absurd rfl (hi _ _)
/-- by values: g what it gives; own: whether that is new -/
def BltV (B : Bd) (X : Cx) (f : Value) (own : Bool) (g : D → Option D) : Prop := B.K = X.K → CallR X f (fun xs H Q => ∃ x Pd F σ sd d z, xs = [x] ∧ Rel B Pd F σ H sd ∧ PV B F H x d ∧ g d = some z ∧ PostC B Pd F σ Q own (.ok z sd))
def peekM (i : Nat) (g : D → Option D) : EM := fun s => lift ((peek s[i]?).bind g) s
theorem cimp {f : Value} {r r' : List V → Hp → VK → Prop} (h : CallR X f r) (i : ∀ xs H Q, r' xs H Q → r xs H Q) : CallR X f r' := fun pins s σ H xs us Q I rx q => h pins s σ H xs us Q I rx (i _ _ _ q)
variable {x : Str} {e : Expr} {f : EM} {g : D → Option D} {id T : String} {p p1 : Pos} {own : Bool} {i : Nat} {y : Str}
theorem blt_post {Q : VK} (R : Rel B Pd F σ H sd) (h : PostC B Pd F σ Q own (unM g f sd)) : tE B f σ H fun x H1 => (∃ y Pd F σ sd d z, [x] = [y] ∧ Rel B Pd F σ H1 sd ∧ PV B F H1 y d ∧ g d = some z ∧ PostC B Pd F σ Q own (.ok z sd)) :=
  tE.thenC R h fun v d F1 H1 sd1 s1 R1 dv p1 => by
    cases q : g d with
    | none => rw [q] at p1; exact p1.no.elim
    | some z => rw [q] at p1; exact ⟨v, Pd, F1, σ, sd1, d, z, rfl, R1, .inl dv, q, p1⟩
theorem peek_post {Q : VK} (R : Rel B Pd F σ H sd) (h : PostC B Pd F σ Q own (peekM i g sd)) : tVar i σ H fun x H1 => (∃ y Pd F σ sd d z, [x] = [y] ∧ Rel B Pd F σ H1 sd ∧ PV B F H1 y d ∧ g d = some z ∧ PostC B Pd F σ Q own (.ok z sd)) := by
  unfold peekM at h
  cases q : sd[i]? with
  | none => rw [q] at h; exact h.no.elim
  | some s =>
    have r := R.slot i s q
    rw [q] at h
    have go : ∀ (w : V) (d : D), σ[i]? = some (some w) → PV B F H w d → PostC B Pd F σ Q own (lift (g d) sd) → tVar i σ H fun x H1 => (∃ y Pd F σ sd d z, [x] = [y] ∧ Rel B Pd F σ H1 sd ∧ PV B F H1 y d ∧ g d = some z ∧ PostC B Pd F σ Q own (.ok z sd)) := fun w d hw hv p => by
      cases e : g d with
      | none => rw [e] at p; exact p.no.elim
      | some z => rw [e] at p; exact ⟨w, hw, w, Pd, F, σ, sd, d, z, rfl, R, hv, e, p⟩
    cases s with
    | non => exact h.no.elim
    | val d => obtain ⟨w, h1, h2⟩ := r; exact go w d h1 (.inl h2) h
    | own d => obtain ⟨a, o, h1, _, _, h4, h5⟩ := r; exact go _ d h1 (.inr ⟨a, o, rfl, h4, h5⟩) h
    | view d => obtain ⟨a, o, h1, h2, h3, h4⟩ := r; exact go _ d h1 (.inr ⟨a, o, rfl, R.frame _ _ h2 h3 h4.nc.2, h4⟩) h
theorem ev_blt (hb : BltV B X (.builtin id) false g) (hg : Gl X x) (hm : X.mg x = none) (hv : bootBuiltins x = some (.builtin id)) (h : EV B X e f) (hn : x ≠ "__name__") (hdb : (x == ("__debug__" : Str)) = false) (he : starEach [e] X.env = (false, eval e X.env) :: starEach [] X.env) (hpl : (backTo pos (starEach [] X.env)).any (·.1) = false) :
    EV B X (.Call (.Name x p) [e] [] pos) (unM g f) := fun hk => (pe_callB (hb hk) hg hm hv (pa_cons (h hk) pa_nil he) hn hdb he hpl).imp fun σ H Q ⟨Pd, F, sd, R, p⟩ => blt_post R ⟨fun z => (by cases z), fun _ => p⟩
theorem eo_blt (hb : BltV B X (.builtin id) true g) (hg : Gl X x) (hm : X.mg x = none) (hv : bootBuiltins x = some (.builtin id)) (h : EV B X e f) (hn : x ≠ "__name__") (hdb : (x == ("__debug__" : Str)) = false) (he : starEach [e] X.env = (false, eval e X.env) :: starEach [] X.env) (hpl : (backTo pos (starEach [] X.env)).any (·.1) = false) :
    EO B X (.Call (.Name x p) [e] [] pos) (unM g f) := fun hk => (pe_callB (hb hk) hg hm hv (pa_cons (h hk) pa_nil he) hn hdb he hpl).imp fun σ H Q ⟨Pd, F, sd, R, p⟩ => blt_post R ⟨fun _ => p, fun z => (by cases z)⟩
theorem ev_bltT (hb : BltV B X (.type T) false g) (hg : Gl X x) (hm : X.mg x = none) (hv : bootBuiltins x = some (.type T)) (h : EV B X e f) (hn : x ≠ "__name__") (hdb : (x == ("__debug__" : Str)) = false) (he : starEach [e] X.env = (false, eval e X.env) :: starEach [] X.env) (hpl : (backTo pos (starEach [] X.env)).any (·.1) = false) :
    EV B X (.Call (.Name x p) [e] [] pos) (unM g f) := fun hk => (pe_callTy (hb hk) hg hm hv (pa_cons (h hk) pa_nil he) hn hdb he hpl).imp fun σ H Q ⟨Pd, F, sd, R, p⟩ => blt_post R ⟨fun z => (by cases z), fun _ => p⟩
theorem eo_bltT (hb : BltV B X (.type T) true g) (hg : Gl X x) (hm : X.mg x = none) (hv : bootBuiltins x = some (.type T)) (h : EV B X e f) (hn : x ≠ "__name__") (hdb : (x == ("__debug__" : Str)) = false) (he : starEach [e] X.env = (false, eval e X.env) :: starEach [] X.env) (hpl : (backTo pos (starEach [] X.env)).any (·.1) = false) :
    EO B X (.Call (.Name x p) [e] [] pos) (unM g f) := fun hk => (pe_callTy (hb hk) hg hm hv (pa_cons (h hk) pa_nil he) hn hdb he hpl).imp fun σ H Q ⟨Pd, F, sd, R, p⟩ => blt_post R ⟨fun _ => p, fun z => (by cases z)⟩
/-! .. of what a slot holds -/
theorem ev_bltS (hb : BltV B X (.builtin id) false g) (hg : Gl X x) (hm : X.mg x = none) (hv : bootBuiltins x = some (.builtin id)) (hN : X.N[i]? = some y) (hvi : Vis X.env.scope y) (hd : (y == ("__debug__" : Str)) = false) (hcd : (y == ("__classdict__" : Str)) = false) (hn : x ≠ "__name__") (hdb : (x == ("__debug__" : Str)) = false)
    (he : starEach [.Name y p1] X.env = (false, eval (.Name y p1) X.env) :: starEach [] X.env) (hpl : (backTo pos (starEach [] X.env)).any (·.1) = false) : EV B X (.Call (.Name x p) [.Name y p1] [] pos) (peekM i g) := fun hk =>
  (pe_callB (hb hk) hg hm hv (pa_cons (pe_var hN hvi hd hcd) pa_nil he) hn hdb he hpl).imp fun σ H Q ⟨Pd, F, sd, R, p⟩ => peek_post R ⟨fun z => (by cases z), fun _ => p⟩
theorem eo_bltTS (hb : BltV B X (.type T) true g) (hg : Gl X x) (hm : X.mg x = none) (hv : bootBuiltins x = some (.type T)) (hN : X.N[i]? = some y) (hvi : Vis X.env.scope y) (hd : (y == ("__debug__" : Str)) = false) (hcd : (y == ("__classdict__" : Str)) = false) (hn : x ≠ "__name__") (hdb : (x == ("__debug__" : Str)) = false)
    (he : starEach [.Name y p1] X.env = (false, eval (.Name y p1) X.env) :: starEach [] X.env) (hpl : (backTo pos (starEach [] X.env)).any (·.1) = false) : EO B X (.Call (.Name x p) [.Name y p1] [] pos) (peekM i g) := fun hk =>
  (pe_callTy (hb hk) hg hm hv (pa_cons (pe_var hN hvi hd hcd) pa_nil he) hn hdb he hpl).imp fun σ H Q ⟨Pd, F, sd, R, p⟩ => peek_post R ⟨fun _ => p, fun z => (by cases z)⟩
/-! the built-ins -/
def gLen : D → Option D
  | .lst xs => some (.int (xs.length : Nat))
  | .arr xs => some (.int (xs.length : Nat))
  | .tup xs => some (.int (xs.length : Nat))
  | .str z => if z.length ≤ sizeLine then some (.int (z.length : Nat)) else none
  | _ => none
theorem cor {f : Value} {r r' : List V → Hp → VK → Prop} (h : CallR X f r) (h' : CallR X f r') : CallR X f (fun xs H Q => r xs H Q ∨ r' xs H Q) := fun pins s σ H xs us Q I rx q => q.elim (h pins s σ H xs us Q I rx) (h' pins s σ H xs us Q I rx)
theorem blt_len : BltV B X (.builtin "len") false gLen := fun hk => cimp (cor call_len_seq call_len_str) fun xs H Q ⟨v, Pd, F, σ, sd, d, z, ex, R, dv, g, q⟩ => by
  subst ex
  have q := q.2 rfl
  unfold gLen at g
  split at g
  · cases g
    obtain ⟨a, vs, rfl, h1, t⟩ := dv.lst R.sub
    exact .inl ⟨a, vs, rfl, .inl (SqL.of h1), by rw [t.length]; exact q _ F H (Same.refl F) R (.int _)⟩
  · cases g
    cases dv.dv (fun _ z => nomatch z) (fun _ _ z => nomatch z) with
    | arr h1 t => rw [hk] at h1; exact .inl ⟨_, _, rfl, .inl (R.sub.seq h1), by rw [t.length]; exact q _ F H (Same.refl F) R (.int _)⟩
  · cases g
    cases dv.dv (fun _ z => nomatch z) (fun _ _ z => nomatch z) with
    | tup h1 t => rw [hk] at h1; exact .inl ⟨_, _, rfl, .inr (seqT R.sub h1), by rw [t.length]; exact q _ F H (Same.refl F) R (.int _)⟩
  · split at g
    · cases g
      cases dv.dv (fun _ z => nomatch z) (fun _ _ z => nomatch z)
      exact .inr ⟨_, rfl, by assumption, q _ F H (Same.refl F) R (.int _)⟩
    · cases g
  · cases g
/-- list(x) -/
def gList : D → Option D
  | .lst xs => some (.lst xs)
  | .tup xs => some (.lst xs)
  | _ => none
theorem blt_list : BltV B X (.type "list") true gList := fun hk => cimp call_list_of fun xs H Q ⟨v, Pd, F, σ, sd, d, z, ex, R, dv, g, q⟩ => by
  subst ex
  have q := q.1 rfl
  unfold gList at g
  split at g
  · cases g
    obtain ⟨a, vs, rfl, h1, t⟩ := dv.lst R.sub
    exact ⟨a, vs, rfl, .inl (SqL.of h1), fun l hl => q l _ F _ (Same.refl F) (R.allocP (.lst vs) hl nc_lst) (.lst t)⟩
  · cases g
    cases dv.dv (fun _ z => nomatch z) (fun _ _ z => nomatch z) with
    | tup h1 t => rw [hk] at h1; exact ⟨_, _, rfl, .inr (seqT R.sub h1), fun l hl => q l _ F _ (Same.refl F) (R.allocP (.lst _) hl nc_lst) (.lst t)⟩
  · cases g
/-- tuple(x) -/
def gTuple : D → Option D
  | .lst xs => some (.tup xs)
  | .tup xs => some (.tup xs)
  | _ => none
theorem blt_tuple : BltV B X (.type "tuple") false gTuple := fun hk => cimp call_tuple_of fun xs H Q ⟨v, Pd, F, σ, sd, d, z, ex, R, dv, g, q⟩ => by
  subst ex
  have q := q.2 rfl
  unfold gTuple at g
  split at g
  · cases g
    obtain ⟨a, vs, rfl, h1, t⟩ := dv.lst R.sub
    refine ⟨a, vs, rfl, .inl ⟨SqL.of h1, fun l hl => ?_⟩⟩
    obtain ⟨R', hs⟩ := R.alloc (.tup vs) hl
    exact q _ _ _ hs R' (.tup (SqT.of upd_same) (t.le hs))
  · cases g
    cases dv.dv (fun _ z => nomatch z) (fun _ _ z => nomatch z) with
    | tup h1 t => exact ⟨_, _, rfl, .inr ⟨by rw [hk] at h1; exact seqT R.sub h1, q _ F H (Same.refl F) R (.tup h1 t)⟩⟩
  · cases g
def intsD : List D → Option (List Int)
  | [] => some []
  | .int i :: r => (intsD r).map (i :: ·)
  | _ => none
theorem DVs.ints {T : Tb} {K : PySem.W.Frag} : ∀ {vs : List V} {ds : List D} {ns : List Int}, DVs T K F vs ds → intsD ds = some ns → vs = ns.map V.int
  | _, _, _, .nil, h => by cases h; rfl
  | _, _, _, .cons (d := d) (ds := ds) h t, e => by
    cases d with
    | int i =>
      obtain ⟨m, e1, e2⟩ := Option.map_eq_some_iff.mp (show (intsD ds).map (i :: ·) = _ from e)
      subst e2
      cases h
      rw [List.map_cons, DVs.ints t e1]
    | _ => cases e
def blsD : List D → Option (List Bool)
  | [] => some []
  | .bl i :: r => (blsD r).map (i :: ·)
  | _ => none
theorem DVs.bls {T : Tb} {K : PySem.W.Frag} : ∀ {vs : List V} {ds : List D} {ns : List Bool}, DVs T K F vs ds → blsD ds = some ns → vs = ns.map V.bl
  | _, _, _, .nil, h => by cases h; rfl
  | _, _, _, .cons (d := d) (ds := ds) h t, e => by
    cases d with
    | bl i =>
      obtain ⟨m, e1, e2⟩ := Option.map_eq_some_iff.mp (show (blsD ds).map (i :: ·) = _ from e)
      subst e2
      cases h
      rw [List.map_cons, DVs.bls t e1]
    | _ => cases e
def gSum : D → Option D
  | .lst xs => (intsD xs).map fun ns => .int ns.sum
  | _ => none
theorem blt_sum (hc : X.calm = true) : BltV B X (.builtin "sum") false gSum := fun hk => cimp (cr_sum hc) fun xs H Q ⟨v, Pd, F, σ, sd, d, z, ex, R, dv, g, q⟩ => by
  subst ex
  unfold gSum at g
  split at g
  · obtain ⟨ns, e1, rfl⟩ := Option.map_eq_some_iff.mp g
    obtain ⟨a, vs, rfl, h1, t⟩ := dv.lst R.sub
    rw [t.ints e1] at h1
    exact ⟨a, ns, rfl, SqL.of h1, q.2 rfl _ F H (Same.refl F) R (.int _)⟩
  · cases g
def gAll : D → Option D
  | .lst xs => (blsD xs).map fun ns => .bl (ns.all fun b => b)
  | _ => none
theorem blt_all (hc : X.calm = true) : BltV B X (.builtin "all") false gAll := fun hk => cimp (cr_all hc) fun xs H Q ⟨v, Pd, F, σ, sd, d, z, ex, R, dv, g, q⟩ => by
  subst ex
  unfold gAll at g
  split at g
  · obtain ⟨ns, e1, rfl⟩ := Option.map_eq_some_iff.mp g
    obtain ⟨a, vs, rfl, h1, t⟩ := dv.lst R.sub
    rw [t.bls e1] at h1
    exact ⟨a, ns, rfl, SqL.of h1, q.2 rfl _ F H (Same.refl F) R (.bl _)⟩
  · cases g
def gIntB : D → Option D
  | .int i => some (.int i)
  | .bl b => some (.int (if b then 1 else 0))
  | _ => none
theorem blt_int : BltV B X (.type "int") false gIntB := fun hk => cimp call_int1 fun xs H Q ⟨v, Pd, F, σ, sd, d, z, ex, R, dv, g, q⟩ => by
  subst ex
  have q := q.2 rfl
  unfold gIntB at g
  split at g
  · cases g
    cases dv.dv (fun _ z => nomatch z) (fun _ _ z => nomatch z)
    exact .inl ⟨_, rfl, q _ F H (Same.refl F) R (.int _)⟩
  · cases g
    cases dv.dv (fun _ z => nomatch z) (fun _ _ z => nomatch z)
    exact .inr ⟨_, rfl, q _ F H (Same.refl F) R (.int _)⟩
  · cases g
def gAbs : D → Option D
  | .int i => some (.int (if i < 0 then -i else i))
  | _ => none
theorem blt_abs : BltV B X (.builtin "abs") false gAbs := fun hk => cimp call_abs fun xs H Q ⟨v, Pd, F, σ, sd, d, z, ex, R, dv, g, q⟩ => by
  subst ex
  unfold gAbs at g
  split at g
  · cases g
    cases dv.dv (fun _ z => nomatch z) (fun _ _ z => nomatch z)
    exact ⟨_, rfl, q.2 rfl _ F H (Same.refl F) R (.int _)⟩
  · cases g
/-! two ints -/
def int2M (h : Int → Int → D) (f g : EM) : EM := binM (gI yes h) f g
theorem ev_int2 {e2 : Expr} {f2 : EM} {h : Int → Int → Int} (hb : CallR X (.builtin id) (fun xs H Q => ∃ i j, xs = [.int i, .int j] ∧ Q (.int (h i j)) H)) (hg : Gl X x) (hm : X.mg x = none) (hv : bootBuiltins x = some (.builtin id)) (h1 : EV B X e f) (h2 : EV B X e2 f2) (hn : x ≠ "__name__") (hdb : (x == ("__debug__" : Str)) = false)
    (he : starEach [e, e2] X.env = (false, eval e X.env) :: starEach [e2] X.env) (he2 : starEach [e2] X.env = (false, eval e2 X.env) :: starEach [] X.env) (hpl : (backTo pos (starEach [e2] X.env)).any (·.1) = false) : EV B X (.Call (.Name x p) [e, e2] [] pos) (int2M (fun i j => .int (h i j)) f f2) := fun hk =>
  (pe_callB hb hg hm hv (pa_cons (h1 hk) (pa_cons (h2 hk) pa_nil he2) he) hn hdb he hpl).imp fun σ H Q ⟨Pd, F, sd, R, p⟩ => tE.thenE R p fun v d F1 H1 sd1 s1 R1 dv p1 => tE.thenE R1 p1 fun v2 d2 F2 H2 sd2 s2 R2 dv2 p2 => by
    cases q : gI yes (fun i j => D.int (h i j)) d d2 with
    | none => rw [q] at p2; exact p2.elim
    | some z =>
      rw [q] at p2
      obtain ⟨i, j, rfl, rfl, _, rfl⟩ := gI_inv q
      cases dv
      cases dv2
      exact ⟨i, j, rfl, p2 _ F2 H2 (Same.refl F2) R2 (.int _)⟩
def gDivmod : Int → Int → D := fun i j => .tup [.int (i / j), .int (i % j)]
def okDm (_ j : Int) : Bool := decide (0 < j ∧ j < 1073741824)
theorem ev_divmod {e2 : Expr} {f2 : EM} (hg : Gl X "divmod") (hm : X.mg "divmod" = none) (h1 : EV B X e f) (h2 : EV B X e2 f2)
    (he : starEach [e, e2] X.env = (false, eval e X.env) :: starEach [e2] X.env) (he2 : starEach [e2] X.env = (false, eval e2 X.env) :: starEach [] X.env) (hpl : (backTo pos (starEach [e2] X.env)).any (·.1) = false) : EV B X (.Call (.Name "divmod" p) [e, e2] [] pos) (binM (gI okDm gDivmod) f f2) := fun hk =>
  (pe_callB call_divmod hg hm (by decide +kernel) (pa_cons (h1 hk) (pa_cons (h2 hk) pa_nil he2) he) (by decide) (by decide) he hpl).imp fun σ H Q ⟨Pd, F, sd, R, p⟩ => tE.thenE R p fun v d F1 H1 sd1 s1 R1 dv p1 => tE.thenE R1 p1 fun v2 d2 F2 H2 sd2 s2 R2 dv2 p2 => by
    cases q : gI okDm gDivmod d d2 with
    | none => rw [q] at p2; exact p2.elim
    | some z =>
      rw [q] at p2
      obtain ⟨i, j, rfl, rfl, hc, rfl⟩ := gI_inv q
      cases dv
      cases dv2
      refine ⟨i, j, rfl, (of_decide_eq_true hc : _ ∧ _), fun l hl => ?_⟩
      obtain ⟨R', hs⟩ := R2.alloc (.tup [.int (i / j), .int (i % j)]) hl
      exact p2 _ _ _ hs R' (.tup (SqT.of upd_same) (.cons (.int _) (.cons (.int _) .nil)))
end
end Pv

set_option Elab.async false
set_option linter.all false
set_option maxRecDepth 100000
set_option maxHeartbeats 1000000
/-! Pv10: functions made in a def: their making, their call. -/
namespace Pv
open PySem L2
section
variable {P : Program} {w : World} {H : Hp} {h : Heap} {f c : Addr} {v : V} {nf : NdefX.NF} {bd : FuncBody}
theorem fnOb_at (hok : HOk P w H h) (e : H f = some (FnOb f nf bd)) : ∃ (od : Option Addr) (sl : Array (Option Value)) (doc pm ctv : Value), h.get? f = some (⟨.type "function", od, .func (fdOf nf bd doc pm ctv), sl⟩ : Obj) := by
  obtain ⟨z, _, _⟩ := hok f _ e
  exact z
theorem cellO_at (hok : HOk P w H h) (e : H c = some (CellO c v)) : ∃ u, h.IsCell c (some u) ∧ RelV v u := by
  obtain ⟨z, _, _⟩ := hok c _ e
  exact z
end
/-! ### made -/
/-- the function object at f is made -/
structure Made (X : Cx) (pins : List (Addr × Obj)) (σ : L2.St) (T : Tb) (F H0 H : Hp) (f : Addr) (nf : NdefX.NF) (bd : FuncBody) (F1 H1 : Hp) (s' : Shared) : Prop where
  inv : Inv X pins σ H1 s'
  le : Same F F1
  hH : ∀ a o, H a = some o → (∀ ps, o ≠ .tbl ps) → H1 a = some o
  sub : Same F1 H1
  new : ∀ a o, F1 a = some o → F a = some o ∨ H a = none
  tb : TbR T F1 H0 H1
  f0 : H f = none
  f1 : F1 f = some (FnOb f nf bd)
  c1 : F1 nf.c = some (LamX.CodeO nf.c nf.qual)
section
variable {X : Cx} {pins : List (Addr × Obj)} {σ : L2.St} {F H0 H : Hp} {s : Shared} {T : Tb}
theorem inv_fnOb {nf : NdefX.NF} {bd : FuncBody} {o : Obj} {t' : Nat} {doc pm ctv : Value} (I : Inv X pins σ H s) (ho : o = { cls := .type "function", data := .func (fdOf nf bd doc pm ctv) }) :
    Inv X pins σ (upd H s.heap.objs.size (FnOb s.heap.objs.size nf bd)) { s with heap := s.heap.push o, toks := t' } := by
  subst ho
  refine I.laid (a := s.heap.objs.size) (fun b u e => Heap.get?_push_of_some _ e) (Nat.le_refl _) ?_
  have e : (s.heap.push ({ cls := .type "function", data := .func (fdOf nf bd doc pm ctv) } : Obj)).get? s.heap.objs.size = some ({ cls := .type "function", data := .func (fdOf nf bd doc pm ctv) } : Obj) := Heap.get?_push_size _ rfl
  exact ⟨⟨_, _, doc, pm, ctv, e⟩, ⟨_, e⟩, fun h1 h2 ⟨od, sl, d, p, t, z⟩ st => ⟨od, sl, d, p, t, st _ z⟩⟩
theorem made_hit {nf : NdefX.NF} {bd : FuncBody} {h' : Heap} {tk : Nat} {o : Obj} {doc pm ctv : Value} (I : Inv X pins σ H s) (hs : Same F H) (t : TbR T F H0 H) (hco : H nf.c = some (LamX.CodeO nf.c nf.qual)) (hx : ∀ b o, s.heap.get? b = some o → h'.get? b = some o)
    (ho : o = { cls := .type "function", data := .func (fdOf nf bd doc pm ctv) }) : ∃ F1 H1, Made X pins σ T F H0 H h'.objs.size nf bd F1 H1 { s with heap := h'.push o, toks := tk } := by
  have I1 : Inv X pins σ H { s with heap := h', toks := tk } := I.kept hx
  have n0 : H h'.objs.size = none := I1.hok.fresh (Nat.le_refl _)
  have nF : F h'.objs.size = none := hs.free n0
  refine ⟨upd F h'.objs.size (FnOb h'.objs.size nf bd), _, inv_fnOb I1 ho, same_upd nF, fun a o e _ => by rw [upd_ne (ne_of_none e n0)]; exact e, fun a o e => ?_, fun a o e => ?_, t.alloc n0 (.inr rfl) nF, n0, upd_same, ?_⟩
  · by_cases z : a = h'.objs.size
    · subst z; rw [upd_same] at e ⊢; exact e
    · rw [upd_ne z] at e ⊢; exact hs _ _ e
  · by_cases z : a = h'.objs.size
    · subst z; exact .inr n0
    · rw [upd_ne z] at e; exact .inl e
  · have q := t.cd _ _ _ hco
    rw [upd_ne (ne_of_none q nF)]
    exact q
theorem made_new {nf : NdefX.NF} {bd : FuncBody} {h' : Heap} {tk : Nat} {o : Obj} {doc pm ctv : Value} {nm : Nat → Nat → Str} {P : Addr} {ps : Array Value} {pos : Pos} (I : Inv X pins σ H s) (hs : Same F H) (t : TbR T F H0 H) (hm : (P, nm) ∈ T.tb) (hu : ∀ p ∈ T.tb, p.1 = P → p.2 = nm)
    (hn : nm pos.line pos.col = nf.qual) (hP : H P = some (.tbl ps)) (ht : TriplesOk ps.toList) (ha : ∀ (pos : Pos) (cv : Value), codeAmong pos ps.toList = some cv → ∃ c, cv = .ref c ∧ H c = some (LamX.CodeO c (nm pos.line pos.col)))
    (hx : Heap.ExtBut P s.heap h') (hge : s.heap.objs.size ≤ nf.c) (hlt : nf.c < h'.objs.size) (hrec : h'.CodeRec (.ref nf.c) nf.qual) (htb : h'.get? P = some { cls := .none, data := .fields (ps ++ #[rawInt pos.line, rawInt pos.col, .ref nf.c]) })
    (ho : o = { cls := .type "function", data := .func (fdOf nf bd doc pm ctv) }) : ∃ F1 H1, Made X pins σ T F H0 H h'.objs.size nf bd F1 H1 { s with heap := h'.push o, toks := tk } := by
  obtain ⟨c2, oc, vs, tt, e2, hoc, hd, hv⟩ := hrec
  cases e2
  have nC : H nf.c = none := I.hok.fresh hge
  have fC : F nf.c = none := hs.free nC
  have I1 := LamX.inv_table (t' := tk) (more := #[rawInt pos.line, rawInt pos.col, .ref nf.c]) (h' := h') I hP (fun b o hb e => hx b o hb e) htb hge ⟨oc, vs, tt, hoc, hd, hv⟩
  have hE : ∀ a o, H a = some o → (∀ ps, o ≠ .tbl ps) → upd (upd H P (.tbl (ps ++ #[rawInt pos.line, rawInt pos.col, .ref nf.c]))) nf.c (LamX.CodeO nf.c nf.qual) a = some o := fun b o e n => by
    rw [upd_ne (ne_of_none e nC), upd_ne (fun z => n ps (Option.some.inj (e.symm.trans (by rw [z]; exact hP))))]
    exact e
  have eL : (ps ++ #[rawInt pos.line, rawInt pos.col, .ref nf.c]).toList = ps.toList ++ [rawInt pos.line, rawInt pos.col, .ref nf.c] := by simp
  have fP : ∀ o, F P = some o → o = .tbl ps := fun o e => Option.some.inj ((hs _ _ e).symm.trans hP)
  -- the table isn't in F
  have t1 : TbR T (upd F nf.c (LamX.CodeO nf.c nf.qual)) H0 (upd (upd H P (.tbl (ps ++ #[rawInt pos.line, rawInt pos.col, .ref nf.c]))) nf.c (LamX.CodeO nf.c nf.qual)) := by
    refine ⟨fun p hp => ?_, t.old, fun a qs e => ?_, fun a c q e => ?_, fun p hp => ?_⟩
    · by_cases hb : p.1 = P
      · rw [hu p hp hb, hb]
        refine ⟨_, by rw [upd_ne (ne_of_none hP nC), upd_same], by rw [eL]; exact PySem.TriplesOk_snoc _ _ _ _ ht, fun p' cv hcv => ?_⟩
        rw [eL] at hcv
        rcases NdefX.among_app2 _ ht hcv with z | ⟨z, z1, z2⟩
        · obtain ⟨c0, e1, e2⟩ := ha p' cv z
          exact ⟨c0, e1, hE _ _ e2 LamX.codeO_ne⟩
        · refine ⟨nf.c, z, ?_⟩
          rw [← z1, ← z2, hn]
          exact upd_same
      · obtain ⟨ps', a1, a2, a3⟩ := t.tab p hp
        refine ⟨ps', by rw [upd_ne (ne_of_none a1 nC), upd_ne hb]; exact a1, a2, fun p' cv hcv => ?_⟩
        obtain ⟨c0, e1, e2⟩ := a3 p' cv hcv
        exact ⟨c0, e1, hE _ _ e2 LamX.codeO_ne⟩
    · obtain ⟨rs, q⟩ := t.tl a qs e
      by_cases hb : a = P
      · exact ⟨_, by rw [hb, upd_ne (ne_of_none hP nC), upd_same]⟩
      · exact ⟨rs, by rw [upd_ne (ne_of_none q nC), upd_ne hb]; exact q⟩
    · by_cases z : a = nf.c
      · subst z; rw [upd_same] at e ⊢; exact e
      · rw [upd_ne z] at e ⊢
        by_cases z2 : a = P
        · subst z2
          rw [upd_same] at e
          exact absurd (Option.some.inj e).symm (LamX.codeO_ne _)
        · rw [upd_ne z2] at e
          exact t.cd a c q e
    · obtain ⟨ps', a1, _⟩ := t.tab p hp
      rw [upd_ne (ne_of_none a1 nC)]
      exact t.nt p hp
  have n0 : upd (upd H P (.tbl (ps ++ #[rawInt pos.line, rawInt pos.col, .ref nf.c]))) nf.c (LamX.CodeO nf.c nf.qual) h'.objs.size = none := I1.hok.fresh (Nat.le_refl _)
  have h0 : H h'.objs.size = none := NdefX.upd_none (NdefX.upd_none n0)
  have f0 : F h'.objs.size = none := hs.free h0
  have ncf : nf.c ≠ h'.objs.size := Nat.ne_of_lt hlt
  have f01 : upd F nf.c (LamX.CodeO nf.c nf.qual) h'.objs.size = none := by rw [upd_ne ncf.symm]; exact f0
  by_cases hfp : F P = none
  · refine ⟨upd (upd F nf.c (LamX.CodeO nf.c nf.qual)) h'.objs.size (FnOb h'.objs.size nf bd), _, inv_fnOb I1 ho, (same_upd fC).trans (same_upd f01), fun a o e n => ?_, fun a o e => ?_, fun a o e => ?_, t1.alloc n0 (.inr rfl) f01, h0, upd_same, ?_⟩
    · have q := hE a o e n
      exact (upd_ne (ne_of_none q n0)).trans q
    · by_cases z : a = h'.objs.size
      · subst z; rw [upd_same] at e; rw [← e]; exact upd_same
      · rw [upd_ne z] at e
        refine (upd_ne z).trans ?_
        by_cases z2 : a = nf.c
        · subst z2; rw [upd_same] at e ⊢; exact e
        · rw [upd_ne z2] at e ⊢
          rw [upd_ne (fun z => by subst z; rw [hfp] at e; cases e)]
          exact hs _ _ e
    · by_cases z : a = h'.objs.size
      · subst z; exact .inr h0
      · rw [upd_ne z] at e
        by_cases z2 : a = nf.c
        · subst z2; exact .inr nC
        · rw [upd_ne z2] at e; exact .inl e
    · rw [upd_ne ncf, upd_same]
  · exact absurd (t.nt _ hm) hfp
/-- a lambda -/
theorem lam_mk {nm : Nat → Nat → Str} {c P : Addr} {params : Arguments} {body : Expr} {scope : Scope} {pos : Pos} {E : Value → Shared → Prop} {Q : Value → Shared → Prop} (I : Inv X pins σ H s) (hs : Same F H) (t : TbR T F H0 H) (TB : LamX.TabB X.base X.mg c P) (hcode : X.env.code = .ref c)
    (hm : (P, nm) ∈ T.tb) (hu : ∀ p ∈ T.tb, p.1 = P → p.2 = nm) (hn : nm pos.line pos.col = X.env.qual ++ "<lambda>") (hdef : defaultsOf params X.env = ([], [])) (hfree : ∀ y ∈ scope.names, y.2 = .free → ∃ c, X.env.cells.lookup y.1 = some c)
    (h : ∀ (f c' : Addr) (F1 H1 : Hp) (s' : Shared), Made X pins σ T F H0 H f ⟨"<lambda>", X.env.qual ++ "<lambda>", params, [], scope, cloFrom X.env.cells scope.names [], c'⟩ (.expr body) F1 H1 s' → Q (.ref f) s') :
    wpAny (model X.prog X.w) X.A (eval (.Lambda params body scope pos) X.env) Q E s := by
  obtain ⟨ps, hP, ht, ha⟩ := t.tab _ hm
  refine PySem.W.kla_eval hdef ?_
  have bP : s.heap.BuiltinsAt X.mg P := TB.bm.keeps I.bk
  have hP' : s.heap.get? P = some { cls := .none, data := .fields ps } := I.hok P _ hP
  cases hc : codeAmong pos ps.toList with
  | none =>
    refine PySem.W.kla_makeFunction (mg := X.mg) (c := c) (P := P) (ps := ps) (closure_ok hfree) I.ok.glob (I.mod.glob.keeps I.bk) hcode (TB.code.keeps I.bk) hP' ht hc TB.gP bP fun c' ctv h' tk hx hge hlt hrec htb => ?_
    obtain ⟨F1, H1, m⟩ := made_new (nf := ⟨"<lambda>", X.env.qual ++ "<lambda>", params, [], scope, cloFrom X.env.cells scope.names [], c'⟩) (bd := .expr body) (tk := tk) (doc := .none) (pm := (X.mg "__name__").getD .none) (ctv := ctv) I hs t hm hu hn hP ht ha hx hge hlt hrec htb rfl
    exact h _ c' F1 H1 _ m
  | some cv =>
    obtain ⟨c', e, hco⟩ := ha pos cv hc
    subst e
    refine PySem.W.kla_makeFunctionHit (mg := X.mg) (c := c) (P := P) (ps := ps) (closure_ok hfree) I.ok.glob (I.mod.glob.keeps I.bk) hcode (TB.code.keeps I.bk) hP' ht hc bP fun ctv h' tk hx hsz => ?_
    obtain ⟨F1, H1, m⟩ := made_hit (nf := ⟨"<lambda>", X.env.qual ++ "<lambda>", params, [], scope, cloFrom X.env.cells scope.names [], c'⟩) (bd := .expr body) (tk := tk) (doc := .none) (pm := (X.mg "__name__").getD .none) (ctv := ctv) I hs t (by rw [← hn]; exact hco) hx rfl
    exact h _ c' F1 H1 _ m
/-- a def -/
theorem def_mk {nm : Nat → Nat → Str} {c P : Addr} {name : Str} {params : Arguments} {body : List Stmt} {scope : Scope} {pos : Pos} {E : Value → Shared → Prop} {Q : Value → Shared → Prop} (I : Inv X pins σ H s) (hs : Same F H) (t : TbR T F H0 H) (TB : LamX.TabB X.base X.mg c P) (hcode : X.env.code = .ref c)
    (hm : (P, nm) ∈ T.tb) (hu : ∀ p ∈ T.tb, p.1 = P → p.2 = nm) (hn : nm pos.line pos.col = X.env.qual ++ name) (hfree : ∀ y ∈ scope.names, y.2 = .free → ∃ c, X.env.cells.lookup y.1 = some c)
    (h : ∀ (f c' : Addr) (F1 H1 : Hp) (s' : Shared), Made X pins σ T F H0 H f ⟨name, X.env.qual ++ name, params, [], scope, cloFrom X.env.cells scope.names [], c'⟩ (.stmts body) F1 H1 s' → Q (.ref f) s') :
    wpAny (model X.prog X.w) X.A (makeFunction name (X.env.qual ++ name) params (.stmts body) scope X.env [] [] [] pos pos.line) Q E s := by
  obtain ⟨ps, hP, ht, ha⟩ := t.tab _ hm
  have bP : s.heap.BuiltinsAt X.mg P := TB.bm.keeps I.bk
  have hP' : s.heap.get? P = some { cls := .none, data := .fields ps } := I.hok P _ hP
  cases hc : codeAmong pos ps.toList with
  | none =>
    refine PySem.W.makeFunction_K (mg := X.mg) (c := c) (P := P) (ps := ps) (closure_ok hfree) I.ok.glob (I.mod.glob.keeps I.bk) hcode (TB.code.keeps I.bk) hP' ht hc TB.gP bP fun c' ctv doc h' tk hx hge hlt hrec htb => ?_
    obtain ⟨F1, H1, m⟩ := made_new (nf := ⟨name, X.env.qual ++ name, params, [], scope, cloFrom X.env.cells scope.names [], c'⟩) (bd := .stmts body) (tk := tk) (doc := doc) (pm := (X.mg "__name__").getD .none) (ctv := ctv) I hs t hm hu hn hP ht ha hx hge hlt hrec htb rfl
    exact h _ c' F1 H1 _ m
  | some cv =>
    obtain ⟨c', e, hco⟩ := ha pos cv hc
    subst e
    refine PySem.W.makeFunction_hit (mg := X.mg) (c := c) (P := P) (ps := ps) (closure_ok hfree) I.ok.glob (I.mod.glob.keeps I.bk) hcode (TB.code.keeps I.bk) hP' ht hc bP fun ctv doc h' tk hx hsz => ?_
    obtain ⟨F1, H1, m⟩ := made_hit (nf := ⟨name, X.env.qual ++ name, params, [], scope, cloFrom X.env.cells scope.names [], c'⟩) (bd := .stmts body) (tk := tk) (doc := doc) (pm := (X.mg "__name__").getD .none) (ctv := ctv) I hs t (by rw [← hn]; exact hco) hx rfl
    exact h _ c' F1 H1 _ m
end
end Pv

set_option Elab.async false
set_option linter.all false
set_option maxRecDepth 100000
set_option maxHeartbeats 1000000
/-! Pv11: the call of a function made in a def; a def that makes one and hands it back. -/
namespace Pv
open PySem L2
/-! ### what a made function is worth -/
def noClo : D → Bool
  | .non => true
  | .bl _ => true
  | .int _ => true
  | .str _ => true
  | _ => false
section
variable {T : Tb} {K : PySem.W.Frag} {F F' H : Hp}
theorem DV.free {v : V} {d : D} (h : DV T K F v d) (hd : noClo d = true) : DV T K F' v d := by
  cases h with
  | non => exact .non
  | bl b => exact .bl b
  | int b => exact .int b
  | str b => exact .str b
  | _ => cases hd
theorem DVs.free : ∀ {vs : List V} {ds : List D}, DVs T K F vs ds → ds.all noClo = true → DVs T K F' vs ds
  | _, _, .nil, _ => .nil
  | _, _, .cons h t, e => by
    rw [List.all_cons, Bool.and_eq_true] at e
    exact .cons (h.free e.1) (DVs.free t e.2)
theorem DCs.vals {cl : List (Str × Addr)} {G : Hp} : ∀ {xs : List Str} {ds : List D}, DCs T K F cl G xs ds → ∃ vals : List V, DVs T K G vals ds ∧ vals.length = xs.length ∧ ∀ (i : Nat) (y : Str), xs[i]? = some y → ∃ c v, cl.lookup y = some c ∧ F c = some (CellO c v) ∧ vals[i]? = some v
  | _, _, .nil => ⟨[], .nil, rfl, fun i y h => by simp at h⟩
  | _, _, .cons h1 h2 h3 t => by
    obtain ⟨vals, g1, g2, g3⟩ := DCs.vals t
    refine ⟨_ :: vals, .cons h3 g1, by simp [g2], fun i y e => ?_⟩
    cases i with
    | zero => simp at e; subst e; exact ⟨_, _, h1, h2, rfl⟩
    | succ i => obtain ⟨c, v, q1, q2, q3⟩ := g3 i y (by simpa using e); exact ⟨c, v, q1, q2, by simpa using q3⟩
theorem argsV {M : List Addr} : ∀ {vs : List V} {ds : List D}, DVs T K F vs ds → ArgsR T K F H M (List.replicate ds.length .val) vs ds []
  | _, _, .nil => .nil
  | _, _, .cons h t => .val h (argsV t)
end
theorem mutsAt_val : ∀ n i : Nat, mutsAt i (List.replicate n .val) = []
  | 0, _ => rfl
  | n + 1, i => mutsAt_val n (i + 1)
/-- one of the places at which functions are made: what they are worth by what they captured and got -/
structure CloOk (P : Program) (w : World) (K : PySem.W.Frag) (mg : Str → Option Value) (base : Heap) (T : Tb) (c : Nat) (mir : List D → List D → Res) (k n : Nat) : Prop where
  run : ∃ st, T.fn[c]? = some st ∧ ∀ (f : Addr) (nf : NdefX.NF), nf.params = st.params → nf.scope = st.scope → ∀ (A : Around) (outer : List Env) (s : Shared) (H : Hp) (us : List Value) (vs vals : List V) (Q : VK), Room k A → Env0 P w K mg base A outer s H →
    H f = some (FnOb f nf st.body) → H nf.c = some (LamX.CodeO nf.c nf.qual) → NdefX.CellsAt nf.cl st.caps (vals.map some) s.heap H → Vals vs us →
    (∃ F cs ds, Same F H ∧ TbR T F H H ∧ DVs T K F vals cs ∧ DVs T K F vs ds ∧ ds.length = n ∧ PostF T K false F H [] Q (fun _ _ _ => False) (mir cs ds)) →
    codeAny (model P w) A (.call (.ref f) ⟨us, []⟩) (CR (L2.CX P w) outer P w H s Q (fun _ _ _ => False)) s
section
variable {P : Program} {w : World} {K : PySem.W.Frag} {mg : Str → Option Value} {base : Heap} {T : Tb} {c k : Nat} {st : Site} {N ps : List Str} {mir : List D → List D → Res}
theorem startF_eq {vs vals : List V} : NdefX.startF N vs (vals.map some) = L2.start N (vs ++ vals) := by
  unfold NdefX.startF L2.start
  rw [List.map_append, List.append_assoc, List.length_map, List.length_append]
  rw [show N.length - vs.length - vals.length = N.length - (vs.length + vals.length) by omega]
/-- the frame at a made function's entry -/
theorem clo_rel {F H : Hp} {vs vals : List V} {cs ds : List D} (hs : Same F H) (t : TbR T F H H) (d1 : DVs T K F vals cs) (d2 : DVs T K F vs ds) (hn : ds.length + cs.length ≤ N.length) {ex : WX} :
    Rel ⟨T, K, H, F, [], [], [], ex⟩ [] F (NdefX.startF N vs (vals.map some)) H (sd0 (List.replicate (ds ++ cs).length .val) (ds ++ cs) N.length) := by
  have q := Rel.start (ex := ex) (N := N) hs t (argsV (M := []) (d2.app d1)) List.nodup_nil (by simpa using hn)
  rw [mutsAt_val] at q
  rw [startF_eq]
  exact q
/-- .. of a def's body -/
theorem clo_stmts {body : List Stmt} {g : SM} (hst : T.fn[c]? = some st) (hbd : st.body = .stmts body) (S : NdefX.NScope N ps st.caps st.scope) (hbind : ∀ (nf : NdefX.NF) (doc pm ctv : Value) (us : List Value), nf.params = st.params → us.length = ps.length → bindArgs (fdOf nf st.body doc pm ctv) ⟨us, []⟩ = pure (ps.zip us))
    (hb : ∀ (name qual : Str) (cl : List (Str × Addr)) (c f : Addr) (A : Around) (outer : List Env) (s : Shared) (H : Hp) (B : Bd), B.T = T → B.mi = [] → B.pin = [] → B.ex = (fun _ _ _ _ => False) → Room k (A.deeper (NdefX.envF ⟨name, qual, st.params, [], st.scope, cl, c⟩ f s.heap.objs.size)) →
      SVs B (NdefX.ncx (L2.CX P w) P w K mg base N ⟨name, qual, st.params, [], st.scope, cl, c⟩ f A outer s H (fun _ _ _ => False)) body g)
    (hg : ∀ cs ds, cs.length = st.caps.length → ds.length = ps.length → mir cs ds ≠ .stuck → resOf ⟨[], false⟩ [] (g (sd0 (List.replicate (ds ++ cs).length .val) (ds ++ cs) N.length)) = mir cs ds) : CloOk P w K mg base T c mir (k + 1) ps.length := by
  refine ⟨st, hst, fun f nf hp hsc A outer s H us vs vals Q hr e0 hf hc C r ⟨F, cs, ds, hs, t, d1, d2, hl, q⟩ => ?_⟩
  obtain ⟨name, qual, params, bd, scope, cl, cc⟩ := nf
  dsimp only at hp hsc
  subst hp
  subst hsc
  have hpl : ps.length + st.caps.length ≤ N.length := by
    have q := congrArg List.length S.pre
    rw [List.length_take, List.length_append] at q
    omega
  have lv : vs.length = ps.length := by rw [d2.length, hl]
  have lc : vals.length = st.caps.length := by have := C.len; rwa [List.length_map] at this
  have lim : s.heap.NoLimit := e0.mod.nolimit.keeps fun b o e => (e0.bs b o e).1
  obtain ⟨od, sl, doc, pm, ctv, ho⟩ := fnOb_at e0.hok hf
  refine codeAny_call_function hr.depth ho rfl S.co S.gen hbd (NdefX.codeO_at e0.hok hc) ?_
  rw [hbind ⟨name, qual, st.params, bd, st.scope, cl, cc⟩ doc pm ctv us rfl (by rw [← r.length, lv])]
  refine wpAny_pure (wpAny_newFunctionEnv S.nocell (fun ⟨n, _⟩ hy => S.par n (List.of_mem_zip hy).1) (fun h₁ hns hsb => ⟨lim.fresh _ hsb, ?_⟩) S.kind)
  show codeAny _ _ (.func body (NdefX.envF ⟨name, qual, st.params, [], st.scope, cl, cc⟩ f s.heap.objs.size)) _ _
  refine codeAny_func ?_
  have kp : ∀ b o, s.heap.get? b = some o → h₁.get? b = some o := fun b o e => hsb.extBut b o (Nat.ne_of_lt (Heap.lt_size e)) (Heap.get?_push_of_some _ e)
  have ht := hb name qual cl cc f A outer s H ⟨T, K, H, F, [], [], [], fun c d _ H => False⟩ rfl rfl rfl rfl (hr.deeper _) rfl
  have I := NdefX.inv_startN (CX := L2.CX P w) (E := fun _ _ _ => False) (F := ⟨name, qual, st.params, [], st.scope, cl, cc⟩) (f := f) (N := N) (tk := s.toks + (ps.zip us).length) S hr.hd e0 lv r C hns kp
  have lds : ds.length = ps.length := hl
  have lcs : cs.length = st.caps.length := by rw [← d1.length, lc]
  have post : PostS ⟨T, K, H, F, [], [], [], fun c d _ H => False⟩ F { nx := fun _ H' => Q .non H', rt := Q } (g (sd0 (List.replicate (ds ++ cs).length .val) (ds ++ cs) N.length)) := by
    refine post_body (B := ⟨T, K, H, F, [], [], [], fun c d _ H => False⟩) (E := fun _ _ _ => False) (sig := ⟨[], false⟩) rfl ?_
    have e : mir cs ds ≠ .stuck := fun z => by rw [z] at q; exact q
    rw [hg cs ds lcs lds e]
    exact q
  refine wpAny_mono (ht.run [] _ (NdefX.startF N vs (vals.map some)) H _ I ⟨F, _, clo_rel hs t d1 d2 (by omega), post⟩) (fun fl s' hs => ?_) fun e s' hs => hs
  have fin : ∀ {σ' : L2.St} {H' : Hp} {v : V} {u : Value}, Inv (NdefX.ncx (L2.CX P w) P w K mg base N ⟨name, qual, st.params, [], st.scope, cl, cc⟩ f A outer s H (fun _ _ _ => False)) [] σ' H' s' → RelV v u → Q v H' → CE outer P w H s Q u s' :=
    fun {σ' H' v u} J rv q => ⟨v, H', J.os, J.bare, J.base, J.hok, rv, q⟩
  cases fl with
  | ret u =>
    obtain ⟨v, σ', H', J, rv, q⟩ := hs
    exact fin J rv q
  | next =>
    obtain ⟨σ', H', J, q⟩ := hs
    exact fin (v := V.non) (u := Value.none) J rfl q
  | brk =>
    obtain ⟨_, _, _, q⟩ := hs
    exact False.elim q
  | cont =>
    obtain ⟨_, _, _, q⟩ := hs
    exact False.elim q
/-- .. of a lambda -/
def resE : Out D → Res
  | .ok d _ => .ret d []
  | .exc c fs _ => .exc c fs []
  | .stuck => .stuck
theorem clo_lam {body : Expr} {g : EM} (hst : T.fn[c]? = some st) (hbd : st.body = .expr body) (S : NdefX.NScope N ps st.caps st.scope) (hbind : ∀ (nf : NdefX.NF) (doc pm ctv : Value) (us : List Value), nf.params = st.params → us.length = ps.length → bindArgs (fdOf nf st.body doc pm ctv) ⟨us, []⟩ = pure (ps.zip us))
    (hb : ∀ (name qual : Str) (cl : List (Str × Addr)) (c f : Addr) (A : Around) (outer : List Env) (s : Shared) (H : Hp) (B : Bd), B.T = T → B.mi = [] → B.pin = [] → B.ex = (fun _ _ _ _ => False) → Room k (A.deeper (NdefX.envF ⟨name, qual, st.params, [], st.scope, cl, c⟩ f s.heap.objs.size)) →
      EV B (NdefX.ncx (L2.CX P w) P w K mg base N ⟨name, qual, st.params, [], st.scope, cl, c⟩ f A outer s H (fun _ _ _ => False)) body g)
    (hg : ∀ cs ds, cs.length = st.caps.length → ds.length = ps.length → mir cs ds ≠ .stuck → resE (g (sd0 (List.replicate (ds ++ cs).length .val) (ds ++ cs) N.length)) = mir cs ds) : CloOk P w K mg base T c mir (k + 1) ps.length := by
  refine ⟨st, hst, fun f nf hp hsc A outer s H us vs vals Q hr e0 hf hc C r ⟨F, cs, ds, hs, t, d1, d2, hl, q⟩ => ?_⟩
  obtain ⟨name, qual, params, bd, scope, cl, cc⟩ := nf
  dsimp only at hp hsc
  subst hp
  subst hsc
  have hpl : ps.length + st.caps.length ≤ N.length := by
    have q := congrArg List.length S.pre
    rw [List.length_take, List.length_append] at q
    omega
  have lv : vs.length = ps.length := by rw [d2.length, hl]
  have lc : vals.length = st.caps.length := by have := C.len; rwa [List.length_map] at this
  have lim : s.heap.NoLimit := e0.mod.nolimit.keeps fun b o e => (e0.bs b o e).1
  obtain ⟨od, sl, doc, pm, ctv, ho⟩ := fnOb_at e0.hok hf
  refine PySem.W.kla_callFunE hr.depth ho rfl S.co S.gen hbd (NdefX.codeO_at e0.hok hc) ?_
  rw [hbind ⟨name, qual, st.params, bd, st.scope, cl, cc⟩ doc pm ctv us rfl (by rw [← r.length, lv])]
  refine wpAny_pure (wpAny_newFunctionEnv S.nocell (fun ⟨n, _⟩ hy => S.par n (List.of_mem_zip hy).1) (fun h₁ hns hsb => ⟨lim.fresh _ hsb, ?_⟩) S.kind)
  show codeAny _ _ (.expr body (NdefX.envF ⟨name, qual, st.params, [], st.scope, cl, cc⟩ f s.heap.objs.size)) _ _
  have kp : ∀ b o, s.heap.get? b = some o → h₁.get? b = some o := fun b o e => hsb.extBut b o (Nat.ne_of_lt (Heap.lt_size e)) (Heap.get?_push_of_some _ e)
  have ht := hb name qual cl cc f A outer s H ⟨T, K, H, F, [], [], [], fun c d _ H => False⟩ rfl rfl rfl rfl (hr.deeper _) rfl
  have I := NdefX.inv_startN (CX := L2.CX P w) (E := fun _ _ _ => False) (F := ⟨name, qual, st.params, [], st.scope, cl, cc⟩) (f := f) (N := N) (tk := s.toks + (ps.zip us).length) S hr.hd e0 lv r C hns kp
  have lds : ds.length = ps.length := hl
  have lcs : cs.length = st.caps.length := by rw [← d1.length, lc]
  have post : PostE ⟨T, K, H, F, [], [], [], fun c d _ H => False⟩ [] F (NdefX.startF N vs (vals.map some)) Q (g (sd0 (List.replicate (ds ++ cs).length .val) (ds ++ cs) N.length)) := by
    have e : mir cs ds ≠ .stuck := fun z => by rw [z] at q; exact q
    have e2 := hg cs ds lcs lds e
    rw [← e2] at q
    cases e3 : g (sd0 (List.replicate (ds ++ cs).length .val) (ds ++ cs) N.length) with
    | ok d s =>
      rw [e3] at q
      exact fun v F' H' h1 h2 dv => q v F' H' h2.fin dv
    | exc c fs s =>
      rw [e3] at q
      exact fun C dx fvs σ F' H' hc _ R hx hf => q C dx fvs F' H' hc R.fin hx hf
    | stuck => rw [e3] at q; exact q
  refine PySem.W.kla_codeExpr (wpAny_mono (ht.run [] _ _ H _ I ⟨[], F, _, clo_rel hs t d1 d2 (by omega), post⟩) (fun v s' hq => ?_) fun e s' hq => hq)
  obtain ⟨w', H', J', rv, q⟩ := hq
  exact ⟨w', H', J'.os, J'.bare, J'.base, J'.hok, rv, q⟩
end

/-! ### the call -/
section
variable {P : Program} {w : World} {H : Hp} {h : Heap} {a : Addr} {v : V}
theorem cell_not_code {b : Addr} {q : Str} (hok : HOk P w H h) (e : H a = some (CellO a v)) (e2 : H a = some (LamX.CodeO a q)) : False := by
  obtain ⟨u, ⟨o, ho, hd⟩, _⟩ := cellO_at hok e
  obtain ⟨c, oc, vs, t, hc, hoc, hdc, _⟩ := NdefX.codeO_at hok e2
  cases hc
  rw [ho] at hoc
  cases hoc
  rw [hd] at hdc
  cases hdc
theorem cell_not_fn {nf : NdefX.NF} {bd : FuncBody} (hok : HOk P w H h) (e : H a = some (CellO a v)) (e2 : H a = some (FnOb a nf bd)) : False := by
  obtain ⟨u, ⟨o, ho, hd⟩, _⟩ := cellO_at hok e
  obtain ⟨od, sl, doc, pm, ctv, q⟩ := fnOb_at hok e2
  rw [ho] at q
  cases q
  cases hd
end
/-- back with the cells -/
noncomputable def unhid (F F1 : Hp) (cl : List (Str × Addr)) : Hp := fun a => open Classical in if ∃ y, cl.lookup y = some a then F a else F1 a
theorem unhid_out {F F1 : Hp} {cl : List (Str × Addr)} {a : Addr} (h : ¬ ∃ y, cl.lookup y = some a) : unhid F F1 cl a = F1 a := by unfold unhid; rw [if_neg h]
theorem unhid_in {F F1 : Hp} {cl : List (Str × Addr)} {a : Addr} (h : ∃ y, cl.lookup y = some a) : unhid F F1 cl a = F a := by unfold unhid; rw [if_pos h]
section
variable {X : Cx} {pins : List (Addr × Obj)} {σ : L2.St} {F H : Hp} {s : Shared} {T : Tb} {c k n : Nat} {mir : List D → List D → Res}
theorem DV.clo_inv {K : PySem.W.Frag} {v : V} {c : Nat} {ds : List D} (h : DV T K F v (.clo c ds)) : ∃ f nf st, v = .ref f ∧ F f = some (FnOb f nf st.body) ∧ F nf.c = some (LamX.CodeO nf.c nf.qual) ∧ T.fn[c]? = some st ∧ nf.params = st.params ∧ nf.scope = st.scope ∧
    (∀ y a, nf.cl.lookup y = some a → y ∈ st.caps) ∧ (∀ x y a, nf.cl.lookup x = some a → nf.cl.lookup y = some a → x = y) ∧ DCs T K F nf.cl (hid F nf.cl) st.caps ds := by
  cases h with
  | clo h1 h2 h3 h4 h5 h6 h7 h8 => exact ⟨_, _, _, rfl, h1, h2, h3, h4, h5, h6, h7, h8⟩
theorem clo_run {f : Addr} {xs ds : List D} {vs : List V} {us : List Value} {Q : VK} {d : D} {ms : List D} (C : CloOk X.prog X.w X.K X.mg X.base T c mir k n) (I : Inv X pins σ H s) (hs : Same F H) (t : TbR T F H H) (dv : DV T X.K F (.ref f) (.clo c xs)) (da : DVs T X.K F vs ds) (hp : ds.all noClo = true) (hl : ds.length = n)
    (hr : Room k X.A) (r : Vals vs us) (em : mir xs ds = .ret d ms) (q : ∀ (v : V) (F' H' : Hp), Fin T X.K F H [] F' H' ms → DV T X.K F' v d → Q v H') : wpAny (model X.prog X.w) X.A (call (.ref f) us) (EP X pins σ Q) X.xe s := by
  obtain ⟨f', nf, st, ef, hf, hk, hst, h1, h2, hcap, hinj, hcs⟩ := dv.clo_inv
  obtain rfl : f = f' := by injection ef
  obtain ⟨st', hst', run⟩ := C.run
  rw [hst] at hst'
  cases hst'
  obtain ⟨vals, dvals, lvals, hvals⟩ := hcs.vals
  have cellF : ∀ y a, nf.cl.lookup y = some a → ∃ v, F a = some (CellO a v) := fun y a e => by
    obtain ⟨i, hi⟩ := List.mem_iff_getElem?.mp (hcap y a e)
    obtain ⟨a', v, q1, q2, _⟩ := hvals i y hi
    rw [e] at q1
    cases q1
    exact ⟨v, q2⟩
  have ncode : ∀ a q, H a = some (LamX.CodeO a q) → ¬ ∃ y, nf.cl.lookup y = some a := fun a q e ⟨y, hy⟩ => by
    obtain ⟨v, hv⟩ := cellF y a hy
    exact cell_not_code (b := a) I.hok (hs _ _ hv) e
  have ntab : ∀ p ∈ T.tb, ¬ ∃ y, nf.cl.lookup y = some p.1 := fun p hp ⟨y, hy⟩ => by
    obtain ⟨v, hv⟩ := cellF y _ hy
    rw [t.nt p hp] at hv
    cases hv
  have nfn : ¬ ∃ y, nf.cl.lookup y = some f := fun ⟨y, hy⟩ => by
    obtain ⟨v, hv⟩ := cellF y _ hy
    exact cell_not_fn I.hok (hs _ _ hv) (hs _ _ hf)
  have e0 := I.env0
  have hokm : HOk X.prog X.w (hid H nf.cl) s.heap := fun b o e => by
    obtain ⟨e1, e2⟩ := hid_some e
    refine (I.hok b o e1).stay (fun _ _ _ q => q) (fun c q => ?_) fun c zs q => ?_
    · rw [hid_out fun ⟨y, hy⟩ => by obtain ⟨v, hv⟩ := cellF y _ hy; rw [hs _ _ hv] at q; cases q]
      exact q
    · rw [hid_out fun ⟨y, hy⟩ => by obtain ⟨v, hv⟩ := cellF y _ hy; rw [hs _ _ hv] at q; cases q]
      exact q
  have hnone : ∀ a, H a = none → hid H nf.cl a = none := fun a e => by
    unfold hid
    split
    · rfl
    · exact e
  have e0m : Env0 X.prog X.w X.K X.mg X.base X.A X.stack s (hid H nf.cl) := ⟨e0.frames, e0.mod, fun b o e => ⟨(e0.bs b o e).1, hnone _ (e0.bs b o e).2⟩, e0.bsz, e0.funs, fun b hb => hnone _ (e0.frf b hb), hokm, e0.bare⟩
  have tm : TbR T (hid F nf.cl) (hid H nf.cl) (hid H nf.cl) := by
    refine TbR.entry (H0 := hid H nf.cl) ⟨fun p hp => ?_, fun p hp => ?_, fun a ps e => ⟨ps, e⟩, fun a b q e => ?_, fun p hp => ?_⟩
    · obtain ⟨ps, q1, q2, q3⟩ := t.tab p hp
      refine ⟨ps, by rw [hid_out (ntab p hp)]; exact q1, q2, fun pos cv hcv => ?_⟩
      obtain ⟨b, q4, q5⟩ := q3 pos cv hcv
      exact ⟨b, q4, by rw [hid_out (ncode _ _ q5)]; exact q5⟩
    · obtain ⟨ps, q1, _⟩ := t.tab p hp
      exact ⟨ps, by rw [hid_out (ntab p hp)]; exact q1⟩
    · obtain ⟨e1, e2⟩ := hid_some e
      rw [hid_out e2]
      exact t.cd _ _ _ e1
    · rw [hid_out (ntab p hp)]
      exact t.nt p hp
  have hcells : NdefX.CellsAt nf.cl st.caps (vals.map some) s.heap (hid H nf.cl) := by
    refine ⟨by rw [List.length_map]; exact lvals, fun y a e => ⟨hid_in e, ?_⟩, hinj, fun i y hi => ?_⟩
    · obtain ⟨v, hv⟩ := cellF y a e
      obtain ⟨u, hu, _⟩ := cellO_at I.hok (hs _ _ hv)
      exact ⟨_, hu⟩
    · obtain ⟨a, v, q1, q2, q3⟩ := hvals i y hi
      obtain ⟨u, hu, ru⟩ := cellO_at I.hok (hs _ _ q2)
      refine ⟨a, q1, fun v' ev => ?_⟩
      rw [List.getElem?_map, q3] at ev
      cases ev
      exact ⟨u, ru, hu⟩
  have hinH : ∀ {a : Addr}, (∃ y, nf.cl.lookup y = some a) → ∃ v, H a = some (CellO a v) := fun {a} ⟨y, hy⟩ => by
    obtain ⟨v, hv⟩ := cellF y a hy
    exact ⟨v, hs _ _ hv⟩
  refine wpAny_call (codeAny_mono (run f nf h1 h2 X.A X.stack s (hid H nf.cl) us vs vals (fun v H1 => (∀ y a, nf.cl.lookup y = some a → H1 a = none) → Q v (unhid H H1 nf.cl)) hr e0m (by rw [hid_out nfn]; exact hs _ _ hf) (by rw [hid_out (ncode _ _ (hs _ _ hk))]; exact hs _ _ hk) hcells r
    ⟨hid F nf.cl, xs, ds, hid_le hs, tm, dvals, da.free hp, hl, ?_⟩) fun rr s' hq => ?_)
  · rw [em]
    intro v F1 H1 fin dv1 hn
    refine q v (unhid F F1 nf.cl) (unhid H H1 nf.cl) ⟨fun a o e => ?_, fun a o e => ?_, fun a o e => ?_, fun b o e hb n => ?_, ?_, ?_⟩ (dv1.le fun a o e => ?_)
    · by_cases z : ∃ y, nf.cl.lookup y = some a
      · rw [unhid_in z]; exact e
      · rw [unhid_out z]; exact fin.le _ _ (by rw [hid_out z]; exact e)
    · by_cases z : ∃ y, nf.cl.lookup y = some a
      · rw [unhid_in z] at e ⊢; exact hs _ _ e
      · rw [unhid_out z] at e ⊢; exact fin.sub _ _ e
    · by_cases z : ∃ y, nf.cl.lookup y = some a
      · rw [unhid_in z] at e; exact .inl e
      · rw [unhid_out z] at e
        rcases fin.new a o e with q | q
        · exact .inl (hid_some q).1
        · rw [hid_out z] at q; exact .inr q
    · by_cases z : ∃ y, nf.cl.lookup y = some b
      · rw [unhid_in z]; exact e
      · rw [unhid_out z]; exact fin.frame b o (by rw [hid_out z]; exact e) hb n
    · cases fin.muts; exact .nil
    · refine ⟨fun p hp => ?_, fun p hp => let ⟨ps, q, _⟩ := t.tab p hp; ⟨ps, q⟩, fun a ps e => ?_, fun a b q e => ?_, fun p hp => ?_⟩
      · obtain ⟨ps, q1, q2, q3⟩ := fin.tb.tab p hp
        refine ⟨ps, by rw [unhid_out (ntab p hp)]; exact q1, q2, fun pos cv hcv => ?_⟩
        obtain ⟨b, q4, q5⟩ := q3 pos cv hcv
        refine ⟨b, q4, ?_⟩
        rw [unhid_out fun ⟨y, hy⟩ => by rw [hn y b hy] at q5; cases q5]
        exact q5
      · have z : ¬ ∃ y, nf.cl.lookup y = some a := fun z => by obtain ⟨v, hv⟩ := hinH z; rw [e] at hv; unfold CellO at hv; cases hv
        obtain ⟨qs, q⟩ := fin.tb.tl a ps (by rw [hid_out z]; exact e)
        exact ⟨qs, by rw [unhid_out z]; exact q⟩
      · by_cases z : ∃ y, nf.cl.lookup y = some a
        · rw [unhid_in z] at e ⊢; exact t.cd _ _ _ e
        · rw [unhid_out z] at e ⊢; exact fin.tb.cd _ _ _ e
      · rw [unhid_out (ntab p hp)]; exact fin.tb.nt p hp
    · have z : ¬ ∃ y, nf.cl.lookup y = some a := fun ⟨y, hy⟩ => by
        have q := hn y a hy
        rw [fin.sub _ _ e] at q
        cases q
      rw [unhid_out z]
      exact e
  · cases rr with
    | error e =>
      obtain ⟨_, _, _, _, _, _, _, _, _, _, _, _, z⟩ := (show L2.CX X.prog X.w X.stack (hid H nf.cl) s (fun _ _ _ => False) e s' from hq)
      exact z.elim
    | ok fl =>
      cases fl with
      | next => exact False.elim hq
      | brk => exact False.elim hq
      | cont => exact False.elim hq
      | ret u =>
        obtain ⟨v, H1, os, bare, un, hok1, rv, q1⟩ := (show CE X.stack X.prog X.w (hid H nf.cl) s _ u s' from hq)
        have there : ∀ y a, nf.cl.lookup y = some a → ∃ o, s.heap.get? a = some o ∧ ∃ v u, H a = some (CellO a v) ∧ o.data = .cell (some u) ∧ RelV v u := fun y a e => by
          obtain ⟨v, hv⟩ := hinH ⟨y, e⟩
          obtain ⟨u, ⟨o, ho, hd⟩, ru⟩ := cellO_at I.hok hv
          exact ⟨o, ho, v, u, hv, hd, ru⟩
        have hn : ∀ y a, nf.cl.lookup y = some a → H1 a = none := fun y a e => by
          obtain ⟨o, ho, _⟩ := there y a e
          exact un.free a o ho (hid_in e) (by simp)
        refine I.after ⟨v, unhid H H1 nf.cl, os, bare, ⟨fun b o e n hb hx => ?_, fun b o e n hb hx => ?_, fun b o e n hx => ?_, un.there, fun b zs e => ?_, fun b o z e => ?_, fun b ps e => ?_⟩, fun b o e => ?_, rv, q1 hn⟩
        · exact un.keep b o e (hnone _ n) hb hx
        · exact un.slot b o e (hnone _ n) hb hx
        · by_cases z : ∃ y, nf.cl.lookup y = some b
          · rw [unhid_in z]; exact n
          · rw [unhid_out z]; exact un.free b o e (hnone _ n) hx
        · have z : ¬ ∃ y, nf.cl.lookup y = some b := fun z => by obtain ⟨v, hv⟩ := hinH z; rw [e] at hv; unfold CellO at hv; cases hv
          rw [unhid_out z]; exact un.tups _ _ (by rw [hid_out z]; exact e)
        · have z : ¬ ∃ y, nf.cl.lookup y = some b := fun z => by obtain ⟨v, hv⟩ := hinH z; rw [e] at hv; unfold CellO at hv; cases hv
          rw [unhid_out z]; exact un.frzs _ _ _ (by rw [hid_out z]; exact e)
        · have z : ¬ ∃ y, nf.cl.lookup y = some b := fun z => by obtain ⟨v, hv⟩ := hinH z; rw [e] at hv; unfold CellO at hv; cases hv
          rw [unhid_out z]; exact un.tbls _ _ (by rw [hid_out z]; exact e)
        · by_cases z : ∃ y, nf.cl.lookup y = some b
          · rw [unhid_in z] at e
            obtain ⟨y, hy⟩ := z
            obtain ⟨o', ho, v, u, hv, hd, ru⟩ := there y b hy
            rw [e] at hv
            cases hv
            have nfr : b ∉ frs X.stack := fun hb => by rw [e0.frf b hb] at e; cases e
            have ho' := un.keep b o' ho (hid_in hy) nfr (by simp)
            exact ⟨⟨u, ⟨o', ho', hd⟩, ru⟩, ⟨o', ho'⟩, fun h1 h2 ⟨u, ⟨o, q, qd⟩, ru⟩ st => ⟨u, ⟨o, st _ q, qd⟩, ru⟩⟩
          · rw [unhid_out z] at e
            refine (hok1 b o e).stay (fun _ _ _ q => q) (fun c q => ?_) fun c zs q => ?_
            · rw [unhid_out fun ⟨y, hy⟩ => by rw [hn y c hy] at q; cases q]; exact q
            · rw [unhid_out fun ⟨y, hy⟩ => by rw [hn y c hy] at q; cases q]; exact q
end
end Pv

set_option Elab.async false
set_option linter.all false
set_option maxRecDepth 100000
set_option maxHeartbeats 1000000
/-! Pv12: x(..), x a name that holds a made function; a def that makes a function and hands it back. -/
namespace Pv
open PySem L2
def CallF (X : Cx) (f : Addr) (vs : List V) (σ : L2.St) (H : Hp) (Q : VK) : Prop := ∀ (pins : List (Addr × Obj)) (s : Shared) (us : List Value), Inv X pins σ H s → Vals vs us → wpAny (model X.prog X.w) X.A (call (.ref f) us) (EP X pins σ Q) X.xe s
def tCloV (i : Nat) (t : TA) (X : Cx) : TE := fun σ H Q => ∃ f, σ[i]? = some (some (.ref f)) ∧ (∃ nf bd, H f = some (FnOb f nf bd)) ∧ t σ H fun vs H1 => (∃ nf bd, H1 f = some (FnOb f nf bd)) ∧ CallF X f vs σ H1 Q
section
variable {X : Cx} {i : Nat} {x : Str} {e : Expr} {es : List Expr} {p pos : Pos} {t : TA}
theorem fnOb_fnAt {pins : List (Addr × Obj)} {σ : L2.St} {H : Hp} {s : Shared} {f : Addr} {nf : NdefX.NF} {bd : FuncBody} (I : Inv X pins σ H s) (e : H f = some (FnOb f nf bd)) : PySem.W.FnAt f s.heap := by
  obtain ⟨od, sl, doc, pm, ctv, ho⟩ := fnOb_at I.hok e
  exact ⟨_, od, _, sl, ho⟩
theorem pe_cloV (hN : X.N[i]? = some x) (hv : Vis X.env.scope x) (ha : PA X (e :: es) t) (hd : (x == ("__debug__" : Str)) = false) (hcd : (x == ("__classdict__" : Str)) = false)
    (he : starEach (e :: es) X.env = (false, eval e X.env) :: starEach es X.env) (hpl : (backTo pos (starEach es X.env)).any (·.1) = false) : PE X (.Call (.Name x p) (e :: es) [] pos) (tCloV i t X) := by
  refine ⟨fun pins s σ H Q I h => ?_⟩
  obtain ⟨f, hs, ⟨nf, bd, hf⟩, ht⟩ := h
  refine wpAny_Call_Name_kw (thn ((pe_var (pos := p) hN hv hd hcd).run pins s σ H (fun v H1 => v = .ref f ∧ H1 = H) I ⟨.ref f, hs, rfl, rfl⟩) fun u s1 ⟨v, H1, I1, r1, q1⟩ => ?_)
  obtain ⟨ev, eH⟩ := q1
  subst ev
  rw [eH] at I1
  obtain rfl : u = Value.ref f := r1
  refine PySem.W.callWith_F (first := []) (fnOb_fnAt I1 hf) (thn (ha.run pos pins s1 σ H _ I1 ht) fun us s2 ⟨vs, H2, I2, r, ⟨nf2, bd2, h1⟩, q⟩ => ⟨fnOb_fnAt I2 h1, ?_⟩) he hpl
  show wpAny _ _ (call (.ref f) us) _ _ _
  exact q pins s2 us I2 r
end
/-- what comes of the call: cs, the places where the function may have been made -/
def cloR (cs : List Nat) (n : Nat) (mirC : Nat → List D → List D → Res) (d : D) (ds : List D) (s : SD) : Out D := match d with
  | .clo c xs => if cs.contains c && ds.all noClo && decide (ds.length = n) then (match mirC c xs ds with
    | .ret z _ => .ok z s
    | _ => .stuck) else .stuck
  | _ => .stuck
def cloM (i : Nat) (cs : List Nat) (n : Nat) (mirC : Nat → List D → List D → Res) (g : LM) : EM := fun s => match s[i]? with
  | some (.val (.clo c xs)) => (g s).bind fun ds s1 => cloR cs n mirC (.clo c xs) ds s1
  | _ => .stuck
section
variable {B : Bd} {Pd : List (Addr × HO)} {F F' : Hp} {σ : L2.St} {H H' : Hp} {sd : SD} {X : Cx} {i k n : Nat} {x : Str} {e : Expr} {es : List Expr} {p pos : Pos} {g : LM} {cs : List Nat} {mirC : Nat → List D → List D → Res}
theorem ev_clo (hC : ∀ c ∈ cs, CloOk X.prog X.w X.K X.mg X.base B.T c (mirC c) k n) (hr : Room k X.A) (hN : X.N[i]? = some x) (hv : Vis X.env.scope x) (ha : EL B X (e :: es) g) (hd : (x == ("__debug__" : Str)) = false) (hcd : (x == ("__classdict__" : Str)) = false)
    (he : starEach (e :: es) X.env = (false, eval e X.env) :: starEach es X.env) (hpl : (backTo pos (starEach es X.env)).any (·.1) = false) : EV B X (.Call (.Name x p) (e :: es) [] pos) (cloM i cs n mirC g) := fun hk =>
  (pe_cloV hN hv (ha hk) hd hcd he hpl).imp fun σ H Q ⟨Pd, F, sd, R, p⟩ => by
    unfold cloM at p
    split at p
    · rename_i c xs q
      obtain ⟨v, h1, dv⟩ := R.slot i _ q
      obtain ⟨f, nf, st, rfl, hf, _⟩ := dv.clo_inv
      refine ⟨f, h1, ⟨nf, _, R.sub _ _ hf⟩, Pd, F, sd, R, ?_⟩
      cases eg : g sd with
      | exc c fs s => rw [eg] at p; exact p
      | stuck => rw [eg] at p; exact p.elim
      | ok ds sd1 =>
        rw [eg] at p
        intro vs F1 H1 s1 R1 dvs
        refine ⟨⟨nf, _, R1.sub _ _ (s1 _ _ hf)⟩, fun pins s us I r => ?_⟩
        have p1 : PostE B Pd F1 σ Q (cloR cs n mirC (.clo c xs) ds sd1) := PostE.le s1 p
        unfold cloR at p1
        dsimp only at p1
        split at p1
        · rename_i hc
          rw [Bool.and_eq_true, Bool.and_eq_true] at hc
          obtain ⟨⟨c1, c2⟩, c3⟩ := hc
          have hcm : c ∈ cs := by simpa using c1
          cases em : mirC c xs ds with
          | ret z ms =>
            rw [em] at p1
            have dv1 := dv.le s1
            rw [hk] at dv1 dvs
            refine clo_run (hC c hcm) I R1.sub R1.tb.entry dv1 dvs c2 (of_decide_eq_true c3) hr r em fun v F' H' fin dv2 => ?_
            have R2 := R1.grow' fin.le (fun a o h1 h2 => fin.frame a o h1 (by simp) h2) fin.sub fin.new (R1.tb.trans fin.tb)
            exact p1 v F' H' fin.le R2 (by rw [hk]; exact dv2)
          | exc c fs ms => rw [em] at p1; exact p1.elim
          | stuck => rw [em] at p1; exact p1.elim
        · exact p1.elim
    · exact p.elim
end

/-! ### a def that makes a function and hands it back -/
/-- the closing statements: they hand back a function made at the place st -/
def LastOk (X : Cx) (T : Tb) (last : List Stmt) (st : Site) (js : List Nat) : Prop := ∀ (pins : List (Addr × Obj)) (σ : L2.St) (H : Hp) (s : Shared) (F H0 : Hp), Inv X pins σ H s → Same F H → TbR T F H0 H →
  wpAny (model X.prog X.w) X.A (execs last X.env) (fun fl s' => ∃ f nf F1 H1 σ', fl = .ret (.ref f) ∧ Made X pins σ' T F H0 H f nf st.body F1 H1 s' ∧ nf.params = st.params ∧ nf.scope = st.scope ∧ nf.cl = cloFrom X.env.cells st.scope.names [] ∧ ∀ j ∈ js, σ'[j]? = σ[j]?) X.xe s
theorem last_lam {X : Cx} {T : Tb} {st : Site} {js : List Nat} {nm : Nat → Nat → Str} {c P : Addr} {params : Arguments} {body : Expr} {scope : Scope} {pos pos' : Pos} (TB : LamX.TabB X.base X.mg c P) (hcode : X.env.code = .ref c)
    (hm : (P, nm) ∈ T.tb) (hu : ∀ p ∈ T.tb, p.1 = P → p.2 = nm) (hn : nm pos.line pos.col = X.env.qual ++ "<lambda>") (hdef : defaultsOf params X.env = ([], []))
    (hfree : ∀ y ∈ scope.names, y.2 = .free → X.env.scope.names.lookup y.1 = some .cell ∨ X.env.scope.names.lookup y.1 = some .free) (e1 : st.params = params) (e2 : st.scope = scope) (e3 : st.body = .expr body) : LastOk X T [.Return (some (.Lambda params body scope pos)) pos'] st js := fun pins σ H s F H0 I hs t => by
  have hfr : ∀ y ∈ scope.names, y.2 = .free → ∃ c, X.env.cells.lookup y.1 = some c := fun y hy e => (hfree y hy e).elim (fun z => I.ok.has _ (.inl z)) fun z => I.ok.has _ (.inr z)
  refine wpAny_execs_cons (wpAny_Return_some (lam_mk I hs t TB hcode hm hu hn hdef hfr fun f c' F1 H1 s' m => ?_))
  exact ⟨f, _, F1, H1, σ, rfl, by rw [e3]; exact m, e1.symm, e2.symm, by rw [e2], fun _ _ => rfl⟩
theorem last_def {X : Cx} {T : Tb} {st : Site} {js : List Nat} {nm : Nat → Nat → Str} {c P : Addr} {name : Str} {params : Arguments} {body : List Stmt} {scope : Scope} {pos p2 p3 : Pos} {i : Nat} (TB : LamX.TabB X.base X.mg c P) (hcode : X.env.code = .ref c)
    (hm : (P, nm) ∈ T.tb) (hu : ∀ p ∈ T.tb, p.1 = P → p.2 = nm) (hn : nm pos.line pos.col = X.env.qual ++ name) (hd0 : params.defaults = []) (hk0 : params.kw_defaults = []) (ha : annTrees params none X.env = [])
    (hfree : ∀ y ∈ scope.names, y.2 = .free → X.env.scope.names.lookup y.1 = some .cell ∨ X.env.scope.names.lookup y.1 = some .free) (e1 : st.params = params) (e2 : st.scope = scope) (e3 : st.body = .stmts body)
    (hN : X.N.Nodup) (hi : X.N[i]? = some name) (hx : Loc X.env.scope name) (hf : X.fn name = true ∨ X.env.scope.names.lookup name = some .local) (hd : (name == ("__debug__" : Str)) = false) (hcd : (name == ("__classdict__" : Str)) = false) (hj : ∀ j ∈ js, j ≠ i) :
    LastOk X T [.FunctionDef name params body [] none [] scope none name pos, .Return (some (.Name name p2)) p3] st js := fun pins σ H s F H0 I hs t => by
  have hfr : ∀ y ∈ scope.names, y.2 = .free → ∃ c, X.env.cells.lookup y.1 = some c := fun y hy e => (hfree y hy e).elim (fun z => I.ok.has _ (.inl z)) fun z => I.ok.has _ (.inr z)
  have hq : qualnameIn X.env name name = X.env.qual ++ name := by
    have hk : X.env.kindOf name = some .local ∨ X.env.kindOf name = some .cell := hx
    unfold qualnameIn
    rcases hk with k | k <;> rw [k] <;> first | rfl | exact if_neg (by decide)
  refine wpAny_execs_cons (PySem.W.nestDef_K hd0 hk0 ha ?_)
  rw [hq]
  refine def_mk I hs t TB hcode hm hu hn hfr fun f c' F1 H1 s' m => ?_
  refine store_ok m.inv hN hi hx (v := .ref f) rfl (fun s'' J => ?_) hf
  have hil : i < σ.length := by rw [I.len]; exact (List.getElem?_eq_some_iff.mp hi).1
  refine wpAny_execs_cons (wpAny_Return_some (thn ((pe_var (pos := p2) hi (hx.elim .inl fun z => .inr (.inl z)) hd hcd).run pins s'' (σ.set i (some (.ref f))) H1 (fun v H2 => v = .ref f ∧ H2 = H1) J ⟨.ref f, List.getElem?_set_self hil, rfl, rfl⟩) fun u s3 ⟨v, H2, I3, r1, q1⟩ => ?_))
  obtain ⟨ev, eH⟩ := q1
  subst ev
  rw [eH] at I3
  obtain rfl : u = Value.ref f := r1
  exact ⟨f, _, F1, H1, _, rfl, by rw [e3]; exact { m with inv := I3 }, e1.symm, e2.symm, by rw [e2], fun j hj' => List.getElem?_set_ne fun z => hj j hj' z.symm⟩
/-- statements that end in the closing ones: what is before them by data -/
def MkB (B : Bd) (X : Cx) (ss : List Stmt) (st : Site) (js : List Nat) (h : SM) : Prop := B.K = X.K → ∀ (pins : List (Addr × Obj)) (s : Shared) (σ : L2.St) (H F : Hp) (sd : SD), Inv X pins σ H s → Rel B [] F σ H sd →
  (match h sd with | .next _ => True | .exc c fs s => PostX B F c fs s | _ => False) →
  wpAny (model X.prog X.w) X.A (execs ss X.env) (fun fl s' => ∃ f nf F' H' σ1 sd1 F1 H1 σ', fl = .ret (.ref f) ∧ h sd = .next sd1 ∧ Same F F' ∧ Rel B [] F' σ1 H' sd1 ∧ Made X pins σ' B.T F' B.H0 H' f nf st.body F1 H1 s' ∧ nf.params = st.params ∧ nf.scope = st.scope ∧ nf.cl = cloFrom X.env.cells st.scope.names [] ∧ ∀ j ∈ js, σ'[j]? = σ1[j]?) X.xe s
section
variable {B : Bd} {X : Cx} {st : Site} {js : List Nat}
theorem mk_last {last : List Stmt} (h : LastOk X B.T last st js) : MkB B X last st js (fun s => .next s) := fun hk pins s σ H F sd I R p =>
  thn (h pins σ H s F B.H0 I R.sub R.tb) fun fl s' ⟨f, nf, F1, H1, σ', e1, m, e2, e3, e4, e5⟩ => ⟨f, nf, F, H, σ, sd, F1, H1, σ', e1, rfl, Same.refl F, R, m, e2, e3, e4, e5⟩
theorem mk_cons {stm : Stmt} {rest : List Stmt} {g h : SM} (a : SV B X stm g) (b : MkB B X rest st js h) : MkB B X (stm :: rest) st js (seqM g h) := fun hk pins s σ H F sd I R p => by
  unfold seqM at p ⊢
  have run := (a hk).run pins s σ H { nx := fun σ1 H1 => ∃ F1 sd1, Same F F1 ∧ Rel B [] F1 σ1 H1 sd1 ∧ g sd = .next sd1, rt := fun _ _ => False, bk := fun _ _ => False, ct := fun _ _ => False } I ⟨F, sd, R, ?_⟩
  · refine wpAny_execs_cons (thn run fun f s1 q => ?_)
    cases f with
    | next =>
      obtain ⟨σ1, H1, I1, F1, sd1, sf, R1, e⟩ := q
      rw [e] at p
      have p : (match h sd1 with | .next _ => True | .exc c fs s => PostX B F c fs s | _ => False) := p
      refine thn (b hk pins s1 σ1 H1 F1 sd1 I1 R1 ?_) fun fl s' ⟨f, nf, F', H', σ2, sd2, F2, H2, σ', e1, e2, e3, e4, e5⟩ => ⟨f, nf, F', H', σ2, sd2, F2, H2, σ', e1, by rw [e]; exact e2, sf.trans e3, e4, e5⟩
      cases e2 : h sd1 with
      | exc c fs s => rw [e2] at p; exact PostX.le sf p
      | next _ => trivial
      | ret _ _ _ => rw [e2] at p; exact p
      | brk _ => rw [e2] at p; exact p
      | cont _ => rw [e2] at p; exact p
      | stuck => rw [e2] at p; exact p
    | ret v => obtain ⟨_, _, _, _, _, z⟩ := q; exact z.elim
    | brk => obtain ⟨_, _, _, z⟩ := q; exact z.elim
    | cont => obtain ⟨_, _, _, z⟩ := q; exact z.elim
  · cases e : g sd with
    | next s1 => exact fun σ1 F1 H1 h1 h2 => ⟨F1, s1, h1, h2, rfl⟩
    | exc c fs s => rw [e] at p; exact p
    | ret _ _ _ => rw [e] at p; exact p.elim
    | brk _ => rw [e] at p; exact p.elim
    | cont _ => rw [e] at p; exact p.elim
    | stuck => rw [e] at p; exact p.elim
end

/-! ### the maker's end -/
def frzD : List Nat → SD → Option SD
  | [], s => some s
  | j :: js, s => match s[j]? with
    | some (.val _) => frzD js s
    | some (.own d) => frzD js (s.set j (.val d))
    | _ => none
def valsD : List Nat → SD → Option (List D)
  | [], _ => some []
  | j :: js, s => match s[j]?, valsD js s with
    | some (.val d), some ds => some (d :: ds)
    | _, _ => none
def resC (c : Nat) (js : List Nat) : SOut → Res
  | .next s => (match frzD js s with
    | some s' => (match valsD js s' with
      | some ds => .ret (.clo c ds) []
      | none => .stuck)
    | none => .stuck)
  | .exc c fs _ => .exc c fs []
  | _ => .stuck
theorem frz_rel {B : Bd} {Pd : List (Addr × HO)} {σ : L2.St} {H : Hp} : ∀ {js : List Nat} {F : Hp} {sd s' : SD}, Rel B Pd F σ H sd → (∀ j ∈ js, j ∉ B.lock) → frzD js sd = some s' → ∃ F', Same F F' ∧ Rel B Pd F' σ H s'
  | [], F, sd, s', R, _, h => by cases h; exact ⟨F, Same.refl F, R⟩
  | j :: js, F, sd, s', R, hl, h => by
    unfold frzD at h
    split at h
    · exact frz_rel R (fun j hj => hl j (List.mem_cons_of_mem _ hj)) h
    · rename_i d q
      obtain ⟨a, o, _, _, _, R2, s2⟩ := R.freezeS q (hl j List.mem_cons_self)
      obtain ⟨F', s3, R3⟩ := frz_rel R2 (fun j hj => hl j (List.mem_cons_of_mem _ hj)) h
      exact ⟨F', s2.trans s3, R3⟩
    · cases h
theorem valsD_get : ∀ {js : List Nat} {s : SD} {ds : List D}, valsD js s = some ds → ds.length = js.length ∧ ∀ (i j : Nat), js[i]? = some j → ∃ d : D, s[j]? = some (Slot.val d) ∧ ds[i]? = some d
  | [], s, ds, h => by cases h; exact ⟨rfl, fun i j h => by simp at h⟩
  | j :: js, s, ds, h => by
    unfold valsD at h
    split at h
    · rename_i d ds' q1 q2
      cases h
      obtain ⟨g1, g2⟩ := valsD_get q2
      refine ⟨by simp [g1], fun i j' e => ?_⟩
      cases i with
      | zero => simp at e; subst e; exact ⟨d, q1, rfl⟩
      | succ i => obtain ⟨d', k1, k2⟩ := g2 i j' (by simpa using e); exact ⟨d', k1, by simpa using k2⟩
    · cases h
theorem listChoice {α β : Type} : ∀ {xs : List α} {R : Nat → α → β → Prop}, (∀ i y, xs[i]? = some y → ∃ z, R i y z) → ∃ zs : List β, zs.length = xs.length ∧ ∀ i y, xs[i]? = some y → ∃ z, zs[i]? = some z ∧ R i y z
  | [], R, _ => ⟨[], rfl, fun i y h => by simp at h⟩
  | x :: xs, R, h => by
    obtain ⟨z, hz⟩ := h 0 x rfl
    obtain ⟨zs, g1, g2⟩ := listChoice (xs := xs) (R := fun i => R (i + 1)) fun i y e => h (i + 1) y (by simpa using e)
    refine ⟨z :: zs, by simp [g1], fun i y e => ?_⟩
    cases i with
    | zero => simp at e; subst e; exact ⟨z, rfl, hz⟩
    | succ i => obtain ⟨z', k1, k2⟩ := g2 i y (by simpa using e); exact ⟨z', by simpa using k1, k2⟩
def addC : List (Addr × V) → Hp → Hp
  | [], H => H
  | p :: l, H => upd (addC l H) p.1 (CellO p.1 p.2)
theorem addC_out : ∀ {l : List (Addr × V)} {H : Hp} {a : Addr}, a ∉ l.map (·.1) → addC l H a = H a
  | [], _, _, _ => rfl
  | p :: l, H, a, h => by
    rw [List.map_cons, List.mem_cons] at h
    unfold addC
    rw [upd_ne fun z => h (.inl z)]
    exact addC_out fun z => h (.inr z)
theorem addC_in : ∀ {l : List (Addr × V)} {H : Hp} {p : Addr × V}, (l.map (·.1)).Nodup → p ∈ l → addC l H p.1 = some (CellO p.1 p.2)
  | q :: l, H, p, nd, h => by
    rw [List.map_cons] at nd
    obtain ⟨n1, n2⟩ := List.nodup_cons.mp nd
    unfold addC
    rcases List.mem_cons.mp h with z | z
    · subst z; exact upd_same
    · rw [upd_ne fun e => n1 (by rw [← e]; exact List.mem_map_of_mem z)]
      exact addC_in n2 z
theorem addC_cases {l : List (Addr × V)} {H : Hp} {a : Addr} {o : HO} (nd : (l.map (·.1)).Nodup) (h : addC l H a = some o) : (∃ p ∈ l, a = p.1 ∧ o = CellO p.1 p.2) ∨ (a ∉ l.map (·.1) ∧ H a = some o) := by
  by_cases m : a ∈ l.map (·.1)
  · obtain ⟨p, hp, e⟩ := List.mem_map.mp m
    subst e
    rw [addC_in nd hp] at h
    exact .inl ⟨p, hp, rfl, (Option.some.inj h).symm⟩
  · rw [addC_out m] at h
    exact .inr ⟨m, h⟩
theorem addC_same {l : List (Addr × V)} {H : Hp} (hn : ∀ p ∈ l, H p.1 = none) : Same H (addC l H) := fun a o e => by
  rw [addC_out fun m => by
    obtain ⟨p, hp, q⟩ := List.mem_map.mp m
    rw [← q, hn p hp] at e
    cases e]
  exact e
theorem addC_ok {P : Program} {w : World} {h : Heap} : ∀ {l : List (Addr × V)} {H : Hp}, HOk P w H h → (l.map (·.1)).Nodup → (∀ p ∈ l, H p.1 = none ∧ ∃ u, h.IsCell p.1 (some u) ∧ RelV p.2 u) → HOk P w (addC l H) h
  | [], H, hok, _, _ => hok
  | p :: l, H, hok, nd, hl => by
    rw [List.map_cons] at nd
    obtain ⟨n1, n2⟩ := List.nodup_cons.mp nd
    have ih := addC_ok hok n2 fun q hq => hl q (List.mem_cons_of_mem _ hq)
    obtain ⟨e, u, ⟨o, ho, hd⟩, ru⟩ := hl p List.mem_cons_self
    refine HOk.laidN ih (fun _ _ q => q) (by rw [addC_out n1]; exact e) ?_
    exact ⟨⟨u, ⟨o, ho, hd⟩, ru⟩, ⟨o, ho⟩, fun h1 h2 ⟨u, ⟨o, q, qd⟩, ru⟩ st => ⟨u, ⟨o, st _ q, qd⟩, ru⟩⟩
theorem dcs_of {T : Tb} {K : PySem.W.Frag} {F G : Hp} {cl : List (Str × Addr)} : ∀ {xs : List Str} {ds : List D}, ds.length = xs.length → (∀ (i : Nat) (y : Str), xs[i]? = some y → ∃ c v d, cl.lookup y = some c ∧ F c = some (CellO c v) ∧ ds[i]? = some d ∧ DV T K G v d) → DCs T K F cl G xs ds
  | [], [], _, _ => .nil
  | [], _ :: _, h, _ => by simp at h
  | _ :: _, [], h, _ => by simp at h
  | x :: xs, d :: ds, hl, h => by
    obtain ⟨c, v, d', h1, h2, h3, h4⟩ := h 0 x rfl
    simp at h3
    subst h3
    exact .cons h1 h2 h4 (dcs_of (by simpa using hl) fun i y e => by
      obtain ⟨c, v, d', h1, h2, h3, h4⟩ := h (i + 1) y (by simpa using e)
      exact ⟨c, v, d', h1, h2, by simpa using h3, h4⟩)
/-- A DEF THAT MAKES A FUNCTION AND HANDS IT BACK -/
theorem maker_ok {P : Program} {w : World} {K : PySem.W.Frag} {mg : Str → Option Value} {base : Heap} {x qual : Str} {params : Arguments} {body : List Stmt} {scope : Scope} {dvs : List V} {kws : List (Str × V)} {f : Addr} {fd : FuncData} {N ps : List Str} {k c : Nat}
    {T : Tb} {sig : Sig} {mir : Mir} {g : SM} {st : Site} {js : List Nat} (F : FunD K x qual params body scope dvs kws f fd) (S : FnScope N ps scope) (hl : sig.modes.length = ps.length) (hn : ps.length ≤ N.length) (ho : sig.own = false) (hmi : mutsAt 0 sig.modes = []) (hst : T.fn[c]? = some st)
    (hjs : js.map (fun j => N[j]?) = st.caps.map some) (hnd : st.caps.Nodup) (hfree : ∀ y ∈ st.scope.names, y.2 = .free → y.1 ∈ st.caps) (hcap : ∀ y ∈ st.caps, (y, NameKind.free) ∈ st.scope.names ∧ scope.names.lookup y = some .cell)
    (hb : ∀ (cdv : Value) (A : Around) (outer : List Env) (s : Shared) (H : Hp) (E : XK) (B : Bd), fd.code = cdv → B.T = T → B.mi = [] → B.pin = [] → B.ex = (fun c d _ H => E c d H) → Room k (A.deeper (PyProof.Rows.envOfC qual scope s.heap.objs.size f cdv)) →
      MkB B (cxD P w K mg base N qual scope f cdv A outer s H E) body st js g)
    (hg : ∀ ds, ds.length = sig.modes.length → mir ds ≠ .stuck → resC c js (g (sd0 sig.modes ds N.length)) = mir ds) : FnOk P w K mg base (L2.CX P w) (k + 1) f fd ps (spF T K sig mir) := by
  obtain ⟨oc, od, dV, kV, doc, pm, an, cdv, ct, osl, rfl, lk, hcd, _, _⟩ := F.ex
  refine ⟨fun vs H Q E h => ?_, fun A outer s H args us vs Q E hr e0 hbd r hsp => ?_⟩
  · obtain ⟨F, ds, as, _, _, ha, _⟩ := h
    rw [ha.len.1, hl]
  obtain ⟨F0, ds, as, hs, tb, ha, nd, q⟩ := hsp
  have hl' : vs.length = ps.length := by rw [ha.len.1, hl]
  have has : as = [] := by
    have z := (ha.muts 0).1
    rw [hmi] at z
    exact List.eq_nil_of_length_eq_zero z.symm
  subst has
  have KX : K.In s.heap := e0.mod.kin.keeps fun b o e => (e0.bs b o e).1
  have lim : s.heap.NoLimit := e0.mod.nolimit.keeps fun b o e => (e0.bs b o e).1
  have hkind : ∀ y ∈ ps.zip us, scope.names.lookup y.1 = some .local ∨ (scope.names.lookup y.1 = some .cell ∧ ((cellsFrom (s.heap.objs.size + 1) scope.names []).lookup y.1).isSome = true) := fun ⟨n, v⟩ hy => by
    rcases S.par n (List.of_mem_zip hy).1 with q | q
    · exact .inl q
    · exact .inr ⟨q, PySem.W.cellsFrom_some _ _ _ (.inl q)⟩
  refine codeAny_call_function hr.depth (KX _ _ lk) rfl S.co S.gen rfl (PySem.W.codeRec_of KX hcd) (hbd _ _ _ _ ?_)
  refine wpAny_newFunctionEnv_cells S.kind hkind fun env he s1 xx => ?_
  subst he
  refine ⟨lim.keeps xx.toInCall.keep, codeAny_func ?_⟩
  have I := inv_start (CX := L2.CX P w) (E := E) S hr.hd e0 hl' r xx
  have R0 := Rel.start (ex := fun c d _ H => E c d H) (N := N) hs tb ha nd (by omega)
  rw [hmi] at R0
  have ht := hb cdv A outer s H E ⟨T, K, H, F0, [], [], [], fun c d _ H => E c d H⟩ rfl rfl rfl rfl rfl (hr.deeper _) rfl
  have hne : mir ds ≠ .stuck := fun z => by rw [z] at q; exact q
  have hgd := hg ds ha.len.2 hne
  refine wpAny_mono (ht [] s1 _ H F0 _ I R0 ?_) (fun fl s' hs' => ?_) fun e s' hs => hs
  · cases e : g (sd0 sig.modes ds N.length) with
    | next _ => trivial
    | exc c' fs s2 =>
      rw [e] at hgd
      rw [← hgd] at q
      exact fun C dx fvs σ F' H' hc _ R hx hf => q C dx fvs F' H' hc R.fin hx hf
    | ret _ _ _ => rw [e] at hgd; exact hne hgd.symm
    | brk _ => rw [e] at hgd; exact hne hgd.symm
    | cont _ => rw [e] at hgd; exact hne hgd.symm
    | stuck => rw [e] at hgd; exact hne hgd.symm
  · obtain ⟨fa, nf, F', H', σ1, sd1, F1, H1, σ', rfl, e2, sf, R, m, e3, e4, e5, e6⟩ := hs'
    have R1 := R.grow' m.le m.hH m.sub m.new m.tb
    rw [e2] at hgd
    unfold resC at hgd
    dsimp only at hgd
    split at hgd
    · rename_i s2 q2
      split at hgd
      · rename_i ds' q3
        obtain ⟨F2, sf2, R2⟩ := frz_rel R1 (fun j _ hj => by simp [Bd.lock] at hj) q2
        obtain ⟨ld, gd⟩ := valsD_get q3
        have J := m.inv
        have cells : (cxD P w K mg base N qual scope f cdv A outer s H E).Ok := J.ok
        have hfr : ∀ y ∈ st.scope.names, y.2 = .free → ∃ c, (cxD P w K mg base N qual scope f cdv A outer s H E).env.cells.lookup y.1 = some c := fun y hy e => cells.has _ (.inl (hcap _ (hfree y hy e)).2)
        have lj : js.length = st.caps.length := by have := congrArg List.length hjs; simpa using this
        obtain ⟨mloc, hns, hloc⟩ := J.loc
        obtain ⟨l, ll, gl⟩ := listChoice (xs := st.caps) (R := fun i y (z : Addr × V) => nf.cl.lookup y = some z.1 ∧ H1 z.1 = none ∧ (∃ u, s'.heap.IsCell z.1 (some u) ∧ RelV z.2 u) ∧ s.heap.objs.size ≤ z.1 ∧ ∃ d, ds'[i]? = some d ∧ DV T K F2 z.2 d) fun i y hi => by
          obtain ⟨c1, c2⟩ := hcap y (List.mem_of_getElem? hi)
          have hij : i < js.length := by rw [lj]; exact (List.getElem?_eq_some_iff.mp hi).1
          have hj := List.getElem?_eq_getElem hij
          have hNj : N[js[i]]? = some y := by
            have z := congrArg (fun l : List (Option Str) => l[i]?) hjs
            simp only [List.getElem?_map, hj, hi, Option.map_some] at z
            exact Option.some.inj z
          obtain ⟨d, k1, k2⟩ := gd i _ hj
          obtain ⟨v, k3, k4⟩ := R2.slot _ _ k1
          have k5 : σ'[js[i]]? = some (some v) := by rw [e6 _ (List.getElem_mem hij)]; exact k3
          obtain ⟨u, ru, lk⟩ := hloc _ y v hNj k5 (.inr (.inl c2))
          rcases lk with ⟨z, _⟩ | ⟨_, a, ea, ia⟩
          · exact absurd (show scope.names.lookup y = some .local from z) (by rw [c2]; exact fun z => nomatch z)
          · refine ⟨(a, v), ?_, J.freeC y a ea, ⟨u, ia, ru⟩, cells.cab y a rfl ea, d, k2, k4⟩
            rw [e5]
            exact NdefX.clo_has hfr c1 ea
        have ndl : (l.map (·.1)).Nodup := by
          refine List.pairwise_iff_getElem.mpr fun i j hi hj hij => ?_
          have hi' : i < st.caps.length := by rw [List.length_map, ll] at hi; exact hi
          have hj' : j < st.caps.length := by rw [List.length_map, ll] at hj; exact hj
          have gi := List.getElem?_eq_getElem hi'
          have gj := List.getElem?_eq_getElem hj'
          obtain ⟨z1, a1, a2, _⟩ := gl i _ gi
          obtain ⟨z2, b1, b2, _⟩ := gl j _ gj
          obtain ⟨hi2, a1⟩ := List.getElem?_eq_some_iff.mp a1
          obtain ⟨hj2, b1⟩ := List.getElem?_eq_some_iff.mp b1
          rw [List.getElem_map, List.getElem_map, a1, b1]
          intro e
          rw [e5] at a2 b2
          have c1 := NdefX.clo_cm hfr a2
          have c2 := NdefX.clo_cm hfr b2
          rw [e] at c1
          have := cells.inj _ _ _ c1 c2
          exact absurd ((List.getElem_inj hnd).mp this) (Nat.ne_of_lt hij)
        have lmem : ∀ p ∈ l, ∃ (i : Nat) (y : Str), st.caps[i]? = some y ∧ l[i]? = some p := fun p hp => by
          obtain ⟨i, hi⟩ := List.mem_iff_getElem?.mp hp
          have h := (List.getElem?_eq_some_iff.mp hi).1
          rw [ll] at h
          exact ⟨i, _, List.getElem?_eq_getElem h, hi⟩
        have lall : ∀ p ∈ l, H1 p.1 = none ∧ (∃ u, s'.heap.IsCell p.1 (some u) ∧ RelV p.2 u) ∧ s.heap.objs.size ≤ p.1 := fun p hp => by
          obtain ⟨i, y, h1, h2⟩ := lmem p hp
          obtain ⟨z, k1, _, k2, k3, k4, _⟩ := gl i y h1
          rw [h2] at k1
          cases k1
          exact ⟨k2, k3, k4⟩
        have hF2 : ∀ p ∈ l, F2 p.1 = none := fun p hp => R2.fnone (lall p hp).1
        have dv : DV T K (addC l F2) (.ref fa) (.clo c ds') := by
          have s3 := addC_same (l := l) (H := F2) hF2
          refine .clo (nf := nf) (st := st) (s3 _ _ (sf2 _ _ m.f1)) (s3 _ _ (sf2 _ _ m.c1)) hst e3 e4 (fun y a e => ?_) (fun x y a e1 e2 => ?_) (dcs_of (by rw [ld, lj]) fun i y hi => ?_)
          · rw [e5] at e
            rcases cloFrom_mem (PySem.mem_of_lookup e) with z | ⟨z, _⟩
            · cases z
            · exact hfree _ z rfl
          · rw [e5] at e1 e2
            exact cells.inj _ _ _ (NdefX.clo_cm hfr e1) (NdefX.clo_cm hfr e2)
          · obtain ⟨z, k1, k2, k3, _, _, d, k4, k5⟩ := gl i y hi
            refine ⟨z.1, z.2, d, k2, addC_in ndl (List.mem_of_getElem? k1), k4, k5.le fun a o e => ?_⟩
            have na : ¬ ∃ y, nf.cl.lookup y = some a := fun ⟨y', hy'⟩ => by
              rw [e5] at hy'
              have z := J.freeC y' a (NdefX.clo_cm hfr hy')
              rw [R2.fnone z] at e
              cases e
            rw [hid_out na]
            exact s3 _ _ e
        rw [← hgd] at q
        unfold PostF at q
        rw [ho] at q
        have hn0 : ∀ p ∈ l, H p.1 = none := fun p hp => R2.h0 (lall p hp).1
        refine ⟨.ref fa, addC l H1, J.os, J.bare, ⟨fun b o e n hb hx => J.base.keep b o e n hb hx, fun b o e n hb hx => J.base.slot b o e n hb hx, fun b o e n hx => ?_, J.base.there, fun b zs e => ?_, fun b o z e => ?_, fun b ps e => ?_⟩, addC_ok J.hok ndl fun p hp => ⟨(lall p hp).1, (lall p hp).2.1⟩, rfl, q (.ref fa) (addC l F2) (addC l H1) ?_ dv⟩
        · rw [addC_out fun mm => by
            obtain ⟨p, hp, e'⟩ := List.mem_map.mp mm
            have := (lall p hp).2.2
            rw [e'] at this
            exact absurd (Heap.lt_size e) (Nat.not_lt_of_le this)]
          exact J.base.free b o e n hx
        · have q := J.base.tups b zs e
          exact addC_same (fun p hp => (lall p hp).1) _ _ q
        · have q := J.base.frzs b o z e
          exact addC_same (fun p hp => (lall p hp).1) _ _ q
        · obtain ⟨more, q⟩ := J.base.tbls b ps e
          exact ⟨more, addC_same (fun p hp => (lall p hp).1) _ _ q⟩
        · have s3 := addC_same (l := l) (H := F2) hF2
          have s4 := addC_same (l := l) (H := H1) fun p hp => (lall p hp).1
          have fin := R2.fin
          refine ⟨fin.le.trans s3, fun a o e => ?_, fun a o e => ?_, fun b o e hb n => s4 _ _ (fin.frame b o e hb n), .nil, R2.tb.grow s3 s4 (fun a b q e => ?_) fun a o e => ?_⟩
          · rcases addC_cases ndl e with ⟨p, hp, rfl, rfl⟩ | ⟨n, e⟩
            · exact addC_in ndl hp
            · rw [addC_out n]; exact R2.sub _ _ e
          · rcases addC_cases ndl e with ⟨p, hp, rfl, rfl⟩ | ⟨n, e⟩
            · exact .inr (hn0 p hp)
            · exact fin.new a o e
          · rcases addC_cases ndl e with ⟨p, hp, rfl, e'⟩ | ⟨n, e⟩
            · rw [e']; exact .inr (addC_in ndl hp)
            · exact .inl e
          · rcases addC_cases ndl e with ⟨p, hp, rfl, rfl⟩ | ⟨n, e⟩
            · exact .inr (.inr (lall p hp).1)
            · exact .inl e
      · exact (hne hgd.symm).elim
    · exact (hne hgd.symm).elim
end Pv

set_option Elab.async false
set_option linter.all false
set_option maxRecDepth 100000
set_option maxHeartbeats 1000000
/-! Pv13: {}; == of tuples with {} among; an exception class's own __init__. -/
namespace Pv
open PySem L2
section
variable {B : Bd} {X : Cx} {pos : Pos}
def dic0M : EM := fun s => .ok (.dic []) s
theorem ev_dic0 : EV B X (.Dict [] [] pos) dic0M := fun hk => (pe_dnewK).imp fun σ H Q ⟨Pd, F, sd, R, p⟩ => by
  intro q hq
  obtain ⟨R', hs⟩ := R.alloc (.dK []) hq
  exact p _ _ _ hs R' (.dic0 upd_same)
end
/-! ### == with {} among -/
def eqI (d e : D) : Option Bool := match eqD d e with
  | some b => some b
  | none => match d, e with
    | .dic [], .dic [] => some true
    | _, _ => none
def eqs : List D → List D → Option (List Bool)
  | [], [] => some []
  | x :: xs, y :: ys => match eqI x y, eqs xs ys with
    | some b, some bs => some (b :: bs)
    | _, _ => none
  | _, _ => none
def gEqT (d e : D) : Option D := match gEq d e with
  | some z => some z
  | none => match d, e with
    | .tup xs, .tup ys => (eqs xs ys).map fun bs => .bl (bs.all fun b => b)
    | _, _ => none
def gNeT (d e : D) : Option D := match gNe d e with
  | some z => some z
  | none => match d, e with
    | .tup xs, .tup ys => (eqs xs ys).map fun bs => .bl (!bs.all fun b => b)
    | _, _ => none
section
variable {X : Cx} {pins : List (Addr × Obj)} {σ : L2.St} {H F : Hp} {s : Shared} {T : Tb}
theorem dict0_of {P P' : Program} {w w' : World} {h : Heap} {a : Addr} (x : ObjOk P w H h a (.dK [])) : (a == sysModules) = false ∧ h.DictOf (mixKind P' w') a ([] : List (Key × Value)) := by
  obtain ⟨_, hy, vs, kv, o, es, ep, h1, h2, h3, h4, h5, h6⟩ := x
  have e : vs = [] := by
    have z := Paired.length kv
    exact List.eq_nil_of_length_eq_zero z.symm
  subst e
  have hes : es.toList = [] := by
    generalize es.toList = l at h5
    cases h5
    rfl
  have hes2 : es = #[] := by
    cases es
    simp at hes
    subst hes
    rfl
  subst hes2
  refine ⟨hy, o, #[], ep, h1, h2, h3, fun e he => ?_, .nil, List.nodup_nil⟩
  simp at he
theorem eqI_at (I : Inv X pins σ H s) (hs : Same F H) {x y : V} {u v : Value} {d e : D} {b : Bool} (dx : DV T X.K F x d) (dy : DV T X.K F y e) (rx : RelV x u) (ry : RelV y v) (h : eqI d e = some b) {A : Around} (hu : A.units + 64 < cLine) : SeqAt.EqAt A s u v b := by
  unfold eqI at h
  split at h
  · rename_i b' q
    cases h
    obtain ⟨p1, p2, e1, e2, s1, s2, rfl⟩ := eqD_inv q
    obtain ⟨as, r1⟩ := Dp.reads I _ _ _ (dpLe hs (dx.py e1)) rx
    obtain ⟨bs, r2⟩ := Dp.reads I _ _ _ (dpLe hs (dy.py e2)) ry
    exact SeqAt.eqAt_reads _ _ A s _ _ _ _ r1 r2 (SeqAt.canLay_of_shaped s1) (SeqAt.canLay_of_shaped s2) (SeqAt.room_of_shaped s1 hu)
  · split at h
    · cases h
      cases dx with
      | dic0 h1 =>
        cases dy with
        | dic0 h2 =>
          rename_i a b
          obtain rfl : u = Value.ref a := rx
          obtain rfl : v = Value.ref b := ry
          by_cases hab : a = b
          · subst hab; exact SeqAt.EqAt.same _
          · refine SeqAt.EqAt.of_refs hab fun prog w E Q hq => ?_
            obtain ⟨ya, da⟩ := dict0_of (P' := prog) (w' := w) (I.hok a _ (hs _ _ h1))
            obtain ⟨yb, db⟩ := dict0_of (P' := prog) (w' := w) (I.hok b _ (hs _ _ h2))
            exact PySem.W.rcP_dicts (knd := mixKind prog w) (r := true) ya yb da db (by omega : A.units < cLine) (fun _ => .nil) E Q hq
    · cases h

theorem eqs_len : ∀ {xs ys : List D} {bs : List Bool}, eqs xs ys = some bs → xs.length = ys.length ∧ bs.length = xs.length ∧ ∀ (j : Nat) (x y : D), xs[j]? = some x → ys[j]? = some y → ∃ b, bs[j]? = some b ∧ eqI x y = some b
  | [], [], bs, h => by cases h; exact ⟨rfl, rfl, fun j x y h => by simp at h⟩
  | [], _ :: _, bs, h => by cases h
  | _ :: _, [], bs, h => by cases h
  | x :: xs, y :: ys, bs, h => by
    unfold eqs at h
    split at h
    · rename_i b bs' h1 h2
      cases h
      obtain ⟨g1, g2, g3⟩ := eqs_len h2
      refine ⟨by simp [g1], by simp [g2], fun j x' y' e1 e2 => ?_⟩
      cases j with
      | zero => simp at e1 e2; subst e1; subst e2; exact ⟨b, rfl, h1⟩
      | succ j => obtain ⟨b', k1, k2⟩ := g3 j x' y' (by simpa using e1) (by simpa using e2); exact ⟨b', by simpa using k1, k2⟩
    · cases h
theorem vals_get {vs : List V} {us : List Value} (r : Vals vs us) : ∀ (j : Nat) (h : j < us.length), ∃ v, vs[j]? = some v ∧ RelV v us[j] := by
  induction r with
  | nil => intro j h; exact absurd h (Nat.not_lt_zero j)
  | cons a t ih =>
    intro j h
    cases j with
    | zero => exact ⟨_, rfl, a⟩
    | succ j => obtain ⟨v, h1, h2⟩ := ih j (by simpa using h); exact ⟨v, by simpa using h1, by simpa using h2⟩
theorem range_all (bs : List Bool) : ((List.range bs.length).all fun j => bs.getD j true) = bs.all fun b => b := by
  induction bs with
  | nil => rfl
  | cons b bs ih =>
    rw [List.length_cons, List.range_succ_eq_map, List.all_cons, List.all_map, List.all_cons]
    congr 1
/-- two tuples' items -/
theorem tups_at (I : Inv X pins σ H s) (hs : Same F H) {a a' : Addr} {vs vs' : List V} {xs ys : List D} {bs : List Bool} (h1 : SqT X.K F a vs) (h2 : SqT X.K F a' vs') (d1 : DVs T X.K F vs xs) (d2 : DVs T X.K F vs' ys) (h : eqs xs ys = some bs) {A : Around} (hu : A.units + 64 < cLine) :
    ∃ items items2 : Array Value, s.heap.IsTuple a items ∧ s.heap.IsTuple a' items2 ∧ (∀ j (h1 : j < items.size) (h2 : j < items2.size), SeqAt.EqAt A s items[j] items2[j] (bs.getD j true)) ∧ ((List.range (min items.size items2.size)).all (fun j => bs.getD j true) && items.size == items2.size) = bs.all fun b => b := by
  obtain ⟨us, r1, p1, _⟩ := I.tuple (seqT hs h1)
  obtain ⟨ws, r2, p2, _⟩ := I.tuple (seqT hs h2)
  obtain ⟨g1, g2, g3⟩ := eqs_len h
  have l1 : us.length = xs.length := by rw [← r1.length, d1.length]
  have l2 : ws.length = ys.length := by rw [← r2.length, d2.length]
  refine ⟨us.toArray, ws.toArray, p1, p2, fun j hj1 hj2 => ?_, ?_⟩
  · have hj1 : j < us.length := by simpa using hj1
    have hj2 : j < ws.length := by simpa using hj2
    obtain ⟨v, k1, k2⟩ := vals_get r1 j hj1
    obtain ⟨v', k3, k4⟩ := vals_get r2 j hj2
    obtain ⟨x, e1, q1⟩ := d1.get' k1
    obtain ⟨y, e2, q2⟩ := d2.get' k3
    obtain ⟨b, e3, e4⟩ := g3 j x y e1 e2
    have := eqI_at I hs q1 q2 k2 k4 e4 hu
    rw [List.getD_eq_getElem?_getD, e3]
    simpa using this
  · rw [List.size_toArray, List.size_toArray, l1, l2, g1, Nat.min_self, ← g1, ← g2, range_all]
    simp
end
section
variable {B : Bd} {X : Cx}
theorem opv_eqT (hu : X.A.units + 65 < cLine) : OpV B X (compareOp .Eq) gEqT := fun hk pins s σ H x y v u Q I rx ry ⟨Pd, F, σ', sd, d, e, z, R, d1, d2, g, q⟩ => by
  unfold gEqT at g
  split at g
  · rename_i z' h
    cases g
    exact opv_eq (by omega) hk pins s σ H x y v u Q I rx ry ⟨Pd, F, σ', sd, d, e, z, R, d1, d2, h, q⟩
  · split at g
    · rename_i xs ys h
      obtain ⟨bs, hb, rfl⟩ := Option.map_eq_some_iff.mp g
      rw [hk] at d1 d2
      obtain ⟨a, vs, rfl, h1, t1⟩ := d1.tup_inv
      obtain ⟨a', vs', rfl, h2, t2⟩ := d2.tup_inv
      obtain rfl : v = Value.ref a := rx
      obtain rfl : u = Value.ref a' := ry
      obtain ⟨i1, i2, p1, p2, he, hr⟩ := tups_at I R.sub h1 h2 t1 t2 hb (A := X.A.in1) (by show X.A.units + 1 + 64 < cLine; omega)
      refine SeqAt.RcAt.tuples p1 p2 (by omega) he X.prog X.w _ _ ?_
      rw [hr]
      exact ⟨.bl _, H, I, rfl, q _ _ _ (Same.refl F) R (.bl _)⟩
    · cases g
theorem opv_neT (hu : X.A.units + 65 < cLine) : OpV B X (compareOp .NotEq) gNeT := fun hk pins s σ H x y v u Q I rx ry ⟨Pd, F, σ', sd, d, e, z, R, d1, d2, g, q⟩ => by
  unfold gNeT at g
  split at g
  · rename_i z' h
    cases g
    exact opv_ne (by omega) hk pins s σ H x y v u Q I rx ry ⟨Pd, F, σ', sd, d, e, z, R, d1, d2, h, q⟩
  · split at g
    · rename_i xs ys h
      obtain ⟨bs, hb, rfl⟩ := Option.map_eq_some_iff.mp g
      rw [hk] at d1 d2
      obtain ⟨a, vs, rfl, h1, t1⟩ := d1.tup_inv
      obtain ⟨a', vs', rfl, h2, t2⟩ := d2.tup_inv
      obtain rfl : v = Value.ref a := rx
      obtain rfl : u = Value.ref a' := ry
      obtain ⟨i1, i2, p1, p2, he, hr⟩ := tups_at I R.sub h1 h2 t1 t2 hb (A := X.A.in1) (by show X.A.units + 1 + 64 < cLine; omega)
      refine SeqAt.RcNeAt.tuples p1 p2 (by omega) he X.prog X.w _ _ ?_
      rw [hr]
      exact ⟨.bl _, H, I, rfl, q _ _ _ (Same.refl F) R (.bl _)⟩
    · cases g
end
/-! ### an exception class's own __init__ -/
theorem exc_init {P : Program} {w : World} {K : PySem.W.Frag} {mg : Str → Option Value} {base : Heap} {x qual msg : Str} {params : Arguments} {body : List Stmt} {scope : Scope} {dvs : List V} {kws : List (Str × V)} {fI C : Addr} {fd : FuncData} {N : List Str} {f : Str} {k : Nat} (F : FunD K x qual params body scope dvs kws fI fd)
    (S : FnScope N N scope) (hN : N.length = 2) (T : OexC K C) (hno : PySem.W.findIn K (.ref C) f = some none)
    (hb : ∀ (cdv : Value) (A : Around) (outer : List Env) (s : Shared) (H : Hp) (E : XK), PSs (cxD P w K mg base N qual scope fI cdv A outer s H E) body (tSeq (tDrop (tVeI K (tCons (tVar 0) (tCons (tC (.str msg)) tNil)))) (tOst K f (tVar 0) (tVar 1)))) : FnOk P w K mg base (L2.CX P w) (k + 1) fI fd N (spInit C f) := by
  refine F.ok S (fun vs H Q E h => ?_) fun cdv A outer s H vs Q E hr h => ⟨_, hb cdv A outer s H E, ?_⟩
  · obtain ⟨a, y, rfl, _⟩ := h
    exact hN.symm
  · obtain ⟨a, y, rfl, ha, q⟩ := h
    have e0 : (L2.start N [V.ref a, y])[0]? = some (some (.ref a)) := by unfold L2.start; rfl
    have e1 : (L2.start N [V.ref a, y])[1]? = some (some y) := by unfold L2.start; rfl
    exact ⟨_, e0, a, C, [.str msg], rfl, by simp, T, ha, _, e1, _, e0, a, C, rfl, T, hno, .inl ⟨ha, fun dx h1 h2 => q dx h1 h2⟩⟩
end Pv

set_option Elab.async false
set_option linter.all false
set_option maxRecDepth 100000
set_option maxHeartbeats 1000000
/-! Pv14: short words for the printed derivations. -/
namespace Pv
open PySem L2
abbrev cN : EM := fun s => .ok .non s
abbrev cB (b : Bool) : EM := fun s => .ok (.bl b) s
abbrev cI (i : Int) : EM := fun s => .ok (.int i) s
abbrev cS (x : Str) : EM := fun s => .ok (.str x) s
abbrev nilL : LM := fun s => .ok [] s
abbrev sub0 : Nat → Nat → Bool := fun _ _ => false
theorem lk {B : Bd} {mi : List Nat} {ps : List Nat} {i : Nat} (h1 : B.mi = mi) (h2 : B.pin.map (·.1) = ps) (h : (mi ++ ps).contains i = false) : i ∉ B.lock := fun m => by
  unfold Bd.lock at m
  rw [h1, h2] at m
  have : (mi ++ ps).contains i = true := by simpa using m
  rw [h] at this
  cases this
theorem lka {B : Bd} {mi : List Nat} {ps : List Nat} {own : List Nat} (h1 : B.mi = mi) (h2 : B.pin.map (·.1) = ps) (h : (own.all fun i => !(mi ++ ps).contains i) = true) : ∀ v ∈ own, v ∉ B.lock := fun v hv => lk h1 h2 (by
  have := List.all_eq_true.mp h v hv
  simpa using this)
theorem lkS {B B' : Bd} {i j c : Nat} {a : Addr} {cls : Value} {d : Option Addr} {fs : List (Nat × D)} (hS : Suite B i a cls d c fs B') (h : j ∉ B.lock) (hne : j ≠ i) : j ∉ B'.lock := fun m => by
  unfold Bd.lock at m h
  rw [hS.mi, hS.pin, List.map_cons, List.mem_append, List.mem_cons] at m
  rw [List.mem_append] at h
  rcases m with m | m | m
  · exact h (.inl m)
  · exact hne m
  · exact h (.inr m)
theorem _root_.L2.Room.eqs {k : Nat} {A : Around} (r : Room k A) : A.units + 65 < cLine := by have := r.un; omega
theorem kd0 {K : PySem.W.Frag} {T : Tb} {k : Kd} (h : ∀ c, k ≠ .cls c) : KdOk K T [] sub0 k := ⟨fun n _ c e => absurd e (h c), fun c h => absurd h (by simp)⟩
theorem nin {α : Type} [BEq α] [LawfulBEq α] {x : α} {l : List α} (h : l.contains x = false) : x ∉ l := fun m => by
  have : l.contains x = true := by simpa using m
  rw [h] at this
  cases this
def retLam (b : List Stmt) : Expr := match b.getLastD (.Pass ⟨0, 0, 0, 0⟩) with
  | .Return (some e) _ => e
  | _ => .Constant .none 0 ⟨0, 0, 0, 0⟩
def lamArgs : Expr → Arguments
  | .Lambda a _ _ _ => a
  | _ => { posonlyargs := [], args := [], vararg := none, kwonlyargs := [], kw_defaults := [], kwarg := none, defaults := [] }
def lamBody : Expr → Expr
  | .Lambda _ b _ _ => b
  | e => e
def lamScope : Expr → Scope
  | .Lambda _ _ s _ => s
  | _ => { kind := .function, names := [], isGenerator := false, isCoroutine := false }
section
variable {B : Bd} {X : Cx} {x : Str} {p pos : Pos} {e e2 : Expr} {f f2 : EM}
theorem ev_gint {i : Int} (h : ∃ t, X.mg x = some (.int i t)) (hg : Gl X x) (hd : (x == ("__debug__" : Str)) = false) : EV B X (.Name x pos) (cI i) := by
  obtain ⟨t, h⟩ := h
  exact ev_glob hg h (v := .int i) ⟨_, rfl⟩ (fun _ => .int i) hd
theorem ev_gstr {z : Str} (h : ∃ t, X.mg x = some (.str z t)) (hg : Gl X x) (hd : (x == ("__debug__" : Str)) = false) : EV B X (.Name x pos) (cS z) := by
  obtain ⟨t, h⟩ := h
  exact ev_glob hg h (v := .str z) ⟨_, rfl⟩ (fun _ => .str z) hd
def max2M (f g : EM) : EM := int2M (fun i j => .int (if j > i then j else i)) f g
def min2M (f g : EM) : EM := int2M (fun i j => .int (if j < i then j else i)) f g
theorem ev_max2 (hc : X.calm = true) (hm : X.mg "max" = none) (hg : Gl X "max") (h1 : EV B X e f) (h2 : EV B X e2 f2)
    (he : starEach [e, e2] X.env = (false, eval e X.env) :: starEach [e2] X.env) (he2 : starEach [e2] X.env = (false, eval e2 X.env) :: starEach [] X.env) (hpl : (backTo pos (starEach [e2] X.env)).any (·.1) = false) : EV B X (.Call (.Name "max" p) [e, e2] [] pos) (max2M f f2) :=
  ev_int2 (call_max2 hc) hg hm (by decide +kernel) h1 h2 (by decide) (by decide) he he2 hpl
theorem ev_min2 (hc : X.calm = true) (hm : X.mg "min" = none) (hg : Gl X "min") (h1 : EV B X e f) (h2 : EV B X e2 f2)
    (he : starEach [e, e2] X.env = (false, eval e X.env) :: starEach [e2] X.env) (he2 : starEach [e2] X.env = (false, eval e2 X.env) :: starEach [] X.env) (hpl : (backTo pos (starEach [e2] X.env)).any (·.1) = false) : EV B X (.Call (.Name "min" p) [e, e2] [] pos) (min2M f f2) :=
  ev_int2 (call_min2 hc) hg hm (by decide +kernel) h1 h2 (by decide) (by decide) he he2 hpl
end
end Pv
namespace Pv
open PySem L2
theorem CloOk.mono {P : Program} {w : World} {K : PySem.W.Frag} {mg : Str → Option Value} {base : Heap} {T : Tb} {c : Nat} {mir : List D → List D → Res} {j k n : Nat} (h : CloOk P w K mg base T c mir j n) (hk : j ≤ k) : CloOk P w K mg base T c mir k n := by
  obtain ⟨st, h1, h2⟩ := h.run
  exact ⟨st, h1, fun f nf a b A outer s H us vs vals Q hr => h2 f nf a b A outer s H us vs vals Q (hr.mono hk)⟩
end Pv

set_option Elab.async false
set_option linter.all false
set_option maxRecDepth 100000
set_option maxHeartbeats 1000000
/-! Pv15: facts by Bools; the end of a law row. -/
namespace Pv
open PySem L2
def oexB (K : PySem.W.Frag) (C : Addr) : Bool := (match K.lookup C with
  | some ⟨.type t, _, .cls cd, sl⟩ => (match cd.mro, sl.toList with
    | .ref C' :: bm, [_, _, _, _, some (.builtin n), _] => decide (t = "type") && (decide (C' = C) && (decide (n = "ValueError.__new__") && (!cd.hasDel && (cd.hasDict && PySem.HandSPX.refsVE bm))))
    | _, _ => false)
  | _ => false) && (decide (PySem.W.findIn K (.ref C) "__setattr__" = some (some (.builtin "object.__setattr__"))) && (decide (PySem.W.subIn K (.ref C) (.type "BaseException") = some true) && (decide (PySem.W.typeIn K (.ref C) = some (.type "type")) && PySem.W.keepIn K (.ref C))))
theorem oexB_ok {K : PySem.W.Frag} {C : Addr} (h : oexB K C = true) : OexC K C := by
  unfold oexB at h
  obtain ⟨h0, h⟩ := He.ba h
  obtain ⟨h1, h⟩ := He.ba h
  obtain ⟨h2, h⟩ := He.ba h
  obtain ⟨h3, h4⟩ := He.ba h
  refine ⟨?_, of_decide_eq_true h1, of_decide_eq_true h2, of_decide_eq_true h3, h4⟩
  split at h0
  · rename_i t dd cd sl e
    split at h0
    · rename_i C' bm k0 k1 k2 k3 n k5 hm hs
      obtain ⟨g1, h0⟩ := He.ba h0
      obtain ⟨g2, h0⟩ := He.ba h0
      obtain ⟨g3, h0⟩ := He.ba h0
      obtain ⟨g4, h0⟩ := He.ba h0
      obtain ⟨g5, g6⟩ := He.ba h0
      have g1 := of_decide_eq_true g1
      have g2 := of_decide_eq_true g2
      have g3 := of_decide_eq_true g3
      subst g1 g2 g3
      obtain ⟨nm, bs, mro, ns, qn, hd, sn, sb, ab, col, del⟩ := cd
      dsimp only at hm g4 g5
      subst hm
      subst g5
      have g4 : del = false := by simpa using g4
      subst g4
      refine ⟨nm, qn, ns, bs, bm, sn, sb, ab, col, dd, k0, k1, k2, k3, k5, ?_, g6⟩
      rw [e]
      congr 2
      cases sl
      simp at hs
      subst hs
      rfl
    · cases h0
  · cases h0
def excIB (K : PySem.W.Frag) (C : Addr) : Bool := (PySem.W.clsIn K C).isSome && (decide (PySem.W.findIn K (.ref C) "__getattribute__" = some (some (.builtin "BaseException.__getattribute__"))) && ((PySem.W.findIn K (.ref C) "__getattr__").isSome && (decide (PySem.W.subIn K (.ref C) (.type "BaseException") = some true) &&
  (decide (PySem.W.findIn K (.ref C) "__class__" = some (some (.builtin "object.__class__"))) && (decide (PySem.W.specialIn K (.builtin "object.__class__") "__get__" = some (some (.builtin "getset_descriptor.__get__"))) && (decide (PySem.W.takesIn K (.builtin "object.__class__") = some true) && decide (PySem.W.mroIn K C (.type "object") = some true)))))))
theorem excIB_ok {K : PySem.W.Frag} {C : Addr} (h : excIB K C = true) : ExcI K C := by
  unfold excIB at h
  obtain ⟨h1, h⟩ := He.ba h
  obtain ⟨h2, h⟩ := He.ba h
  obtain ⟨h3, h⟩ := He.ba h
  obtain ⟨h4, h⟩ := He.ba h
  obtain ⟨h5, h⟩ := He.ba h
  obtain ⟨h6, h⟩ := He.ba h
  obtain ⟨h7, h8⟩ := He.ba h
  exact ⟨h1, of_decide_eq_true h2, Option.isSome_iff_exists.mp h3, of_decide_eq_true h4, of_decide_eq_true h5, of_decide_eq_true h6, of_decide_eq_true h7, of_decide_eq_true h8⟩
def creadB (K : PySem.W.Frag) (C : Addr) : Bool := PySem.W.readsIn K C (.type "type") && decide (PySem.W.specialIn K (.ref C) "__getattribute__" = some (some (.builtin "type.__getattribute__")))
theorem creadB_ok {K : PySem.W.Frag} {C : Addr} (h : creadB K C = true) : ClX.CRead K C (.type "type") := by
  obtain ⟨h1, h2⟩ := He.ba h
  exact ⟨h1, of_decide_eq_true h2⟩
def fclsB (K : PySem.W.Frag) (C : Addr) (m : Str) (u : Value) : Bool := match PySem.W.findCls K (.ref C) (.type "type") m with
  | some (.val v) => decide (v = u)
  | _ => false
theorem fclsB_ok {K : PySem.W.Frag} {C : Addr} {m : Str} {u : Value} (h : fclsB K C m u = true) : PySem.W.findCls K (.ref C) (.type "type") m = some (.val u) := by
  unfold fclsB at h
  split at h
  · rename_i v e
    rw [e, of_decide_eq_true h]
  · cases h
theorem exAt {l : List Bool} (h : (l.all fun b => b) = true) (i : Nat) {b : Bool} (hb : l[i]? = some b) : b = true := by
  have := List.all_eq_true.mp h b (List.mem_of_getElem? hb)
  simpa using this
theorem code_ref {K : PySem.W.Frag} {x qual : Str} {params : Arguments} {body : List Stmt} {scope : Scope} {dvs : List V} {kws : List (Str × V)} {p : Str × Option Str} (h : ∃ fd, FunD K x qual params body scope dvs kws (He.fAd K p) fd) :
    ∀ oc od fd osl, K.lookup (He.fAd K p) = some ⟨oc, od, .func fd, osl⟩ → fd.code = .ref (He.cT K p).1 := by
  intro oc od fd osl lk
  obtain ⟨fd', F⟩ := h
  obtain ⟨oc', od', dV, kV, doc, pm, an, cdv, ct, osl', e1, lk', hcd, _⟩ := F.ex
  rw [lk] at lk'
  cases lk'
  subst e1
  obtain ⟨c, hc⟩ := He.codeIn_ref hcd
  subst hc
  show Value.ref c = .ref (He.codeOf K p)
  rw [He.codeOf_eq lk rfl]

/-! ### the end -/
theorem walk_ofX {l : PySem.W.OpenLaw} {n k : Nat} {q : Program} {loose : List Str} {XP : (Str → Option Value) → Heap → Prop} {YP : World → Heap → Prop} {d : DefRec} {x : Str}
    (hn : l.most = some n) (hn2 : n ≤ sizeLine) (hdf : d.params.defaults = []) (hr : Room k callerA)
    (F : ∀ (w : World) (mg : Str → Option Value) (fa : Addr) (h : Heap), YP w h → h.Ns mainGlobals mg → mg d.name = some (.ref fa) → ∃ K : PySem.W.Frag, K.In h ∧ LamX.LawAtS l w K (L2.CX l.prog w) k n x mg fa h) :
    PySem.W.WalkO q loose XP YP l.row.toRowW d [] (fun f vs => PySem.call f vs) := by
  refine Att.attach_callB hn hdf fun w s₀ s₁ mg mb fa o pm cd doc a vs ns G Y ho hd hcd hmg hobj hints hlen hbits hg => ?_
  obtain ⟨K, KX, fd, cs, sp, hT, nT, C, hb, hsp, hF⟩ := F w mg fa _ Y G.T.g hmg
  exact LamX.law_callTs KX G.T.g G.T.b G.T.builtins G.T.nolimit hg hT nT C G.T.bmain hobj hints (Nat.le_trans hlen hn2) hr hF hb (fun H hH hS => hsp H a ns hlen hbits hH hS) fun H e s' z => by
    obtain ⟨_, _, _, _, _, _, _, _, _, _, _, _, z⟩ := z
    exact z
theorem ints_dvs {T : Tb} {K : PySem.W.Frag} {F : Hp} : ∀ ns : List Int, DVs T K F (ns.map V.int) (ns.map D.int)
  | [] => .nil
  | n :: ns => .cons (.int n) (ints_dvs ns)
theorem sp_law {T : Tb} {K : PySem.W.Frag} {sig : Sig} {mir : Mir} {ns : List Int} {H : Hp} {a : Addr} (hs : sig = ⟨[.val], false⟩) (h : mir [.arr (ns.map .int)] = .ret (.bl true) []) (hS : SqL K H a (ns.map V.int)) (htb : ∀ p ∈ T.tb, H p.1 = some (.tbl #[])) :
    spF T K sig mir [.ref a] H (fun v _ => v = .bl true) (fun _ _ _ => False) := by
  subst hs
  have same : Same (fun b => match H b with | some (.tbl _) => none | o => o) H := fun b o e => by
    cases q : H b with
    | none => simp only [q] at e; cases e
    | some u =>
      cases u with
      | tbl ps => simp only [q] at e; cases e
      | _ => simp only [q] at e; exact e
  have keep : ∀ b o, H b = some o → (∀ ps, o ≠ .tbl ps) → (fun b => match H b with | some (.tbl _) => none | o => o : Hp) b = some o := fun b o e n => by
    show (match H b with | some (.tbl _) => none | o => o) = some o
    rw [e]
    cases o with
    | tbl ps => exact absurd rfl (n ps)
    | _ => rfl
  refine ⟨_, [.arr (ns.map .int)], [], same, ⟨fun p hp => NdefX.TabN.nil (htb p hp), fun p hp => ⟨_, htb p hp⟩, fun b ps e => ⟨ps, e⟩, fun b c q e => keep b _ e fun ps => LamX.codeO_ne ps, fun p hp => ?_⟩, .val (.arr (vs := ns.map V.int) ?_ ?_) .nil, List.nodup_nil, ?_⟩
  · show (match H p.1 with | some (.tbl _) => none | o => o) = none
    rw [htb p hp]
  · rcases hS with (q | ⟨o, q⟩) | q
    · exact .inl (.inl (keep _ _ q fun ps z => nomatch z))
    · exact .inl (.inr ⟨o, keep _ _ q fun ps z => nomatch z⟩)
    · exact .inr q
  · exact ints_dvs ns
  · rw [h]
    intro v F' H' _ dv
    cases dv
    rfl

/-! ### the Hook, the statics among what it reads -/
section
open He
theorem says_of {as : List Addr} {fa : List Fa} {fn : List DefD} {tf : List Defn} {ex : PySem.W.Frag → Bool} {w : World} {h : Heap} (e1 : obsT fa fn [] (frT h.get? as) = valT fn [] w) (e2 : (ex (frT h.get? as) && tabsB h.get? tf (frT h.get? as)) = true) : SaysX fa fn [] tf ex w h (frT h.get? as) := by
  obtain ⟨h1, h2⟩ := ba e2
  have key : ∀ p ∈ tf, PySem.W.codeHdIn (frT h.get? as) (cT (frT h.get? as) p).1 (cT (frT h.get? as) p).2 = true ∧ ∃ o, h.get? (cT (frT h.get? as) p).2 = some o ∧ emptyTab o = true := fun p hp => by
    obtain ⟨h3, h4⟩ := ba (List.all_eq_true.mp h2 p hp)
    refine ⟨h3, ?_⟩
    cases q : h.get? (cT (frT h.get? as) p).2 with
    | none => rw [q] at h4; cases h4
    | some o => rw [q] at h4; exact ⟨o, rfl, h4⟩
  exact ⟨e1, h1, fun p hp => (key p hp).1, fun p hp => by
    obtain ⟨_, o, q, z⟩ := key p hp
    exact frT_none q z, fun p hp => by
    obtain ⟨_, o, q, z⟩ := key p hp
    rw [q, emptyTab_eq z]⟩
def asY (g : Addr → Option Obj) (n : Nat) : List Addr := asD g n ++ [cStatics]
def obsY (n : Nat) (fa : List Fa) (fn : List DefD) (tf : List Defn) (ex : PySem.W.Frag → Bool) (g : Addr → Option Obj) : AlX := (obsT fa fn [] (frT g (asY g n)), ex (frT g (asY g n)) && tabsB g tf (frT g (asY g n)))
def hookY (n : Nat) (fa : List Fa) (fn : List DefD) (tf : List Defn) (ex : PySem.W.Frag → Bool) : PySem.W.Hook where
  α := AlX
  obs := fun s => obsY n fa fn tf ex s.heap.get?
  val := fun w => valX fn [] w
  says := fun w h => ∃ K : PySem.W.Frag, K.In h ∧ SaysX fa fn [] tf ex w h K
  of := fun _ _ e => ⟨_, frT_in, says_of (congrArg (fun z : AlX => z.1) e) (congrArg (fun z : AlX => z.2) e)⟩
  keeps := fun _ _ _ ⟨K, hK, c⟩ k => ⟨K, PySem.W.Frag.In.keeps hK k, ⟨c.t, c.more, c.hd, c.out, fun p hp => k _ _ (c.empty p hp)⟩⟩
theorem obsY_eq {n : Nat} {fa : List Fa} {fn : List DefD} {tf : List Defn} {ex : PySem.W.Frag → Bool} {g : Addr → Option Obj} {s : Shared} (h : ∀ a, g a = s.heap.get? a) : obsY n fa fn tf ex g = (hookY n fa fn tf ex).obs s := by
  have e : g = s.heap.get? := funext h
  rw [e] <;> rfl
end
end Pv

set_option Elab.async false
set_option linter.all false
set_option maxRecDepth 100000
set_option maxHeartbeats 4000000
/-! the defs of the law K62: printed by gen.py -/
namespace K62
open PySem L2 Pv
def top (i : Nat) : Stmt := PySem.Challenge.pw_trialdeal_k62_makers.main.body.getD i (.Pass ⟨0, 0, 0, 0⟩)
abbrev csI : List Nat := [3, 4, 5]
def nm_split_maker : Nat → Nat → Str := fun _ _ => "split_maker.<locals>.<lambda>"
def nm_pairs_maker : Nat → Nat → Str := fun _ _ => "pairs_maker.<locals>.made"
def nm_coins_maker : Nat → Nat → Str := fun _ _ => "coins_maker.<locals>.<lambda>"
def mu_common (s : SD) : Nat := (match s[1]? with | some (Slot.val (D.int i)) => i.toNat + 1 | _ => 0)
def mu_share (s : SD) : Nat := (match s[3]? with | some (Slot.val (D.int i)) => i.toNat + 1 | _ => 0)
abbrev st_NoShare_init : Stmt := (inClass (top 3) 0)
abbrev st_NoNumber_init : Stmt := (inClass (top 4) 0)
abbrev st_is_whole : Stmt := (top 7)
abbrev st_common : Stmt := (top 9)
abbrev st_are_parts : Stmt := (top 10)
abbrev st_is_share : Stmt := (top 11)
abbrev st_need_number : Stmt := (top 16)
abbrev st_need_coin : Stmt := (top 17)
abbrev st_Rule___init__ : Stmt := (inClass (top 18) 0)
abbrev st_Rule_folk : Stmt := (inClass (top 18) 1)
abbrev st_Split___init__ : Stmt := (inClass (top 19) 0)
abbrev st_Split_told : Stmt := (inClass (top 19) 3)
abbrev st_Pairs___init__ : Stmt := (inClass (top 20) 0)
abbrev st_Pairs_told : Stmt := (inClass (top 20) 2)
abbrev st_Coins___init__ : Stmt := (inClass (top 21) 0)
abbrev st_Coins_told : Stmt := (inClass (top 21) 3)
abbrev st_split_maker : Stmt := (top 23)
abbrev st_pairs_maker : Stmt := (top 24)
abbrev st_coins_maker : Stmt := (top 25)
abbrev st__law_cell : Stmt := (top 27)
abbrev st__law_mix : Stmt := (top 28)
abbrev st__law_begun : Stmt := (top 29)
abbrev st__law_pull : Stmt := (top 30)
abbrev st__law_share : Stmt := (top 31)
abbrev st__law_coin : Stmt := (top 34)
abbrev st__law_due : Stmt := (top 35)
abbrev st__law_right : Stmt := (top 36)
abbrev st__law_refusal : Stmt := (top 37)
abbrev st__law_refused : Stmt := (top 38)
abbrev st_law : Stmt := (top 39)
abbrev lam_0 : Expr := retLam (defBody (top 23))
def site0 : Site := ⟨"<lambda>", lamArgs lam_0, .expr (lamBody lam_0), lamScope lam_0, []⟩
abbrev ist_1 : Stmt := (defBody (top 24)).getD 1 (.Pass ⟨0, 0, 0, 0⟩)
def site1 : Site := ⟨"made", defArgs ist_1, .stmts (defBody ist_1), defScope ist_1, ["first"]⟩
abbrev lam_2 : Expr := retLam (defBody (top 25))
def site2 : Site := ⟨"<lambda>", lamArgs lam_2, .expr (lamBody lam_2), lamScope lam_2, ["first"]⟩
def TT (K : PySem.W.Frag) : Tb := ⟨[He.ga K "NoShare", He.ga K "NoNumber", He.ga K "NoRule", He.ga K "Split", He.ga K "Pairs", He.ga K "Coins"], ["found", "line", "size", "ones", "coin", "far"], [site0, site1, site2], by decide, [((He.cT K ("split_maker", none)).2, nm_split_maker), ((He.cT K ("pairs_maker", none)).2, nm_pairs_maker), ((He.cT K ("coins_maker", none)).2, nm_coins_maker)]⟩
structure Facts (P : Program) (w : World) (K : PySem.W.Frag) (mg : Str → Option Value) (base : Heap) : Prop where
  g_DealError : mg "DealError" = some (.ref (He.ga K "DealError"))
  g_NoShare : mg "NoShare" = some (.ref (He.ga K "NoShare"))
  cr_DealError : ClX.CRead K (He.ga K "DealError") (.type "type")
  cv_DealError : PySem.W.findCls K (.ref (He.ga K "DealError")) (.type "type") "__init__" = some (.val (.builtin "ValueError.__init__"))
  d_NoShare_init : ∃ fd, FunD K "__init__" "NoShare.__init__" (defArgs st_NoShare_init) (defBody st_NoShare_init) (defScope st_NoShare_init) [] [] (He.ma K (He.ga K "NoShare") "__init__") fd
  ox_NoShare : OexC K (He.ga K "NoShare")
  fi_NoShare : PySem.W.findIn K (.ref (He.ga K "NoShare")) "__init__" = some (some (.ref (He.ma K (He.ga K "NoShare") "__init__")))
  ti_NoShare : PySem.W.typeIn K (.ref (He.ma K (He.ga K "NoShare") "__init__")) = some (.type "function")
  nf_NoShare : PySem.W.findIn K (.ref (He.ga K "NoShare")) "found" = some none
  g_NoNumber : mg "NoNumber" = some (.ref (He.ga K "NoNumber"))
  d_NoNumber_init : ∃ fd, FunD K "__init__" "NoNumber.__init__" (defArgs st_NoNumber_init) (defBody st_NoNumber_init) (defScope st_NoNumber_init) [] [] (He.ma K (He.ga K "NoNumber") "__init__") fd
  ox_NoNumber : OexC K (He.ga K "NoNumber")
  fi_NoNumber : PySem.W.findIn K (.ref (He.ga K "NoNumber")) "__init__" = some (some (.ref (He.ma K (He.ga K "NoNumber") "__init__")))
  ti_NoNumber : PySem.W.typeIn K (.ref (He.ma K (He.ga K "NoNumber") "__init__")) = some (.type "function")
  nf_NoNumber : PySem.W.findIn K (.ref (He.ga K "NoNumber")) "found" = some none
  b_isinstance : mg "isinstance" = none
  b_int : mg "int" = none
  b_bool : mg "bool" = none
  d_is_whole : ∃ fd, FunD K "is_whole" "is_whole" (defArgs st_is_whole) (defBody st_is_whole) (defScope st_is_whole) [] [] (He.ga K "is_whole") fd
  g_is_whole : mg "is_whole" = some (.ref (He.ga K "is_whole"))
  d_common : ∃ fd, FunD K "common" "common" (defArgs st_common) (defBody st_common) (defScope st_common) [] [] (He.ga K "common") fd
  g_common : mg "common" = some (.ref (He.ga K "common"))
  d_are_parts : ∃ fd, FunD K "are_parts" "are_parts" (defArgs st_are_parts) (defBody st_are_parts) (defScope st_are_parts) [] [] (He.ga K "are_parts") fd
  g_are_parts : mg "are_parts" = some (.ref (He.ga K "are_parts"))
  b_tuple : mg "tuple" = none
  b_len : mg "len" = none
  d_is_share : ∃ fd, FunD K "is_share" "is_share" (defArgs st_is_share) (defBody st_is_share) (defScope st_is_share) [] [] (He.ga K "is_share") fd
  g_is_share : mg "is_share" = some (.ref (He.ga K "is_share"))
  d_need_number : ∃ fd, FunD K "need_number" "need_number" (defArgs st_need_number) (defBody st_need_number) (defScope st_need_number) [] [] (He.ga K "need_number") fd
  g_need_number : mg "need_number" = some (.ref (He.ga K "need_number"))
  n_MOST_BOTTOM : ∃ t, mg "MOST_BOTTOM" = some (.int 100 t)
  d_need_coin : ∃ fd, FunD K "need_coin" "need_coin" (defArgs st_need_coin) (defBody st_need_coin) (defScope st_need_coin) [] [] (He.ga K "need_coin") fd
  g_need_coin : mg "need_coin" = some (.ref (He.ga K "need_coin"))
  cls_Split : Cls K (He.ga K "Split")
  na_Split_size : NoAttr K (He.ga K "Split") "size"
  cls_Pairs : Cls K (He.ga K "Pairs")
  na_Pairs_size : NoAttr K (He.ga K "Pairs") "size"
  cls_Coins : Cls K (He.ga K "Coins")
  na_Coins_size : NoAttr K (He.ga K "Coins") "size"
  fo_size : ∀ cc ∈ csI, ∀ C, (TT K).cl[cc]? = some C → Cls K C ∧ NoAttr K C "size"
  g_Rule : mg "Rule" = some (.ref (He.ga K "Rule"))
  cr_Rule : ClX.CRead K (He.ga K "Rule") (.type "type")
  cv_Rule___init__ : PySem.W.findCls K (.ref (He.ga K "Rule")) (.type "type") "__init__" = some (.val (.ref (He.ma K (He.ga K "Rule") "__init__")))
  d_Rule___init__ : ∃ fd, FunD K "__init__" "Rule.__init__" (defArgs st_Rule___init__) (defBody st_Rule___init__) (defScope st_Rule___init__) [] [] (He.ma K (He.ga K "Rule") "__init__") fd
  n_MOST_FOLK : ∃ t, mg "MOST_FOLK" = some (.int 20 t)
  na_Split_ones : NoAttr K (He.ga K "Split") "ones"
  na_Pairs_ones : NoAttr K (He.ga K "Pairs") "ones"
  na_Coins_ones : NoAttr K (He.ga K "Coins") "ones"
  fo_ones : ∀ cc ∈ csI, ∀ C, (TT K).cl[cc]? = some C → Cls K C ∧ NoAttr K C "ones"
  n_MOST_PAIRS : ∃ t, mg "MOST_PAIRS" = some (.int 10 t)
  na_Split_coin : NoAttr K (He.ga K "Split") "coin"
  na_Pairs_coin : NoAttr K (He.ga K "Pairs") "coin"
  na_Coins_coin : NoAttr K (He.ga K "Coins") "coin"
  fo_coin : ∀ cc ∈ csI, ∀ C, (TT K).cl[cc]? = some C → Cls K C ∧ NoAttr K C "coin"
  na_Split_far : NoAttr K (He.ga K "Split") "far"
  na_Pairs_far : NoAttr K (He.ga K "Pairs") "far"
  na_Coins_far : NoAttr K (He.ga K "Coins") "far"
  fo_far : ∀ cc ∈ csI, ∀ C, (TT K).cl[cc]? = some C → Cls K C ∧ NoAttr K C "far"
  g_Split : mg "Split" = some (.ref (He.ga K "Split"))
  mk_Split : Mk K (He.ga K "Split") (He.ma K (He.ga K "Split") "__init__")
  d_Split___init__ : ∃ fd, FunD K "__init__" "Split.__init__" (defArgs st_Split___init__) (defBody st_Split___init__) (defScope st_Split___init__) [] [] (He.ma K (He.ga K "Split") "__init__") fd
  g_Pairs : mg "Pairs" = some (.ref (He.ga K "Pairs"))
  mk_Pairs : Mk K (He.ga K "Pairs") (He.ma K (He.ga K "Pairs") "__init__")
  d_Pairs___init__ : ∃ fd, FunD K "__init__" "Pairs.__init__" (defArgs st_Pairs___init__) (defBody st_Pairs___init__) (defScope st_Pairs___init__) [] [] (He.ma K (He.ga K "Pairs") "__init__") fd
  g_Coins : mg "Coins" = some (.ref (He.ga K "Coins"))
  mk_Coins : Mk K (He.ga K "Coins") (He.ma K (He.ga K "Coins") "__init__")
  d_Coins___init__ : ∃ fd, FunD K "__init__" "Coins.__init__" (defArgs st_Coins___init__) (defBody st_Coins___init__) (defScope st_Coins___init__) [] [] (He.ma K (He.ga K "Coins") "__init__") fd
  me_Split_told : Meth K (He.ga K "Split") "told" (He.ma K (He.ga K "Split") "told")
  d_Split_told : ∃ fd, FunD K "told" "Split.told" (defArgs st_Split_told) (defBody st_Split_told) (defScope st_Split_told) [] [] (He.ma K (He.ga K "Split") "told") fd
  me_Pairs_told : Meth K (He.ga K "Pairs") "told" (He.ma K (He.ga K "Pairs") "told")
  d_Pairs_told : ∃ fd, FunD K "told" "Pairs.told" (defArgs st_Pairs_told) (defBody st_Pairs_told) (defScope st_Pairs_told) [] [] (He.ma K (He.ga K "Pairs") "told") fd
  me_Coins_told : Meth K (He.ga K "Coins") "told" (He.ma K (He.ga K "Coins") "told")
  d_Coins_told : ∃ fd, FunD K "told" "Coins.told" (defArgs st_Coins_told) (defBody st_Coins_told) (defScope st_Coins_told) [] [] (He.ma K (He.ga K "Coins") "told") fd
  me_Split_folk : Meth K (He.ga K "Split") "folk" (He.ma K (He.ga K "Split") "folk")
  d_Split_folk : ∃ fd, FunD K "folk" "Rule.folk" (defArgs st_Rule_folk) (defBody st_Rule_folk) (defScope st_Rule_folk) [] [] (He.ma K (He.ga K "Split") "folk") fd
  me_Pairs_folk : Meth K (He.ga K "Pairs") "folk" (He.ma K (He.ga K "Pairs") "folk")
  d_Pairs_folk : ∃ fd, FunD K "folk" "Rule.folk" (defArgs st_Rule_folk) (defBody st_Rule_folk) (defScope st_Rule_folk) [] [] (He.ma K (He.ga K "Pairs") "folk") fd
  me_Coins_folk : Meth K (He.ga K "Coins") "folk" (He.ma K (He.ga K "Coins") "folk")
  d_Coins_folk : ∃ fd, FunD K "folk" "Rule.folk" (defArgs st_Rule_folk) (defBody st_Rule_folk) (defScope st_Rule_folk) [] [] (He.ma K (He.ga K "Coins") "folk") fd
  b_divmod : mg "divmod" = none
  d_split_maker : ∃ fd, FunD K "split_maker" "split_maker" (defArgs st_split_maker) (defBody st_split_maker) (defScope st_split_maker) [] [] (He.ga K "split_maker") fd
  k_split_maker : ∀ oc od fd osl, K.lookup (He.ga K "split_maker") = some ⟨oc, od, .func fd, osl⟩ → fd.code = .ref (He.cT K ("split_maker", none)).1
  t_split_maker : LamX.TabB base mg (He.cT K ("split_maker", none)).1 (He.cT K ("split_maker", none)).2
  g_split_maker : mg "split_maker" = some (.ref (He.ga K "split_maker"))
  d_pairs_maker : ∃ fd, FunD K "pairs_maker" "pairs_maker" (defArgs st_pairs_maker) (defBody st_pairs_maker) (defScope st_pairs_maker) [] [] (He.ga K "pairs_maker") fd
  k_pairs_maker : ∀ oc od fd osl, K.lookup (He.ga K "pairs_maker") = some ⟨oc, od, .func fd, osl⟩ → fd.code = .ref (He.cT K ("pairs_maker", none)).1
  t_pairs_maker : LamX.TabB base mg (He.cT K ("pairs_maker", none)).1 (He.cT K ("pairs_maker", none)).2
  g_pairs_maker : mg "pairs_maker" = some (.ref (He.ga K "pairs_maker"))
  d_coins_maker : ∃ fd, FunD K "coins_maker" "coins_maker" (defArgs st_coins_maker) (defBody st_coins_maker) (defScope st_coins_maker) [] [] (He.ga K "coins_maker") fd
  k_coins_maker : ∀ oc od fd osl, K.lookup (He.ga K "coins_maker") = some ⟨oc, od, .func fd, osl⟩ → fd.code = .ref (He.cT K ("coins_maker", none)).1
  t_coins_maker : LamX.TabB base mg (He.cT K ("coins_maker", none)).1 (He.cT K ("coins_maker", none)).2
  g_coins_maker : mg "coins_maker" = some (.ref (He.ga K "coins_maker"))
  d__law_cell : ∃ fd, FunD K "_law_cell" "_law_cell" (defArgs st__law_cell) (defBody st__law_cell) (defScope st__law_cell) [] [] (He.ga K "_law_cell") fd
  g__law_cell : mg "_law_cell" = some (.ref (He.ga K "_law_cell"))
  d__law_mix : ∃ fd, FunD K "_law_mix" "_law_mix" (defArgs st__law_mix) (defBody st__law_mix) (defScope st__law_mix) [] [] (He.ga K "_law_mix") fd
  g__law_mix : mg "_law_mix" = some (.ref (He.ga K "_law_mix"))
  b_max : mg "max" = none
  d__law_begun : ∃ fd, FunD K "_law_begun" "_law_begun" (defArgs st__law_begun) (defBody st__law_begun) (defScope st__law_begun) [] [] (He.ga K "_law_begun") fd
  g__law_begun : mg "_law_begun" = some (.ref (He.ga K "_law_begun"))
  d__law_pull : ∃ fd, FunD K "_law_pull" "_law_pull" (defArgs st__law_pull) (defBody st__law_pull) (defScope st__law_pull) [] [] (He.ga K "_law_pull") fd
  g__law_pull : mg "_law_pull" = some (.ref (He.ga K "_law_pull"))
  d__law_share : ∃ fd, FunD K "_law_share" "_law_share" (defArgs st__law_share) (defBody st__law_share) (defScope st__law_share) [] [] (He.ga K "_law_share") fd
  g__law_share : mg "_law_share" = some (.ref (He.ga K "_law_share"))
  d__law_coin : ∃ fd, FunD K "_law_coin" "_law_coin" (defArgs st__law_coin) (defBody st__law_coin) (defScope st__law_coin) [] [] (He.ga K "_law_coin") fd
  g__law_coin : mg "_law_coin" = some (.ref (He.ga K "_law_coin"))
  d__law_due : ∃ fd, FunD K "_law_due" "_law_due" (defArgs st__law_due) (defBody st__law_due) (defScope st__law_due) [] [] (He.ga K "_law_due") fd
  g__law_due : mg "_law_due" = some (.ref (He.ga K "_law_due"))
  d__law_right : ∃ fd, FunD K "_law_right" "_law_right" (defArgs st__law_right) (defBody st__law_right) (defScope st__law_right) [] [] (He.ga K "_law_right") fd
  g__law_right : mg "_law_right" = some (.ref (He.ga K "_law_right"))
  xi_NoShare_NoShare : ∀ C, (TT K).cl[0]? = some C → ExcI K C ∧ PySem.W.kitOne K (.ref C) (kdU (TT K) (.cls 0)) = some true
  xi_NoShare_NoNumber_NoRule : ∀ C, (TT K).cl[0]? = some C → ExcI K C ∧ PySem.W.kitAny K (.ref C) (List.map (kdU (TT K)) [(.cls 1), (.cls 2)]) = some false
  g_NoRule : mg "NoRule" = some (.ref (He.ga K "NoRule"))
  xf_NoShare_found : ∀ C, (TT K).cl[0]? = some C → XfC K C ∧ PySem.W.findIn K (.ref C) "found" = some none
  xi_NoShare_NoNumber : ∀ C, (TT K).cl[0]? = some C → ExcI K C ∧ PySem.W.kitOne K (.ref C) (kdU (TT K) (.cls 1)) = some false
  xi_NoShare_NoRule : ∀ C, (TT K).cl[0]? = some C → ExcI K C ∧ PySem.W.kitOne K (.ref C) (kdU (TT K) (.cls 2)) = some false
  xi_NoNumber_NoShare : ∀ C, (TT K).cl[1]? = some C → ExcI K C ∧ PySem.W.kitOne K (.ref C) (kdU (TT K) (.cls 0)) = some false
  xi_NoNumber_NoNumber_NoRule : ∀ C, (TT K).cl[1]? = some C → ExcI K C ∧ PySem.W.kitAny K (.ref C) (List.map (kdU (TT K)) [(.cls 1), (.cls 2)]) = some true
  xf_NoNumber_found : ∀ C, (TT K).cl[1]? = some C → XfC K C ∧ PySem.W.findIn K (.ref C) "found" = some none
  xi_NoNumber_NoNumber : ∀ C, (TT K).cl[1]? = some C → ExcI K C ∧ PySem.W.kitOne K (.ref C) (kdU (TT K) (.cls 1)) = some true
  xi_NoNumber_NoRule : ∀ C, (TT K).cl[1]? = some C → ExcI K C ∧ PySem.W.kitOne K (.ref C) (kdU (TT K) (.cls 2)) = some false
  xi_NoRule_NoShare : ∀ C, (TT K).cl[2]? = some C → ExcI K C ∧ PySem.W.kitOne K (.ref C) (kdU (TT K) (.cls 0)) = some false
  xi_NoRule_NoNumber_NoRule : ∀ C, (TT K).cl[2]? = some C → ExcI K C ∧ PySem.W.kitAny K (.ref C) (List.map (kdU (TT K)) [(.cls 1), (.cls 2)]) = some true
  xf_NoRule_found : ∀ C, (TT K).cl[2]? = some C → XfC K C ∧ PySem.W.findIn K (.ref C) "found" = some none
  xi_NoRule_NoNumber : ∀ C, (TT K).cl[2]? = some C → ExcI K C ∧ PySem.W.kitOne K (.ref C) (kdU (TT K) (.cls 1)) = some false
  xi_NoRule_NoRule : ∀ C, (TT K).cl[2]? = some C → ExcI K C ∧ PySem.W.kitOne K (.ref C) (kdU (TT K) (.cls 2)) = some true
  hx_DealError : ∀ (c : Nat) (C : Addr), (TT K).cl[c]? = some C → PySem.W.exmOne K (.ref C) (.ref (He.ga K "DealError")) = some ((fun c => [0, 1, 2].contains c) c)
  d__law_refusal : ∃ fd, FunD K "_law_refusal" "_law_refusal" (defArgs st__law_refusal) (defBody st__law_refusal) (defScope st__law_refusal) [] [] (He.ga K "_law_refusal") fd
  g__law_refusal : mg "_law_refusal" = some (.ref (He.ga K "_law_refusal"))
  d__law_refused : ∃ fd, FunD K "_law_refused" "_law_refused" (defArgs st__law_refused) (defBody st__law_refused) (defScope st__law_refused) [] [] (He.ga K "_law_refused") fd
  g__law_refused : mg "_law_refused" = some (.ref (He.ga K "_law_refused"))
  b_range : mg "range" = none
  b_min : mg "min" = none
  d_law : ∃ fd, FunD K "law" "law" (defArgs st_law) (defBody st_law) (defScope st_law) [] [] (He.ga K "law") fd
  g_law : mg "law" = some (.ref (He.ga K "law"))
  hu_split_maker : ∀ p ∈ (TT K).tb, p.1 = (He.cT K ("split_maker", none)).2 → p.2 = nm_split_maker
  hu_pairs_maker : ∀ p ∈ (TT K).tb, p.1 = (He.cT K ("pairs_maker", none)).2 → p.2 = nm_pairs_maker
  hu_coins_maker : ∀ p ∈ (TT K).tb, p.1 = (He.cT K ("coins_maker", none)).2 → p.2 = nm_coins_maker
section
variable {P : Program} {w : World} {K : PySem.W.Frag} {mg : Str → Option Value} {base : Heap}
/-! ## NoShare -/
theorem sc_NoShare_init : FnScope ["self", "found"] ["self", "found"] (defScope st_NoShare_init) := ⟨rfl, rfl, rfl, by decide +kernel, rfl, by decide +kernel, by decide +kernel⟩
theorem xo_NoShare (c : Facts P w K mg base) : ExcOk P w K mg base (TT K) "NoShare" 0 0 1 := by
  obtain ⟨fd, F⟩ := c.d_NoShare_init
  refine ⟨_, _, fd, ["self", "found"], "found", rfl, rfl, c.g_NoShare, c.ox_NoShare, c.fi_NoShare, c.ti_NoShare, exc_init (msg := "what is no share") F sc_NoShare_init rfl c.ox_NoShare c.nf_NoShare (fun cdv A outer s H E => ?_), F.bindsN fun _ _ _ _ _ _ us hl => match us, hl with | [_, _], _ => rfl⟩
  exact pss_cons (ps_expr (pe_dealinit rfl c.g_DealError (by decide) c.cr_DealError c.cv_DealError (pa_cons (pv 0) (pa_cons pe_str pa_nil)) rfl rfl rfl) rfl) (pss_one (ps_ost (pv 0) (pv 1) rfl))
/-! ## NoNumber -/
theorem sc_NoNumber_init : FnScope ["self", "found"] ["self", "found"] (defScope st_NoNumber_init) := ⟨rfl, rfl, rfl, by decide +kernel, rfl, by decide +kernel, by decide +kernel⟩
theorem xo_NoNumber (c : Facts P w K mg base) : ExcOk P w K mg base (TT K) "NoNumber" 1 0 1 := by
  obtain ⟨fd, F⟩ := c.d_NoNumber_init
  refine ⟨_, _, fd, ["self", "found"], "found", rfl, rfl, c.g_NoNumber, c.ox_NoNumber, c.fi_NoNumber, c.ti_NoNumber, exc_init (msg := "what is no number of the told ones") F sc_NoNumber_init rfl c.ox_NoNumber c.nf_NoNumber (fun cdv A outer s H E => ?_), F.bindsN fun _ _ _ _ _ _ us hl => match us, hl with | [_, _], _ => rfl⟩
  exact pss_cons (ps_expr (pe_dealinit rfl c.g_DealError (by decide) c.cr_DealError c.cv_DealError (pa_cons (pv 0) (pa_cons pe_str pa_nil)) rfl rfl rfl) rfl) (pss_one (ps_ost (pv 0) (pv 1) rfl))
/-! ## is_whole -/
theorem sc_is_whole : FnScope ["thing", "low", "high"] ["thing", "low", "high"] (defScope st_is_whole) := ⟨rfl, rfl, rfl, by decide +kernel, rfl, by decide +kernel, by decide +kernel⟩
def sig_is_whole : Sig := ⟨[.val, .val, .val], false⟩
def g_is_whole : SM := (retM (andV (isiM [] sub0 [.int] (getS 0)) (andV (notV (isiM [] sub0 [.bool] (getS 0))) (chainM (gI yes fun i j => .bl (decide (i ≤ j))) (gI yes fun i j => .bl (decide (i ≤ j))) (getS 1) (getS 0) (getS 2)))))
def m_is_whole : Mir := fun ds => resOf sig_is_whole [] (g_is_whole (sd0 sig_is_whole.modes ds 3))
theorem fn_is_whole {f : Addr} {fd : FuncData} (c : Facts P w K mg base) (F : FunD K "is_whole" "is_whole" (defArgs st_is_whole) (defBody st_is_whole) (defScope st_is_whole) [] [] f fd) : FnOk P w K mg base (L2.CX P w) 1 f fd ["thing", "low", "high"] (spF (TT K) K sig_is_whole m_is_whole) ∧ Binds K fd ["thing", "low", "high"] [] := by
  refine ⟨def_ok (g := g_is_whole) F sc_is_whole rfl (by decide) (fun cdv A outer s H E B hT hmi hpin hex hr => ?_) (fun ds hl hne => rfl), F.bindsN fun _ _ _ _ _ _ us hl => match us, hl with | [_, _, _], _ => rfl⟩
  obtain ⟨T2, K2, H02, F02, mi2, ma2, pin2, ex2⟩ := B
  dsimp only at hT hmi hpin hex
  subst hT hmi hpin hex
  exact (svs_one (sv_ret (ev_and (ev_isi (cs := []) (sub := sub0) (k := .int) (fun _ h => nomatch h) (kd0 (by intro _ z; cases z)) rfl c.b_isinstance (ev_var (i := 0) rfl (by first | exact .inl rfl | exact .inr (.inl rfl) | exact .inr (.inr rfl)) (lk rfl rfl rfl) (by decide) (by decide)) (pe_bltn rfl c.b_int (by decide +kernel) rfl) rfl rfl rfl) (ev_and (ev_not (ev_isi (cs := []) (sub := sub0) (k := .bool) (fun _ h => nomatch h) (kd0 (by intro _ z; cases z)) rfl c.b_isinstance (ev_var (i := 0) rfl (by first | exact .inl rfl | exact .inr (.inl rfl) | exact .inr (.inr rfl)) (lk rfl rfl rfl) (by decide) (by decide)) (pe_bltn rfl c.b_bool (by decide +kernel) rfl) rfl rfl rfl)) (ev_one (ev_chain opv_le opv_le (ev_var (i := 1) rfl (by first | exact .inl rfl | exact .inr (.inl rfl) | exact .inr (.inr rfl)) (lk rfl rfl rfl) (by decide) (by decide)) (ev_var (i := 0) rfl (by first | exact .inl rfl | exact .inr (.inl rfl) | exact .inr (.inr rfl)) (lk rfl rfl rfl) (by decide) (by decide)) (ev_var (i := 2) rfl (by first | exact .inl rfl | exact .inr (.inl rfl) | exact .inr (.inr rfl)) (lk rfl rfl rfl) (by decide) (by decide)) (fun ho ho2 ha hb hc => pe_chain ho ho2 ha hb hc)))))))
theorem ok_is_whole (c : Facts P w K mg base) : DefOk P w K mg base (TT K) "is_whole" sig_is_whole m_is_whole 1 := by
  obtain ⟨fd, F⟩ := c.d_is_whole
  obtain ⟨h1, h2⟩ := fn_is_whole c F
  exact ⟨_, fd, _, c.g_is_whole, h1, F.kp, h2⟩
/-! ## common -/
theorem sc_common : FnScope ["one", "other"] ["one", "other"] (defScope st_common) := ⟨rfl, rfl, rfl, by decide +kernel, rfl, by decide +kernel, by decide +kernel⟩
def sig_common : Sig := ⟨[.val, .val], false⟩
def g_common : SM := (seqM (whileM mu_common (boolM (binM (gI yes fun i j => .bl (decide (j < i))) (getS 1) (cI 0))) (parM 0 1 (consM (getS 1) (consM (binM (gI (fun _ j => decide (0 < j)) fun i j => .int (i % j)) (getS 0) (getS 1)) nilL))))
  (retM (getS 0)))
def m_common : Mir := fun ds => resOf sig_common [] (g_common (sd0 sig_common.modes ds 2))
theorem fn_common {f : Addr} {fd : FuncData} (c : Facts P w K mg base) (F : FunD K "common" "common" (defArgs st_common) (defBody st_common) (defScope st_common) [] [] f fd) : FnOk P w K mg base (L2.CX P w) 1 f fd ["one", "other"] (spF (TT K) K sig_common m_common) ∧ Binds K fd ["one", "other"] [] := by
  refine ⟨def_ok (g := g_common) F sc_common rfl (by decide) (fun cdv A outer s H E B hT hmi hpin hex hr => ?_) (fun ds hl hne => rfl), F.bindsN fun _ _ _ _ _ _ us hl => match us, hl with | [_, _], _ => rfl⟩
  obtain ⟨T2, K2, H02, F02, mi2, ma2, pin2, ex2⟩ := B
  dsimp only at hT hmi hpin hex
  subst hT hmi hpin hex
  exact (svs_cons (sv_while mu_common (passes_of rfl) (et_cmp opv_gt (ev_var (i := 1) rfl (by first | exact .inl rfl | exact .inr (.inl rfl) | exact .inr (.inr rfl)) (lk rfl rfl rfl) (by decide) (by decide)) ev_int rfl) (svs_one (sv_par (i := 0) (j := 1) rfl sc_common.nd rfl rfl (by decide) (lk rfl rfl rfl) (lk rfl rfl rfl) rfl rfl (el_cons (ev_var (i := 1) rfl (by first | exact .inl rfl | exact .inr (.inl rfl) | exact .inr (.inr rfl)) (lk rfl rfl rfl) (by decide) (by decide)) (el_cons (ev_op opv_mod (ev_var (i := 0) rfl (by first | exact .inl rfl | exact .inr (.inl rfl) | exact .inr (.inr rfl)) (lk rfl rfl rfl) (by decide) (by decide)) (ev_var (i := 1) rfl (by first | exact .inl rfl | exact .inr (.inl rfl) | exact .inr (.inr rfl)) (lk rfl rfl rfl) (by decide) (by decide))) el_nil rfl) rfl) rfl rfl)))
  (svs_one (sv_ret (ev_var (i := 0) rfl (by first | exact .inl rfl | exact .inr (.inl rfl) | exact .inr (.inr rfl)) (lk rfl rfl rfl) (by decide) (by decide)))))
theorem ok_common (c : Facts P w K mg base) : DefOk P w K mg base (TT K) "common" sig_common m_common 1 := by
  obtain ⟨fd, F⟩ := c.d_common
  obtain ⟨h1, h2⟩ := fn_common c F
  exact ⟨_, fd, _, c.g_common, h1, F.kp, h2⟩
/-! ## are_parts -/
theorem sc_are_parts : FnScope ["top", "bottom", "number"] ["top", "bottom"] (defScope st_are_parts) := ⟨rfl, rfl, rfl, by decide +kernel, rfl, by decide +kernel, by decide +kernel⟩
def sig_are_parts : Sig := ⟨[.val, .val], false⟩
def g_are_parts : SM := (seqM (forM (tupIM (tupM 2 (consM (getS 0) (consM (getS 1) nilL)))) (gNm 2)
  (ifM (orM (notM (boolM (isiM [] sub0 [.int] (getS 2)))) (boolM (isiM [] sub0 [.bool] (getS 2))))
  (retM (cB false))
  (fun s => .next s)))
  (retM (andV (binM (gI yes fun i j => .bl (decide (j ≤ i))) (getS 1) (cI 1)) (chainM (gI yes fun i j => .bl (decide (i ≤ j))) (gI yes fun i j => .bl (decide (i ≤ j))) (cI 0) (getS 0) (getS 1)))))
def m_are_parts : Mir := fun ds => resOf sig_are_parts [] (g_are_parts (sd0 sig_are_parts.modes ds 3))
theorem fn_are_parts {f : Addr} {fd : FuncData} (c : Facts P w K mg base) (F : FunD K "are_parts" "are_parts" (defArgs st_are_parts) (defBody st_are_parts) (defScope st_are_parts) [] [] f fd) : FnOk P w K mg base (L2.CX P w) 1 f fd ["top", "bottom"] (spF (TT K) K sig_are_parts m_are_parts) ∧ Binds K fd ["top", "bottom"] [] := by
  refine ⟨def_ok (g := g_are_parts) F sc_are_parts rfl (by decide) (fun cdv A outer s H E B hT hmi hpin hex hr => ?_) (fun ds hl hne => rfl), F.bindsN fun _ _ _ _ _ _ us hl => match us, hl with | [_, _], _ => rfl⟩
  obtain ⟨T2, K2, H02, F02, mi2, ma2, pin2, ex2⟩ := B
  dsimp only at hT hmi hpin hex
  subst hT hmi hpin hex
  exact (svs_cons (sv_for (passes_of rfl) rfl (ei_tup (ev_tup (n := 2) (el_cons (ev_var (i := 0) rfl (by first | exact .inl rfl | exact .inr (.inl rfl) | exact .inr (.inr rfl)) (lk rfl rfl rfl) (by decide) (by decide)) (el_cons (ev_var (i := 1) rfl (by first | exact .inl rfl | exact .inr (.inl rfl) | exact .inr (.inr rfl)) (lk rfl rfl rfl) (by decide) (by decide)) el_nil rfl) rfl) (by decide))) (eg_name (i := 2) sc_are_parts.nd rfl (by first | exact .inl rfl | exact .inr rfl) (lk rfl rfl rfl) (by first | exact .inl rfl | exact .inr rfl))
  (svs_one (sv_if (EW.et (ew_or (et_not (et_val (ev_isi (cs := []) (sub := sub0) (k := .int) (fun _ h => nomatch h) (kd0 (by intro _ z; cases z)) rfl c.b_isinstance (ev_var (i := 2) rfl (by first | exact .inl rfl | exact .inr (.inl rfl) | exact .inr (.inr rfl)) (lk rfl rfl rfl) (by decide) (by decide)) (pe_bltn rfl c.b_int (by decide +kernel) rfl) rfl rfl rfl) (fun _ => rfl))) (ew_or1 (et_val (ev_isi (cs := []) (sub := sub0) (k := .bool) (fun _ h => nomatch h) (kd0 (by intro _ z; cases z)) rfl c.b_isinstance (ev_var (i := 2) rfl (by first | exact .inl rfl | exact .inr (.inl rfl) | exact .inr (.inr rfl)) (lk rfl rfl rfl) (by decide) (by decide)) (pe_bltn rfl c.b_bool (by decide +kernel) rfl) rfl rfl rfl) (fun _ => rfl)))))
  (svs_one (sv_ret ev_bl))
  svs_nil)) (fun _ => rfl))
  (svs_one (sv_ret (ev_and (ev_cmp opv_ge (ev_var (i := 1) rfl (by first | exact .inl rfl | exact .inr (.inl rfl) | exact .inr (.inr rfl)) (lk rfl rfl rfl) (by decide) (by decide)) ev_int rfl) (ev_one (ev_chain opv_le opv_le ev_int (ev_var (i := 0) rfl (by first | exact .inl rfl | exact .inr (.inl rfl) | exact .inr (.inr rfl)) (lk rfl rfl rfl) (by decide) (by decide)) (ev_var (i := 1) rfl (by first | exact .inl rfl | exact .inr (.inl rfl) | exact .inr (.inr rfl)) (lk rfl rfl rfl) (by decide) (by decide)) (fun ho ho2 ha hb hc => pe_chain ho ho2 ha hb hc)))))))
theorem ok_are_parts (c : Facts P w K mg base) : DefOk P w K mg base (TT K) "are_parts" sig_are_parts m_are_parts 1 := by
  obtain ⟨fd, F⟩ := c.d_are_parts
  obtain ⟨h1, h2⟩ := fn_are_parts c F
  exact ⟨_, fd, _, c.g_are_parts, h1, F.kp, h2⟩
/-! ## is_share -/
theorem sc_is_share : FnScope ["thing"] ["thing"] (defScope st_is_share) := ⟨rfl, rfl, rfl, by decide +kernel, rfl, by decide +kernel, by decide +kernel⟩
def sig_is_share : Sig := ⟨[.val], false⟩
def g_is_share : SM := (seqM (ifM (orM (notM (boolM (isiM [] sub0 [.tup] (getS 0)))) (orM (boolM (binM gNeT (peekM 0 gLen) (cI 2))) (notM (boolM (callM sig_are_parts m_are_parts (consA (ixOwn 0 (cI 0)) (consA (ixOwn 0 (cI 1)) nilA)))))))
  (retM (cB false))
  (fun s => .next s))
  (retM (binM gEqT (callM sig_common m_common (consA (ixOwn 0 (cI 0)) (consA (ixOwn 0 (cI 1)) nilA))) (cI 1))))
def m_is_share : Mir := fun ds => resOf sig_is_share [] (g_is_share (sd0 sig_is_share.modes ds 1))
theorem fn_is_share {f : Addr} {fd : FuncData} (c : Facts P w K mg base) (F : FunD K "is_share" "is_share" (defArgs st_is_share) (defBody st_is_share) (defScope st_is_share) [] [] f fd) : FnOk P w K mg base (L2.CX P w) 2 f fd ["thing"] (spF (TT K) K sig_is_share m_is_share) ∧ Binds K fd ["thing"] [] := by
  refine ⟨def_ok (g := g_is_share) F sc_is_share rfl (by decide) (fun cdv A outer s H E B hT hmi hpin hex hr => ?_) (fun ds hl hne => rfl), F.bindsN fun _ _ _ _ _ _ us hl => match us, hl with | [_], _ => rfl⟩
  obtain ⟨T2, K2, H02, F02, mi2, ma2, pin2, ex2⟩ := B
  dsimp only at hT hmi hpin hex
  subst hT hmi hpin hex
  exact (svs_cons (sv_if (EW.et (ew_or (et_not (et_val (ev_isi (cs := []) (sub := sub0) (k := .tup) (fun _ h => nomatch h) (kd0 (by intro _ z; cases z)) rfl c.b_isinstance (ev_var (i := 0) rfl (by first | exact .inl rfl | exact .inr (.inl rfl) | exact .inr (.inr rfl)) (lk rfl rfl rfl) (by decide) (by decide)) (pe_bltn rfl c.b_tuple (by decide +kernel) rfl) rfl rfl rfl) (fun _ => rfl))) (ew_or (et_cmp (opv_neT hr.eqs) (ev_bltS blt_len rfl c.b_len (by decide +kernel) (i := 0) rfl (by first | exact .inl rfl | exact .inr (.inl rfl) | exact .inr (.inr rfl)) (by decide) (by decide) (by decide) (by decide) rfl rfl) ev_int rfl) (ew_or1 (et_not (et_val (ev_call (ok_are_parts c) rfl (hr.mono (by decide)) rfl (takes_of rfl rfl rfl rfl) (ea_cons (ev_ixOwn (i := 0) rfl (by first | exact .inl rfl | exact .inr (.inl rfl) | exact .inr (.inr rfl)) ev_int (fun _ _ => rfl) (by decide) (by decide)) (ea_cons (ev_ixOwn (i := 0) rfl (by first | exact .inl rfl | exact .inr (.inl rfl) | exact .inr (.inr rfl)) ev_int (fun _ _ => rfl) (by decide) (by decide)) ea_nil rfl) rfl) (by decide) rfl rfl) (fun _ => rfl)))))))
  (svs_one (sv_ret ev_bl))
  svs_nil)
  (svs_one (sv_ret (ev_cmp (opv_eqT hr.eqs) (ev_call (ok_common c) rfl (hr.mono (by decide)) rfl (takes_of rfl rfl rfl rfl) (ea_cons (ev_ixOwn (i := 0) rfl (by first | exact .inl rfl | exact .inr (.inl rfl) | exact .inr (.inr rfl)) ev_int (fun _ _ => rfl) (by decide) (by decide)) (ea_cons (ev_ixOwn (i := 0) rfl (by first | exact .inl rfl | exact .inr (.inl rfl) | exact .inr (.inr rfl)) ev_int (fun _ _ => rfl) (by decide) (by decide)) ea_nil rfl) rfl) (by decide) rfl rfl) ev_int rfl))))
theorem ok_is_share (c : Facts P w K mg base) : DefOk P w K mg base (TT K) "is_share" sig_is_share m_is_share 2 := by
  obtain ⟨fd, F⟩ := c.d_is_share
  obtain ⟨h1, h2⟩ := fn_is_share c F
  exact ⟨_, fd, _, c.g_is_share, h1, F.kp, h2⟩
/-! ## need_number -/
theorem sc_need_number : FnScope ["thing", "low", "high"] ["thing", "low", "high"] (defScope st_need_number) := ⟨rfl, rfl, rfl, by decide +kernel, rfl, by decide +kernel, by decide +kernel⟩
def sig_need_number : Sig := ⟨[.val, .val, .val], false⟩
def g_need_number : SM := (ifM (notM (boolM (callM sig_is_whole m_is_whole (consA (getS 0) (consA (getS 1) (consA (getS 2) nilA))))))
  (raiseM 1 0 (getS 0))
  (fun s => .next s))
def m_need_number : Mir := fun ds => resOf sig_need_number [] (g_need_number (sd0 sig_need_number.modes ds 3))
theorem fn_need_number {f : Addr} {fd : FuncData} (c : Facts P w K mg base) (F : FunD K "need_number" "need_number" (defArgs st_need_number) (defBody st_need_number) (defScope st_need_number) [] [] f fd) : FnOk P w K mg base (L2.CX P w) 3 f fd ["thing", "low", "high"] (spF (TT K) K sig_need_number m_need_number) ∧ Binds K fd ["thing", "low", "high"] [] := by
  refine ⟨def_ok (g := g_need_number) F sc_need_number rfl (by decide) (fun cdv A outer s H E B hT hmi hpin hex hr => ?_) (fun ds hl hne => rfl), F.bindsN fun _ _ _ _ _ _ us hl => match us, hl with | [_, _, _], _ => rfl⟩
  obtain ⟨T2, K2, H02, F02, mi2, ma2, pin2, ex2⟩ := B
  dsimp only at hT hmi hpin hex
  subst hT hmi hpin hex
  exact (svs_one (sv_if (et_not (et_val (ev_call (ok_is_whole c) rfl (hr.mono (by decide)) rfl (takes_of rfl rfl rfl rfl) (ea_cons (ev_var (i := 0) rfl (by first | exact .inl rfl | exact .inr (.inl rfl) | exact .inr (.inr rfl)) (lk rfl rfl rfl) (by decide) (by decide)) (ea_cons (ev_var (i := 1) rfl (by first | exact .inl rfl | exact .inr (.inl rfl) | exact .inr (.inr rfl)) (lk rfl rfl rfl) (by decide) (by decide)) (ea_cons (ev_var (i := 2) rfl (by first | exact .inl rfl | exact .inr (.inl rfl) | exact .inr (.inr rfl)) (lk rfl rfl rfl) (by decide) (by decide)) ea_nil rfl) rfl) rfl) (by decide) rfl rfl) (fun _ => rfl)))
  (svs_one (sv_raise (xo_NoNumber c) (hr.mono (by decide)) rfl (takes_of rfl rfl rfl rfl) rfl (ev_var (i := 0) rfl (by first | exact .inl rfl | exact .inr (.inl rfl) | exact .inr (.inr rfl)) (lk rfl rfl rfl) (by decide) (by decide)) (by decide) rfl rfl))
  svs_nil))
theorem ok_need_number (c : Facts P w K mg base) : DefOk P w K mg base (TT K) "need_number" sig_need_number m_need_number 3 := by
  obtain ⟨fd, F⟩ := c.d_need_number
  obtain ⟨h1, h2⟩ := fn_need_number c F
  exact ⟨_, fd, _, c.g_need_number, h1, F.kp, h2⟩
/-! ## need_coin -/
theorem sc_need_coin : FnScope ["thing"] ["thing"] (defScope st_need_coin) := ⟨rfl, rfl, rfl, by decide +kernel, rfl, by decide +kernel, by decide +kernel⟩
def sig_need_coin : Sig := ⟨[.val], false⟩
def g_need_coin : SM := (ifM (orM (notM (boolM (callM sig_is_share m_is_share (consA (getS 0) nilA)))) (orM (boolM (binM gEqT (ixOwn 0 (cI 0)) (cI 0))) (orM (boolM (binM gEqT (ixOwn 0 (cI 0)) (ixOwn 0 (cI 1)))) (boolM (binM (gI yes fun i j => .bl (decide (j < i))) (ixOwn 0 (cI 1)) (cI 100))))))
  (raiseM 0 0 (getS 0))
  (fun s => .next s))
def m_need_coin : Mir := fun ds => resOf sig_need_coin [] (g_need_coin (sd0 sig_need_coin.modes ds 1))
theorem fn_need_coin {f : Addr} {fd : FuncData} (c : Facts P w K mg base) (F : FunD K "need_coin" "need_coin" (defArgs st_need_coin) (defBody st_need_coin) (defScope st_need_coin) [] [] f fd) : FnOk P w K mg base (L2.CX P w) 3 f fd ["thing"] (spF (TT K) K sig_need_coin m_need_coin) ∧ Binds K fd ["thing"] [] := by
  refine ⟨def_ok (g := g_need_coin) F sc_need_coin rfl (by decide) (fun cdv A outer s H E B hT hmi hpin hex hr => ?_) (fun ds hl hne => rfl), F.bindsN fun _ _ _ _ _ _ us hl => match us, hl with | [_], _ => rfl⟩
  obtain ⟨T2, K2, H02, F02, mi2, ma2, pin2, ex2⟩ := B
  dsimp only at hT hmi hpin hex
  subst hT hmi hpin hex
  exact (svs_one (sv_if (EW.et (ew_or (et_not (et_val (ev_call (ok_is_share c) rfl (hr.mono (by decide)) rfl (takes_of rfl rfl rfl rfl) (ea_cons (ev_var (i := 0) rfl (by first | exact .inl rfl | exact .inr (.inl rfl) | exact .inr (.inr rfl)) (lk rfl rfl rfl) (by decide) (by decide)) ea_nil rfl) (by decide) rfl rfl) (fun _ => rfl))) (ew_or (et_cmp (opv_eqT hr.eqs) (ev_ixOwn (i := 0) rfl (by first | exact .inl rfl | exact .inr (.inl rfl) | exact .inr (.inr rfl)) ev_int (fun _ _ => rfl) (by decide) (by decide)) ev_int rfl) (ew_or (et_cmp (opv_eqT hr.eqs) (ev_ixOwn (i := 0) rfl (by first | exact .inl rfl | exact .inr (.inl rfl) | exact .inr (.inr rfl)) ev_int (fun _ _ => rfl) (by decide) (by decide)) (ev_ixOwn (i := 0) rfl (by first | exact .inl rfl | exact .inr (.inl rfl) | exact .inr (.inr rfl)) ev_int (fun _ _ => rfl) (by decide) (by decide)) rfl) (ew_or1 (et_cmp opv_gt (ev_ixOwn (i := 0) rfl (by first | exact .inl rfl | exact .inr (.inl rfl) | exact .inr (.inr rfl)) ev_int (fun _ _ => rfl) (by decide) (by decide)) (ev_gint c.n_MOST_BOTTOM rfl (by decide)) rfl))))))
  (svs_one (sv_raise (xo_NoShare c) (hr.mono (by decide)) rfl (takes_of rfl rfl rfl rfl) rfl (ev_var (i := 0) rfl (by first | exact .inl rfl | exact .inr (.inl rfl) | exact .inr (.inr rfl)) (lk rfl rfl rfl) (by decide) (by decide)) (by decide) rfl rfl))
  svs_nil))
theorem ok_need_coin (c : Facts P w K mg base) : DefOk P w K mg base (TT K) "need_coin" sig_need_coin m_need_coin 3 := by
  obtain ⟨fd, F⟩ := c.d_need_coin
  obtain ⟨h1, h2⟩ := fn_need_coin c F
  exact ⟨_, fd, _, c.g_need_coin, h1, F.kp, h2⟩
/-! ## Rule.__init__ -/
theorem sc_Rule___init__ : FnScope ["self", "size"] ["self", "size"] (defScope st_Rule___init__) := ⟨rfl, rfl, rfl, by decide +kernel, rfl, by decide +kernel, by decide +kernel⟩
def sig_Rule___init__ : Sig := ⟨[.chg, .val], false⟩
def g_Rule___init__ : SM := (setFldM 0 2 csI (getS 1))
def m_Rule___init__ : Mir := fun ds => resOf sig_Rule___init__ [0] (g_Rule___init__ (sd0 sig_Rule___init__.modes ds 2))
theorem fn_Rule___init__ {f : Addr} {fd : FuncData} (c : Facts P w K mg base) (F : FunD K "__init__" "Rule.__init__" (defArgs st_Rule___init__) (defBody st_Rule___init__) (defScope st_Rule___init__) [] [] f fd) : FnOk P w K mg base (L2.CX P w) 1 f fd ["self", "size"] (spF (TT K) K sig_Rule___init__ m_Rule___init__) ∧ Binds K fd ["self", "size"] [] := by
  refine ⟨def_ok (g := g_Rule___init__) F sc_Rule___init__ rfl (by decide) (fun cdv A outer s H E B hT hmi hpin hex hr => ?_) (fun ds hl hne => rfl), F.bindsN fun _ _ _ _ _ _ us hl => match us, hl with | [_, _], _ => rfl⟩
  obtain ⟨T2, K2, H02, F02, mi2, ma2, pin2, ex2⟩ := B
  dsimp only at hT hmi hpin hex
  subst hT hmi hpin hex
  exact (svs_one (sv_setFld (i := 0) (m := 2) rfl (by first | exact .inl rfl | exact .inr (.inl rfl) | exact .inr (.inr rfl)) rfl c.fo_size (by decide) (by decide) (ev_var (i := 1) rfl (by first | exact .inl rfl | exact .inr (.inl rfl) | exact .inr (.inr rfl)) (lk rfl rfl rfl) (by decide) (by decide)) rfl))
theorem cf_Rule___init__ (c : Facts P w K mg base) : ClsFn P w K mg base (TT K) "Rule" "__init__" sig_Rule___init__ m_Rule___init__ 1 := by
  obtain ⟨fd, F⟩ := c.d_Rule___init__
  obtain ⟨h1, h2⟩ := fn_Rule___init__ c F
  exact ⟨_, _, fd, _, c.g_Rule, c.cr_Rule, c.cv_Rule___init__, h1, F.kp, h2⟩
/-! ## Rule.folk -/
theorem sc_Rule_folk : FnScope ["self"] ["self"] (defScope st_Rule_folk) := ⟨rfl, rfl, rfl, by decide +kernel, rfl, by decide +kernel, by decide +kernel⟩
def sig_Rule_folk : Sig := ⟨[.val], false⟩
def g_Rule_folk : SM := (retM (fldOwn 0 2 csI))
def m_Rule_folk : Mir := fun ds => resOf sig_Rule_folk [] (g_Rule_folk (sd0 sig_Rule_folk.modes ds 1))
theorem fn_Rule_folk {f : Addr} {fd : FuncData} (c : Facts P w K mg base) (F : FunD K "folk" "Rule.folk" (defArgs st_Rule_folk) (defBody st_Rule_folk) (defScope st_Rule_folk) [] [] f fd) : FnOk P w K mg base (L2.CX P w) 1 f fd ["self"] (spF (TT K) K sig_Rule_folk m_Rule_folk) ∧ Binds K fd ["self"] [] := by
  refine ⟨def_ok (g := g_Rule_folk) F sc_Rule_folk rfl (by decide) (fun cdv A outer s H E B hT hmi hpin hex hr => ?_) (fun ds hl hne => rfl), F.bindsN fun _ _ _ _ _ _ us hl => match us, hl with | [_], _ => rfl⟩
  obtain ⟨T2, K2, H02, F02, mi2, ma2, pin2, ex2⟩ := B
  dsimp only at hT hmi hpin hex
  subst hT hmi hpin hex
  exact (svs_one (sv_ret (ev_fldOwn (i := 0) (m := 2) rfl (by first | exact .inl rfl | exact .inr (.inl rfl) | exact .inr (.inr rfl)) rfl c.fo_size (by decide) (by decide) rfl)))
/-! ## Split.__init__ -/
theorem sc_Split___init__ : FnScope ["self", "folk", "ones"] ["self", "folk", "ones"] (defScope st_Split___init__) := ⟨rfl, rfl, rfl, by decide +kernel, rfl, by decide +kernel, by decide +kernel⟩
def sig_Split___init__ : Sig := ⟨[.chg, .val, .val], false⟩
def g_Split___init__ : SM := (seqM (exprM (callM sig_need_number m_need_number (consA (getS 1) (consA (cI 1) (consA (cI 20) nilA)))))
  (seqM (exprM (callM sig_need_number m_need_number (consA (getS 2) (consA (cI 0) (consA (getS 1) nilA)))))
  (seqM (exprM (callM sig_Rule___init__ m_Rule___init__ (consS 0 (consA (getS 1) nilA))))
  (setFldM 0 3 csI (getS 2)))))
def m_Split___init__ : Mir := fun ds => resOf sig_Split___init__ [0] (g_Split___init__ (sd0 sig_Split___init__.modes ds 3))
theorem fn_Split___init__ {f : Addr} {fd : FuncData} (c : Facts P w K mg base) (F : FunD K "__init__" "Split.__init__" (defArgs st_Split___init__) (defBody st_Split___init__) (defScope st_Split___init__) [] [] f fd) : FnOk P w K mg base (L2.CX P w) 4 f fd ["self", "folk", "ones"] (spF (TT K) K sig_Split___init__ m_Split___init__) ∧ Binds K fd ["self", "folk", "ones"] [] := by
  refine ⟨def_ok (g := g_Split___init__) F sc_Split___init__ rfl (by decide) (fun cdv A outer s H E B hT hmi hpin hex hr => ?_) (fun ds hl hne => rfl), F.bindsN fun _ _ _ _ _ _ us hl => match us, hl with | [_, _, _], _ => rfl⟩
  obtain ⟨T2, K2, H02, F02, mi2, ma2, pin2, ex2⟩ := B
  dsimp only at hT hmi hpin hex
  subst hT hmi hpin hex
  exact (svs_cons (sv_expr (ev_call (ok_need_number c) rfl (hr.mono (by decide)) rfl (takes_of rfl rfl rfl rfl) (ea_cons (ev_var (i := 1) rfl (by first | exact .inl rfl | exact .inr (.inl rfl) | exact .inr (.inr rfl)) (lk rfl rfl rfl) (by decide) (by decide)) (ea_cons ev_int (ea_cons (ev_gint c.n_MOST_FOLK rfl (by decide)) ea_nil rfl) rfl) rfl) (by decide) rfl rfl) rfl)
  (svs_cons (sv_expr (ev_call (ok_need_number c) rfl (hr.mono (by decide)) rfl (takes_of rfl rfl rfl rfl) (ea_cons (ev_var (i := 2) rfl (by first | exact .inl rfl | exact .inr (.inl rfl) | exact .inr (.inr rfl)) (lk rfl rfl rfl) (by decide) (by decide)) (ea_cons ev_int (ea_cons (ev_var (i := 1) rfl (by first | exact .inl rfl | exact .inr (.inl rfl) | exact .inr (.inr rfl)) (lk rfl rfl rfl) (by decide) (by decide)) ea_nil rfl) rfl) rfl) (by decide) rfl rfl) rfl)
  (svs_cons (sv_expr (ev_clsfn (cf_Rule___init__ c) rfl (hr.mono (by decide)) rfl (takes_of rfl rfl rfl rfl) (ea_slot (i := 0) rfl (by first | exact .inl rfl | exact .inr (.inl rfl) | exact .inr (.inr rfl)) (ea_cons (ev_var (i := 1) rfl (by first | exact .inl rfl | exact .inr (.inl rfl) | exact .inr (.inr rfl)) (lk rfl rfl rfl) (by decide) (by decide)) ea_nil rfl) rfl (by decide) (by decide)) (by decide) rfl rfl rfl) rfl)
  (svs_one (sv_setFld (i := 0) (m := 3) rfl (by first | exact .inl rfl | exact .inr (.inl rfl) | exact .inr (.inr rfl)) rfl c.fo_ones (by decide) (by decide) (ev_var (i := 2) rfl (by first | exact .inl rfl | exact .inr (.inl rfl) | exact .inr (.inr rfl)) (lk rfl rfl rfl) (by decide) (by decide)) rfl)))))
/-! ## Split.told -/
theorem sc_Split_told : FnScope ["self"] ["self"] (defScope st_Split_told) := ⟨rfl, rfl, rfl, by decide +kernel, rfl, by decide +kernel, by decide +kernel⟩
def sig_Split_told : Sig := ⟨[.val], false⟩
def g_Split_told : SM := (retM (tupM 3 (consM (cS "split") (consM (fldOwn 0 2 csI) (consM (fldOwn 0 3 csI) nilL)))))
def m_Split_told : Mir := fun ds => resOf sig_Split_told [] (g_Split_told (sd0 sig_Split_told.modes ds 1))
theorem fn_Split_told {f : Addr} {fd : FuncData} (c : Facts P w K mg base) (F : FunD K "told" "Split.told" (defArgs st_Split_told) (defBody st_Split_told) (defScope st_Split_told) [] [] f fd) : FnOk P w K mg base (L2.CX P w) 1 f fd ["self"] (spF (TT K) K sig_Split_told m_Split_told) ∧ Binds K fd ["self"] [] := by
  refine ⟨def_ok (g := g_Split_told) F sc_Split_told rfl (by decide) (fun cdv A outer s H E B hT hmi hpin hex hr => ?_) (fun ds hl hne => rfl), F.bindsN fun _ _ _ _ _ _ us hl => match us, hl with | [_], _ => rfl⟩
  obtain ⟨T2, K2, H02, F02, mi2, ma2, pin2, ex2⟩ := B
  dsimp only at hT hmi hpin hex
  subst hT hmi hpin hex
  exact (svs_one (sv_ret (ev_tup (n := 3) (el_cons ev_str (el_cons (ev_fldOwn (i := 0) (m := 2) rfl (by first | exact .inl rfl | exact .inr (.inl rfl) | exact .inr (.inr rfl)) rfl c.fo_size (by decide) (by decide) rfl) (el_cons (ev_fldOwn (i := 0) (m := 3) rfl (by first | exact .inl rfl | exact .inr (.inl rfl) | exact .inr (.inr rfl)) rfl c.fo_ones (by decide) (by decide) rfl) el_nil rfl) rfl) rfl) (by decide))))
/-! ## Pairs.__init__ -/
theorem sc_Pairs___init__ : FnScope ["self", "pairs", "coin"] ["self", "pairs", "coin"] (defScope st_Pairs___init__) := ⟨rfl, rfl, rfl, by decide +kernel, rfl, by decide +kernel, by decide +kernel⟩
def sig_Pairs___init__ : Sig := ⟨[.chg, .val, .val], false⟩
def g_Pairs___init__ : SM := (seqM (exprM (callM sig_need_number m_need_number (consA (getS 1) (consA (cI 1) (consA (cI 10) nilA)))))
  (seqM (exprM (callM sig_need_coin m_need_coin (consA (getS 2) nilA)))
  (seqM (exprM (callM sig_Rule___init__ m_Rule___init__ (consS 0 (consA (binM gMul (cI 2) (getS 1)) nilA))))
  (setFldM 0 4 csI (getS 2)))))
def m_Pairs___init__ : Mir := fun ds => resOf sig_Pairs___init__ [0] (g_Pairs___init__ (sd0 sig_Pairs___init__.modes ds 3))
theorem fn_Pairs___init__ {f : Addr} {fd : FuncData} (c : Facts P w K mg base) (F : FunD K "__init__" "Pairs.__init__" (defArgs st_Pairs___init__) (defBody st_Pairs___init__) (defScope st_Pairs___init__) [] [] f fd) : FnOk P w K mg base (L2.CX P w) 4 f fd ["self", "pairs", "coin"] (spF (TT K) K sig_Pairs___init__ m_Pairs___init__) ∧ Binds K fd ["self", "pairs", "coin"] [] := by
  refine ⟨def_ok (g := g_Pairs___init__) F sc_Pairs___init__ rfl (by decide) (fun cdv A outer s H E B hT hmi hpin hex hr => ?_) (fun ds hl hne => rfl), F.bindsN fun _ _ _ _ _ _ us hl => match us, hl with | [_, _, _], _ => rfl⟩
  obtain ⟨T2, K2, H02, F02, mi2, ma2, pin2, ex2⟩ := B
  dsimp only at hT hmi hpin hex
  subst hT hmi hpin hex
  exact (svs_cons (sv_expr (ev_call (ok_need_number c) rfl (hr.mono (by decide)) rfl (takes_of rfl rfl rfl rfl) (ea_cons (ev_var (i := 1) rfl (by first | exact .inl rfl | exact .inr (.inl rfl) | exact .inr (.inr rfl)) (lk rfl rfl rfl) (by decide) (by decide)) (ea_cons ev_int (ea_cons (ev_gint c.n_MOST_PAIRS rfl (by decide)) ea_nil rfl) rfl) rfl) (by decide) rfl rfl) rfl)
  (svs_cons (sv_expr (ev_call (ok_need_coin c) rfl (hr.mono (by decide)) rfl (takes_of rfl rfl rfl rfl) (ea_cons (ev_var (i := 2) rfl (by first | exact .inl rfl | exact .inr (.inl rfl) | exact .inr (.inr rfl)) (lk rfl rfl rfl) (by decide) (by decide)) ea_nil rfl) (by decide) rfl rfl) rfl)
  (svs_cons (sv_expr (ev_clsfn (cf_Rule___init__ c) rfl (hr.mono (by decide)) rfl (takes_of rfl rfl rfl rfl) (ea_slot (i := 0) rfl (by first | exact .inl rfl | exact .inr (.inl rfl) | exact .inr (.inr rfl)) (ea_cons (ev_op opv_mulG ev_int (ev_var (i := 1) rfl (by first | exact .inl rfl | exact .inr (.inl rfl) | exact .inr (.inr rfl)) (lk rfl rfl rfl) (by decide) (by decide))) ea_nil rfl) rfl (by decide) (by decide)) (by decide) rfl rfl rfl) rfl)
  (svs_one (sv_setFld (i := 0) (m := 4) rfl (by first | exact .inl rfl | exact .inr (.inl rfl) | exact .inr (.inr rfl)) rfl c.fo_coin (by decide) (by decide) (ev_var (i := 2) rfl (by first | exact .inl rfl | exact .inr (.inl rfl) | exact .inr (.inr rfl)) (lk rfl rfl rfl) (by decide) (by decide)) rfl)))))
/-! ## Pairs.told -/
theorem sc_Pairs_told : FnScope ["self"] ["self"] (defScope st_Pairs_told) := ⟨rfl, rfl, rfl, by decide +kernel, rfl, by decide +kernel, by decide +kernel⟩
def sig_Pairs_told : Sig := ⟨[.val], false⟩
def g_Pairs_told : SM := (retM (tupM 3 (consM (cS "pairs") (consM (binM (gI divOk fun i j => .int (i / j)) (fldOwn 0 2 csI) (cI 2)) (consM (fldOwn 0 4 csI) nilL)))))
def m_Pairs_told : Mir := fun ds => resOf sig_Pairs_told [] (g_Pairs_told (sd0 sig_Pairs_told.modes ds 1))
theorem fn_Pairs_told {f : Addr} {fd : FuncData} (c : Facts P w K mg base) (F : FunD K "told" "Pairs.told" (defArgs st_Pairs_told) (defBody st_Pairs_told) (defScope st_Pairs_told) [] [] f fd) : FnOk P w K mg base (L2.CX P w) 1 f fd ["self"] (spF (TT K) K sig_Pairs_told m_Pairs_told) ∧ Binds K fd ["self"] [] := by
  refine ⟨def_ok (g := g_Pairs_told) F sc_Pairs_told rfl (by decide) (fun cdv A outer s H E B hT hmi hpin hex hr => ?_) (fun ds hl hne => rfl), F.bindsN fun _ _ _ _ _ _ us hl => match us, hl with | [_], _ => rfl⟩
  obtain ⟨T2, K2, H02, F02, mi2, ma2, pin2, ex2⟩ := B
  dsimp only at hT hmi hpin hex
  subst hT hmi hpin hex
  exact (svs_one (sv_ret (ev_tup (n := 3) (el_cons ev_str (el_cons (ev_op opv_divW (ev_fldOwn (i := 0) (m := 2) rfl (by first | exact .inl rfl | exact .inr (.inl rfl) | exact .inr (.inr rfl)) rfl c.fo_size (by decide) (by decide) rfl) ev_int) (el_cons (ev_fldOwn (i := 0) (m := 4) rfl (by first | exact .inl rfl | exact .inr (.inl rfl) | exact .inr (.inr rfl)) rfl c.fo_coin (by decide) (by decide) rfl) el_nil rfl) rfl) rfl) (by decide))))
/-! ## Coins.__init__ -/
theorem sc_Coins___init__ : FnScope ["self", "folk", "coin", "far"] ["self", "folk", "coin", "far"] (defScope st_Coins___init__) := ⟨rfl, rfl, rfl, by decide +kernel, rfl, by decide +kernel, by decide +kernel⟩
def sig_Coins___init__ : Sig := ⟨[.chg, .val, .val, .val], false⟩
def g_Coins___init__ : SM := (seqM (exprM (callM sig_need_number m_need_number (consA (getS 1) (consA (cI 1) (consA (cI 20) nilA)))))
  (seqM (exprM (callM sig_need_coin m_need_coin (consA (getS 2) nilA)))
  (seqM (exprM (callM sig_need_number m_need_number (consA (getS 3) (consA (cI 1) (consA (cI 20) nilA)))))
  (seqM (exprM (callM sig_Rule___init__ m_Rule___init__ (consS 0 (consA (getS 1) nilA))))
  (seqM (setFldM 0 4 csI (getS 2))
  (setFldM 0 5 csI (getS 3)))))))
def m_Coins___init__ : Mir := fun ds => resOf sig_Coins___init__ [0] (g_Coins___init__ (sd0 sig_Coins___init__.modes ds 4))
theorem fn_Coins___init__ {f : Addr} {fd : FuncData} (c : Facts P w K mg base) (F : FunD K "__init__" "Coins.__init__" (defArgs st_Coins___init__) (defBody st_Coins___init__) (defScope st_Coins___init__) [] [] f fd) : FnOk P w K mg base (L2.CX P w) 4 f fd ["self", "folk", "coin", "far"] (spF (TT K) K sig_Coins___init__ m_Coins___init__) ∧ Binds K fd ["self", "folk", "coin", "far"] [] := by
  refine ⟨def_ok (g := g_Coins___init__) F sc_Coins___init__ rfl (by decide) (fun cdv A outer s H E B hT hmi hpin hex hr => ?_) (fun ds hl hne => rfl), F.bindsN fun _ _ _ _ _ _ us hl => match us, hl with | [_, _, _, _], _ => rfl⟩
  obtain ⟨T2, K2, H02, F02, mi2, ma2, pin2, ex2⟩ := B
  dsimp only at hT hmi hpin hex
  subst hT hmi hpin hex
  exact (svs_cons (sv_expr (ev_call (ok_need_number c) rfl (hr.mono (by decide)) rfl (takes_of rfl rfl rfl rfl) (ea_cons (ev_var (i := 1) rfl (by first | exact .inl rfl | exact .inr (.inl rfl) | exact .inr (.inr rfl)) (lk rfl rfl rfl) (by decide) (by decide)) (ea_cons ev_int (ea_cons (ev_gint c.n_MOST_FOLK rfl (by decide)) ea_nil rfl) rfl) rfl) (by decide) rfl rfl) rfl)
  (svs_cons (sv_expr (ev_call (ok_need_coin c) rfl (hr.mono (by decide)) rfl (takes_of rfl rfl rfl rfl) (ea_cons (ev_var (i := 2) rfl (by first | exact .inl rfl | exact .inr (.inl rfl) | exact .inr (.inr rfl)) (lk rfl rfl rfl) (by decide) (by decide)) ea_nil rfl) (by decide) rfl rfl) rfl)
  (svs_cons (sv_expr (ev_call (ok_need_number c) rfl (hr.mono (by decide)) rfl (takes_of rfl rfl rfl rfl) (ea_cons (ev_var (i := 3) rfl (by first | exact .inl rfl | exact .inr (.inl rfl) | exact .inr (.inr rfl)) (lk rfl rfl rfl) (by decide) (by decide)) (ea_cons ev_int (ea_cons (ev_gint c.n_MOST_FOLK rfl (by decide)) ea_nil rfl) rfl) rfl) (by decide) rfl rfl) rfl)
  (svs_cons (sv_expr (ev_clsfn (cf_Rule___init__ c) rfl (hr.mono (by decide)) rfl (takes_of rfl rfl rfl rfl) (ea_slot (i := 0) rfl (by first | exact .inl rfl | exact .inr (.inl rfl) | exact .inr (.inr rfl)) (ea_cons (ev_var (i := 1) rfl (by first | exact .inl rfl | exact .inr (.inl rfl) | exact .inr (.inr rfl)) (lk rfl rfl rfl) (by decide) (by decide)) ea_nil rfl) rfl (by decide) (by decide)) (by decide) rfl rfl rfl) rfl)
  (svs_cons (sv_setFld (i := 0) (m := 4) rfl (by first | exact .inl rfl | exact .inr (.inl rfl) | exact .inr (.inr rfl)) rfl c.fo_coin (by decide) (by decide) (ev_var (i := 2) rfl (by first | exact .inl rfl | exact .inr (.inl rfl) | exact .inr (.inr rfl)) (lk rfl rfl rfl) (by decide) (by decide)) rfl)
  (svs_one (sv_setFld (i := 0) (m := 5) rfl (by first | exact .inl rfl | exact .inr (.inl rfl) | exact .inr (.inr rfl)) rfl c.fo_far (by decide) (by decide) (ev_var (i := 3) rfl (by first | exact .inl rfl | exact .inr (.inl rfl) | exact .inr (.inr rfl)) (lk rfl rfl rfl) (by decide) (by decide)) rfl)))))))
/-! ## Coins.told -/
theorem sc_Coins_told : FnScope ["self"] ["self"] (defScope st_Coins_told) := ⟨rfl, rfl, rfl, by decide +kernel, rfl, by decide +kernel, by decide +kernel⟩
def sig_Coins_told : Sig := ⟨[.val], false⟩
def g_Coins_told : SM := (retM (tupM 4 (consM (cS "coins") (consM (fldOwn 0 2 csI) (consM (fldOwn 0 4 csI) (consM (fldOwn 0 5 csI) nilL))))))
def m_Coins_told : Mir := fun ds => resOf sig_Coins_told [] (g_Coins_told (sd0 sig_Coins_told.modes ds 1))
theorem fn_Coins_told {f : Addr} {fd : FuncData} (c : Facts P w K mg base) (F : FunD K "told" "Coins.told" (defArgs st_Coins_told) (defBody st_Coins_told) (defScope st_Coins_told) [] [] f fd) : FnOk P w K mg base (L2.CX P w) 1 f fd ["self"] (spF (TT K) K sig_Coins_told m_Coins_told) ∧ Binds K fd ["self"] [] := by
  refine ⟨def_ok (g := g_Coins_told) F sc_Coins_told rfl (by decide) (fun cdv A outer s H E B hT hmi hpin hex hr => ?_) (fun ds hl hne => rfl), F.bindsN fun _ _ _ _ _ _ us hl => match us, hl with | [_], _ => rfl⟩
  obtain ⟨T2, K2, H02, F02, mi2, ma2, pin2, ex2⟩ := B
  dsimp only at hT hmi hpin hex
  subst hT hmi hpin hex
  exact (svs_one (sv_ret (ev_tup (n := 4) (el_cons ev_str (el_cons (ev_fldOwn (i := 0) (m := 2) rfl (by first | exact .inl rfl | exact .inr (.inl rfl) | exact .inr (.inr rfl)) rfl c.fo_size (by decide) (by decide) rfl) (el_cons (ev_fldOwn (i := 0) (m := 4) rfl (by first | exact .inl rfl | exact .inr (.inl rfl) | exact .inr (.inr rfl)) rfl c.fo_coin (by decide) (by decide) rfl) (el_cons (ev_fldOwn (i := 0) (m := 5) rfl (by first | exact .inl rfl | exact .inr (.inl rfl) | exact .inr (.inr rfl)) rfl c.fo_far (by decide) (by decide) rfl) el_nil rfl) rfl) rfl) rfl) (by decide))))
def sigA_Split : Sig := ⟨[.val, .val], false⟩
theorem mk_Split (c : Facts P w K mg base) : MakeOk P w K mg base (TT K) "Split" 3 sigA_Split m_Split___init__ 4 := by
  obtain ⟨fd, F⟩ := c.d_Split___init__
  obtain ⟨h1, h2⟩ := fn_Split___init__ c F
  exact ⟨_, _, fd, _, rfl, c.g_Split, c.mk_Split, h1, h2⟩
def sigA_Pairs : Sig := ⟨[.val, .val], false⟩
theorem mk_Pairs (c : Facts P w K mg base) : MakeOk P w K mg base (TT K) "Pairs" 4 sigA_Pairs m_Pairs___init__ 4 := by
  obtain ⟨fd, F⟩ := c.d_Pairs___init__
  obtain ⟨h1, h2⟩ := fn_Pairs___init__ c F
  exact ⟨_, _, fd, _, rfl, c.g_Pairs, c.mk_Pairs, h1, h2⟩
def sigA_Coins : Sig := ⟨[.val, .val, .val], false⟩
theorem mk_Coins (c : Facts P w K mg base) : MakeOk P w K mg base (TT K) "Coins" 5 sigA_Coins m_Coins___init__ 4 := by
  obtain ⟨fd, F⟩ := c.d_Coins___init__
  obtain ⟨h1, h2⟩ := fn_Coins___init__ c F
  exact ⟨_, _, fd, _, rfl, c.g_Coins, c.mk_Coins, h1, h2⟩
def mt_told : List (Nat × Mir) := [(3, m_Split_told), (4, m_Pairs_told), (5, m_Coins_told)]
def sigM_told : Sig := sig_Split_told
theorem mo_told (c : Facts P w K mg base) {A : Around} (hr : Room 1 A) : ∀ cc mir, mt_told.lookup cc = some mir → ∃ k, MethOk P w K mg base (TT K) cc "told" sigM_told mir k ∧ Room k A := by
  intro cc mir h
  unfold mt_told at h
  simp only [List.lookup_cons, List.lookup_nil] at h
  split at h
  · rename_i e
    obtain rfl : cc = 3 := by simpa using e
    cases h
    obtain ⟨fd, F⟩ := c.d_Split_told
    obtain ⟨h1, h2⟩ := fn_Split_told c F
    exact ⟨_, ⟨_, _, fd, _, rfl, c.cls_Split, c.me_Split_told, h1, h2⟩, hr.mono (by decide)⟩
  split at h
  · rename_i e
    obtain rfl : cc = 4 := by simpa using e
    cases h
    obtain ⟨fd, F⟩ := c.d_Pairs_told
    obtain ⟨h1, h2⟩ := fn_Pairs_told c F
    exact ⟨_, ⟨_, _, fd, _, rfl, c.cls_Pairs, c.me_Pairs_told, h1, h2⟩, hr.mono (by decide)⟩
  split at h
  · rename_i e
    obtain rfl : cc = 5 := by simpa using e
    cases h
    obtain ⟨fd, F⟩ := c.d_Coins_told
    obtain ⟨h1, h2⟩ := fn_Coins_told c F
    exact ⟨_, ⟨_, _, fd, _, rfl, c.cls_Coins, c.me_Coins_told, h1, h2⟩, hr.mono (by decide)⟩
  cases h
def mt_folk : List (Nat × Mir) := [(3, m_Rule_folk), (4, m_Rule_folk), (5, m_Rule_folk)]
def sigM_folk : Sig := sig_Rule_folk
theorem mo_folk (c : Facts P w K mg base) {A : Around} (hr : Room 1 A) : ∀ cc mir, mt_folk.lookup cc = some mir → ∃ k, MethOk P w K mg base (TT K) cc "folk" sigM_folk mir k ∧ Room k A := by
  intro cc mir h
  unfold mt_folk at h
  simp only [List.lookup_cons, List.lookup_nil] at h
  split at h
  · rename_i e
    obtain rfl : cc = 3 := by simpa using e
    cases h
    obtain ⟨fd, F⟩ := c.d_Split_folk
    obtain ⟨h1, h2⟩ := fn_Rule_folk c F
    exact ⟨_, ⟨_, _, fd, _, rfl, c.cls_Split, c.me_Split_folk, h1, h2⟩, hr.mono (by decide)⟩
  split at h
  · rename_i e
    obtain rfl : cc = 4 := by simpa using e
    cases h
    obtain ⟨fd, F⟩ := c.d_Pairs_folk
    obtain ⟨h1, h2⟩ := fn_Rule_folk c F
    exact ⟨_, ⟨_, _, fd, _, rfl, c.cls_Pairs, c.me_Pairs_folk, h1, h2⟩, hr.mono (by decide)⟩
  split at h
  · rename_i e
    obtain rfl : cc = 5 := by simpa using e
    cases h
    obtain ⟨fd, F⟩ := c.d_Coins_folk
    obtain ⟨h1, h2⟩ := fn_Rule_folk c F
    exact ⟨_, ⟨_, _, fd, _, rfl, c.cls_Coins, c.me_Coins_folk, h1, h2⟩, hr.mono (by decide)⟩
  cases h
/-! ## the function made by split_maker -/
theorem sc_site0 : NdefX.NScope ["folk"] ["folk"] [] site0.scope := NdefX.nscope_by (by decide +kernel)
/-! ## the function made by pairs_maker -/
theorem sc_site1 : NdefX.NScope ["folk", "first", "half", "left"] ["folk"] ["first"] site1.scope := NdefX.nscope_by (by decide +kernel)
/-! ## the function made by coins_maker -/
theorem sc_site2 : NdefX.NScope ["folk", "first"] ["folk"] ["first"] site2.scope := NdefX.nscope_by (by decide +kernel)
def g_site0 : EM := (makeM 3 sigA_Split m_Split___init__ (consA (getS 0) (consA (binM (gI divOk fun i j => .int (i / j)) (getS 0) (cI 2)) nilA)))
def mc_site0 (cs ds : List D) : Res := resE (g_site0 (sd0 (List.replicate (ds ++ cs).length .val) (ds ++ cs) 1))
theorem clo_site0 (c : Facts P w K mg base) : CloOk P w K mg base (TT K) 0 mc_site0 6 1 := by
  refine clo_lam (ps := ["folk"]) (N := ["folk"]) (st := site0) (g := g_site0) rfl rfl sc_site0 (fun nf doc pm ctv us hp hl => by
    obtain ⟨n1, n2, n3, n4, n5, n6, n7⟩ := nf
    dsimp only at hp
    subst hp
    match us, hl with
    | [_], _ => rfl) (fun name qual cl cc f A outer s H B hT hmi hpin hex hr => ?_) (fun cs ds h1 h2 h3 => rfl)
  · obtain ⟨T2, K2, H02, F02, mi2, ma2, pin2, ex2⟩ := B
    dsimp only at hT hmi hpin hex
    subst hT hmi hpin hex
    exact (EV.ofNew (eo_make (mk_Split c) (hr.mono (by decide)) rfl (takes_of rfl rfl rfl rfl) (ea_cons (ev_var (i := 0) rfl (by first | exact .inl rfl | exact .inr (.inl rfl) | exact .inr (.inr rfl)) (lk rfl rfl rfl) (by decide) (by decide)) (ea_cons (ev_op opv_divW (ev_var (i := 0) rfl (by first | exact .inl rfl | exact .inr (.inl rfl) | exact .inr (.inr rfl)) (lk rfl rfl rfl) (by decide) (by decide)) ev_int) ea_nil rfl) rfl) (by decide) rfl rfl))
def g_site1 : SM := (seqM (asgM (gTp (gsCons (gNm 2) (gsCons (gNm 3) gsNil))) (binM (gI okDm gDivmod) (getS 0) (cI 2)))
  (seqM (ifM (boolM (binM gEqT (getS 3) (cI 1)))
  (retM cN)
  (fun s => .next s))
  (retM (makeM 4 sigA_Pairs m_Pairs___init__ (consA (getS 2) (consA (fldOwn 1 4 csI) nilA))))))
def mc_site1 (cs ds : List D) : Res := resOf ⟨[], false⟩ [] (g_site1 (sd0 (List.replicate (ds ++ cs).length .val) (ds ++ cs) 4))
theorem clo_site1 (c : Facts P w K mg base) : CloOk P w K mg base (TT K) 1 mc_site1 6 1 := by
  refine clo_stmts (ps := ["folk"]) (N := ["folk", "first", "half", "left"]) (st := site1) (g := g_site1) rfl rfl sc_site1 (fun nf doc pm ctv us hp hl => by
    obtain ⟨n1, n2, n3, n4, n5, n6, n7⟩ := nf
    dsimp only at hp
    subst hp
    match us, hl with
    | [_], _ => rfl) (fun name qual cl cc f A outer s H B hT hmi hpin hex hr => ?_) (fun cs ds h1 h2 h3 => rfl)
  · obtain ⟨T2, K2, H02, F02, mi2, ma2, pin2, ex2⟩ := B
    dsimp only at hT hmi hpin hex
    subst hT hmi hpin hex
    exact (svs_cons (sv_asg (eg_tup (n := 2) rfl (egs_cons (eg_name (i := 2) sc_site1.nd rfl (by first | exact .inl rfl | exact .inr rfl) (lk rfl rfl rfl) (by first | exact .inl rfl | exact .inr rfl)) (egs_cons (eg_name (i := 3) sc_site1.nd rfl (by first | exact .inl rfl | exact .inr rfl) (lk rfl rfl rfl) (by first | exact .inl rfl | exact .inr rfl)) egs_nil rfl) rfl) (gsCons_len (gsCons_len gsNil_len)) rfl rfl) (ev_divmod rfl c.b_divmod (ev_var (i := 0) rfl (by first | exact .inl rfl | exact .inr (.inl rfl) | exact .inr (.inr rfl)) (lk rfl rfl rfl) (by decide) (by decide)) ev_int rfl rfl rfl) rfl rfl rfl)
  (svs_cons (sv_if (et_cmp (opv_eqT hr.eqs) (ev_var (i := 3) rfl (by first | exact .inl rfl | exact .inr (.inl rfl) | exact .inr (.inr rfl)) (lk rfl rfl rfl) (by decide) (by decide)) ev_int rfl)
  (svs_one (sv_ret ev_non))
  svs_nil)
  (svs_one (sv_ret (EV.ofNew (eo_make (mk_Pairs c) (hr.mono (by decide)) rfl (takes_of rfl rfl rfl rfl) (ea_cons (ev_var (i := 2) rfl (by first | exact .inl rfl | exact .inr (.inl rfl) | exact .inr (.inr rfl)) (lk rfl rfl rfl) (by decide) (by decide)) (ea_cons (ev_fldOwn (i := 1) (m := 4) rfl (by first | exact .inl rfl | exact .inr (.inl rfl) | exact .inr (.inr rfl)) rfl c.fo_coin (by decide) (by decide) rfl) ea_nil rfl) rfl) (by decide) rfl rfl))))))
def g_site2 : EM := (makeM 5 sigA_Coins m_Coins___init__ (consA (getS 0) (consA (fldOwn 1 4 csI) (consA (fldOwn 1 5 csI) nilA))))
def mc_site2 (cs ds : List D) : Res := resE (g_site2 (sd0 (List.replicate (ds ++ cs).length .val) (ds ++ cs) 2))
theorem clo_site2 (c : Facts P w K mg base) : CloOk P w K mg base (TT K) 2 mc_site2 6 1 := by
  refine clo_lam (ps := ["folk"]) (N := ["folk", "first"]) (st := site2) (g := g_site2) rfl rfl sc_site2 (fun nf doc pm ctv us hp hl => by
    obtain ⟨n1, n2, n3, n4, n5, n6, n7⟩ := nf
    dsimp only at hp
    subst hp
    match us, hl with
    | [_], _ => rfl) (fun name qual cl cc f A outer s H B hT hmi hpin hex hr => ?_) (fun cs ds h1 h2 h3 => rfl)
  · obtain ⟨T2, K2, H02, F02, mi2, ma2, pin2, ex2⟩ := B
    dsimp only at hT hmi hpin hex
    subst hT hmi hpin hex
    exact (EV.ofNew (eo_make (mk_Coins c) (hr.mono (by decide)) rfl (takes_of rfl rfl rfl rfl) (ea_cons (ev_var (i := 0) rfl (by first | exact .inl rfl | exact .inr (.inl rfl) | exact .inr (.inr rfl)) (lk rfl rfl rfl) (by decide) (by decide)) (ea_cons (ev_fldOwn (i := 1) (m := 4) rfl (by first | exact .inl rfl | exact .inr (.inl rfl) | exact .inr (.inr rfl)) rfl c.fo_coin (by decide) (by decide) rfl) (ea_cons (ev_fldOwn (i := 1) (m := 5) rfl (by first | exact .inl rfl | exact .inr (.inl rfl) | exact .inr (.inr rfl)) rfl c.fo_far (by decide) (by decide) rfl) ea_nil rfl) rfl) rfl) (by decide) rfl rfl))
def mirC : Nat → List D → List D → Res := fun c => match c with | 0 => mc_site0 | 1 => mc_site1 | 2 => mc_site2 | _ => fun _ _ => .stuck
theorem clos_0_1_2 (c : Facts P w K mg base) : ∀ cc ∈ [0, 1, 2], CloOk P w K mg base (TT K) cc (mirC cc) 6 1 := by
  intro cc h
  simp only [List.mem_cons, List.not_mem_nil, or_false] at h
  rcases h with rfl | rfl | rfl
  · exact (clo_site0 c).mono (by decide)
  · exact (clo_site1 c).mono (by decide)
  · exact (clo_site2 c).mono (by decide)
/-! ## split_maker -/
theorem sc_split_maker : FnScope [] [] (defScope st_split_maker) := ⟨rfl, rfl, rfl, by decide +kernel, rfl, by decide +kernel, by decide +kernel⟩
def sig_split_maker : Sig := ⟨[], false⟩
theorem nf_0 : NdefX.ndefB (defScope st_split_maker) site0.scope [] = true := by decide +kernel
def g_split_maker : SM := (fun s => .next s)
def m_split_maker : Mir := fun ds => resC 0 [] (g_split_maker (sd0 sig_split_maker.modes ds 0))
theorem ok_split_maker (c : Facts P w K mg base) : DefOk P w K mg base (TT K) "split_maker" sig_split_maker m_split_maker 1 := by
  obtain ⟨fd, F⟩ := c.d_split_maker
  have TB := c.t_split_maker
  have hm : ((He.cT K ("split_maker", none)).2, nm_split_maker) ∈ (TT K).tb := List.mem_of_getElem? (i := 0) rfl
  have hu : ∀ p ∈ (TT K).tb, p.1 = (He.cT K ("split_maker", none)).2 → p.2 = nm_split_maker := c.hu_split_maker
  refine ⟨_, fd, _, c.g_split_maker, maker_ok (c := 0) (st := site0) (js := []) (g := g_split_maker) F sc_split_maker rfl (by decide) rfl rfl rfl rfl (by decide) (by decide +kernel) (by decide +kernel) (fun cdv A outer s H E B hcd hT hmi hpin hex hr => ?_) (fun ds hl hne => rfl), F.kp, F.bindsN fun _ _ _ _ _ _ us hl => match us, hl with | [], _ => rfl⟩
  have hcode : cdv = .ref (He.cT K ("split_maker", none)).1 := by
    obtain ⟨oc, od, dV, kV, doc, pm, an, cdv2, ct, osl, e1, lk, _⟩ := F.ex
    rw [← hcd]
    exact c.k_split_maker _ _ _ _ lk
  obtain ⟨T2, K2, H02, F02, mi2, ma2, pin2, ex2⟩ := B
  dsimp only at hT hmi hpin hex
  subst hT hmi hpin hex
  exact (mk_last (last_lam TB hcode hm hu rfl rfl (NdefX.ndef_free nf_0) rfl rfl rfl))
/-! ## pairs_maker -/
theorem sc_pairs_maker : FnScope ["coin", "first", "made"] ["coin"] (defScope st_pairs_maker) := ⟨rfl, rfl, rfl, by decide +kernel, rfl, by decide +kernel, by decide +kernel⟩
def sig_pairs_maker : Sig := ⟨[.val], false⟩
theorem nf_1 : NdefX.ndefB (defScope st_pairs_maker) site1.scope ["first"] = true := by decide +kernel
def g_pairs_maker : SM := (seqM (setOM 1 (makeM 4 sigA_Pairs m_Pairs___init__ (consA (cI 1) (consA (getS 0) nilA)))) (fun s => .next s))
def m_pairs_maker : Mir := fun ds => resC 1 [1] (g_pairs_maker (sd0 sig_pairs_maker.modes ds 3))
theorem ok_pairs_maker (c : Facts P w K mg base) : DefOk P w K mg base (TT K) "pairs_maker" sig_pairs_maker m_pairs_maker 6 := by
  obtain ⟨fd, F⟩ := c.d_pairs_maker
  have TB := c.t_pairs_maker
  have hm : ((He.cT K ("pairs_maker", none)).2, nm_pairs_maker) ∈ (TT K).tb := List.mem_of_getElem? (i := 1) rfl
  have hu : ∀ p ∈ (TT K).tb, p.1 = (He.cT K ("pairs_maker", none)).2 → p.2 = nm_pairs_maker := c.hu_pairs_maker
  refine ⟨_, fd, _, c.g_pairs_maker, maker_ok (c := 1) (st := site1) (js := [1]) (g := g_pairs_maker) F sc_pairs_maker rfl (by decide) rfl rfl rfl rfl (by decide) (by decide +kernel) (by decide +kernel) (fun cdv A outer s H E B hcd hT hmi hpin hex hr => ?_) (fun ds hl hne => rfl), F.kp, F.bindsN fun _ _ _ _ _ _ us hl => match us, hl with | [_], _ => rfl⟩
  have hcode : cdv = .ref (He.cT K ("pairs_maker", none)).1 := by
    obtain ⟨oc, od, dV, kV, doc, pm, an, cdv2, ct, osl, e1, lk, _⟩ := F.ex
    rw [← hcd]
    exact c.k_pairs_maker _ _ _ _ lk
  obtain ⟨T2, K2, H02, F02, mi2, ma2, pin2, ex2⟩ := B
  dsimp only at hT hmi hpin hex
  subst hT hmi hpin hex
  exact (mk_cons (sv_setO (i := 1) sc_pairs_maker.nd rfl (by first | exact .inl rfl | exact .inr rfl) (lk rfl rfl rfl) (eo_make (mk_Pairs c) (hr.mono (by decide)) rfl (takes_of rfl rfl rfl rfl) (ea_cons ev_int (ea_cons (ev_var (i := 0) rfl (by first | exact .inl rfl | exact .inr (.inl rfl) | exact .inr (.inr rfl)) (lk rfl rfl rfl) (by decide) (by decide)) ea_nil rfl) rfl) (by decide) rfl rfl) rfl (by first | exact .inl rfl | exact .inr rfl)) (mk_last (last_def (i := 2) TB hcode hm hu rfl rfl rfl rfl (NdefX.ndef_free nf_1) rfl rfl rfl sc_pairs_maker.nd rfl (.inl rfl) (.inl rfl) (by decide) (by decide) (by decide))))
/-! ## coins_maker -/
theorem sc_coins_maker : FnScope ["coin", "far", "first"] ["coin", "far"] (defScope st_coins_maker) := ⟨rfl, rfl, rfl, by decide +kernel, rfl, by decide +kernel, by decide +kernel⟩
def sig_coins_maker : Sig := ⟨[.val, .val], false⟩
theorem nf_2 : NdefX.ndefB (defScope st_coins_maker) site2.scope ["first"] = true := by decide +kernel
def g_coins_maker : SM := (seqM (setOM 2 (makeM 5 sigA_Coins m_Coins___init__ (consA (cI 1) (consA (getS 0) (consA (getS 1) nilA))))) (fun s => .next s))
def m_coins_maker : Mir := fun ds => resC 2 [2] (g_coins_maker (sd0 sig_coins_maker.modes ds 3))
theorem ok_coins_maker (c : Facts P w K mg base) : DefOk P w K mg base (TT K) "coins_maker" sig_coins_maker m_coins_maker 6 := by
  obtain ⟨fd, F⟩ := c.d_coins_maker
  have TB := c.t_coins_maker
  have hm : ((He.cT K ("coins_maker", none)).2, nm_coins_maker) ∈ (TT K).tb := List.mem_of_getElem? (i := 2) rfl
  have hu : ∀ p ∈ (TT K).tb, p.1 = (He.cT K ("coins_maker", none)).2 → p.2 = nm_coins_maker := c.hu_coins_maker
  refine ⟨_, fd, _, c.g_coins_maker, maker_ok (c := 2) (st := site2) (js := [2]) (g := g_coins_maker) F sc_coins_maker rfl (by decide) rfl rfl rfl rfl (by decide) (by decide +kernel) (by decide +kernel) (fun cdv A outer s H E B hcd hT hmi hpin hex hr => ?_) (fun ds hl hne => rfl), F.kp, F.bindsN fun _ _ _ _ _ _ us hl => match us, hl with | [_, _], _ => rfl⟩
  have hcode : cdv = .ref (He.cT K ("coins_maker", none)).1 := by
    obtain ⟨oc, od, dV, kV, doc, pm, an, cdv2, ct, osl, e1, lk, _⟩ := F.ex
    rw [← hcd]
    exact c.k_coins_maker _ _ _ _ lk
  obtain ⟨T2, K2, H02, F02, mi2, ma2, pin2, ex2⟩ := B
  dsimp only at hT hmi hpin hex
  subst hT hmi hpin hex
  exact (mk_cons (sv_setO (i := 2) sc_coins_maker.nd rfl (by first | exact .inl rfl | exact .inr rfl) (lk rfl rfl rfl) (eo_make (mk_Coins c) (hr.mono (by decide)) rfl (takes_of rfl rfl rfl rfl) (ea_cons ev_int (ea_cons (ev_var (i := 0) rfl (by first | exact .inl rfl | exact .inr (.inl rfl) | exact .inr (.inr rfl)) (lk rfl rfl rfl) (by decide) (by decide)) (ea_cons (ev_var (i := 1) rfl (by first | exact .inl rfl | exact .inr (.inl rfl) | exact .inr (.inr rfl)) (lk rfl rfl rfl) (by decide) (by decide)) ea_nil rfl) rfl) rfl) (by decide) rfl rfl) rfl (by first | exact .inl rfl | exact .inr rfl)) (mk_last (last_lam TB hcode hm hu rfl rfl (NdefX.ndef_free nf_2) rfl rfl rfl)))
/-! ## _law_cell -/
theorem sc__law_cell : FnScope ["_law_script", "_law_k"] ["_law_script", "_law_k"] (defScope st__law_cell) := ⟨rfl, rfl, rfl, by decide +kernel, rfl, by decide +kernel, by decide +kernel⟩
def sig__law_cell : Sig := ⟨[.val, .val], false⟩
def g__law_cell : SM := (seqM (ifM (boolM (binM (gI yes fun i j => .bl (decide (i < j))) (getS 1) (peekM 0 gLen)))
  (retM (ixOwn 0 (getS 1)))
  (fun s => .next s))
  (retM (binM gAdd (binM gMul (cI 7919) (getS 1)) (cI 31))))
def m__law_cell : Mir := fun ds => resOf sig__law_cell [] (g__law_cell (sd0 sig__law_cell.modes ds 2))
theorem fn__law_cell {f : Addr} {fd : FuncData} (c : Facts P w K mg base) (F : FunD K "_law_cell" "_law_cell" (defArgs st__law_cell) (defBody st__law_cell) (defScope st__law_cell) [] [] f fd) : FnOk P w K mg base (L2.CX P w) 1 f fd ["_law_script", "_law_k"] (spF (TT K) K sig__law_cell m__law_cell) ∧ Binds K fd ["_law_script", "_law_k"] [] := by
  refine ⟨def_ok (g := g__law_cell) F sc__law_cell rfl (by decide) (fun cdv A outer s H E B hT hmi hpin hex hr => ?_) (fun ds hl hne => rfl), F.bindsN fun _ _ _ _ _ _ us hl => match us, hl with | [_, _], _ => rfl⟩
  obtain ⟨T2, K2, H02, F02, mi2, ma2, pin2, ex2⟩ := B
  dsimp only at hT hmi hpin hex
  subst hT hmi hpin hex
  exact (svs_cons (sv_if (et_cmp opv_lt (ev_var (i := 1) rfl (by first | exact .inl rfl | exact .inr (.inl rfl) | exact .inr (.inr rfl)) (lk rfl rfl rfl) (by decide) (by decide)) (ev_bltS blt_len rfl c.b_len (by decide +kernel) (i := 0) rfl (by first | exact .inl rfl | exact .inr (.inl rfl) | exact .inr (.inr rfl)) (by decide) (by decide) (by decide) (by decide) rfl rfl) rfl)
  (svs_one (sv_ret (ev_ixOwn (i := 0) rfl (by first | exact .inl rfl | exact .inr (.inl rfl) | exact .inr (.inr rfl)) (ev_var (i := 1) rfl (by first | exact .inl rfl | exact .inr (.inl rfl) | exact .inr (.inr rfl)) (lk rfl rfl rfl) (by decide) (by decide)) (fun _ _ => rfl) (by decide) (by decide))))
  svs_nil)
  (svs_one (sv_ret (ev_op opv_add (ev_op opv_mulG ev_int (ev_var (i := 1) rfl (by first | exact .inl rfl | exact .inr (.inl rfl) | exact .inr (.inr rfl)) (lk rfl rfl rfl) (by decide) (by decide))) ev_int))))
theorem ok__law_cell (c : Facts P w K mg base) : DefOk P w K mg base (TT K) "_law_cell" sig__law_cell m__law_cell 1 := by
  obtain ⟨fd, F⟩ := c.d__law_cell
  obtain ⟨h1, h2⟩ := fn__law_cell c F
  exact ⟨_, fd, _, c.g__law_cell, h1, F.kp, h2⟩
/-! ## _law_mix -/
theorem sc__law_mix : FnScope ["_law_cell_here", "_law_k", "_law_number"] ["_law_cell_here", "_law_k"] (defScope st__law_mix) := ⟨rfl, rfl, rfl, by decide +kernel, rfl, by decide +kernel, by decide +kernel⟩
def sig__law_mix : Sig := ⟨[.val, .val], false⟩
def g__law_mix : SM := (seqM (setM 2 (binM (gI (fun _ j => decide (0 < j)) fun i j => .int (i % j)) (binM gAdd (binM gAdd (getS 0) (binM gMul (cI 7919) (getS 1))) (cI 12345)) (cI 2147483629)))
  (seqM (setM 2 (binM (gI (fun _ j => decide (0 < j)) fun i j => .int (i % j)) (binM gMul (binM (gI (fun _ j => decide (0 < j)) fun i j => .int (i % j)) (binM gMul (getS 2) (getS 2)) (cI 2147483587)) (cI 48271)) (cI 2147483549)))
  (retM (binM (gI divOk fun i j => .int (i / j)) (binM (gI (fun _ j => decide (0 < j)) fun i j => .int (i % j)) (binM gMul (getS 2) (binM gAdd (getS 2) (cI 31))) (cI 2147483543)) (cI 8)))))
def m__law_mix : Mir := fun ds => resOf sig__law_mix [] (g__law_mix (sd0 sig__law_mix.modes ds 3))
theorem fn__law_mix {f : Addr} {fd : FuncData} (c : Facts P w K mg base) (F : FunD K "_law_mix" "_law_mix" (defArgs st__law_mix) (defBody st__law_mix) (defScope st__law_mix) [] [] f fd) : FnOk P w K mg base (L2.CX P w) 1 f fd ["_law_cell_here", "_law_k"] (spF (TT K) K sig__law_mix m__law_mix) ∧ Binds K fd ["_law_cell_here", "_law_k"] [] := by
  refine ⟨def_ok (g := g__law_mix) F sc__law_mix rfl (by decide) (fun cdv A outer s H E B hT hmi hpin hex hr => ?_) (fun ds hl hne => rfl), F.bindsN fun _ _ _ _ _ _ us hl => match us, hl with | [_, _], _ => rfl⟩
  obtain ⟨T2, K2, H02, F02, mi2, ma2, pin2, ex2⟩ := B
  dsimp only at hT hmi hpin hex
  subst hT hmi hpin hex
  exact (svs_cons (sv_set (i := 2) sc__law_mix.nd rfl (by first | exact .inl rfl | exact .inr rfl) (lk rfl rfl rfl) (ev_op opv_mod (ev_op opv_add (ev_op opv_add (ev_var (i := 0) rfl (by first | exact .inl rfl | exact .inr (.inl rfl) | exact .inr (.inr rfl)) (lk rfl rfl rfl) (by decide) (by decide)) (ev_op opv_mulG ev_int (ev_var (i := 1) rfl (by first | exact .inl rfl | exact .inr (.inl rfl) | exact .inr (.inr rfl)) (lk rfl rfl rfl) (by decide) (by decide)))) ev_int) ev_int) rfl (by first | exact .inl rfl | exact .inr rfl))
  (svs_cons (sv_set (i := 2) sc__law_mix.nd rfl (by first | exact .inl rfl | exact .inr rfl) (lk rfl rfl rfl) (ev_op opv_mod (ev_op opv_mulG (ev_op opv_mod (ev_op opv_mulG (ev_var (i := 2) rfl (by first | exact .inl rfl | exact .inr (.inl rfl) | exact .inr (.inr rfl)) (lk rfl rfl rfl) (by decide) (by decide)) (ev_var (i := 2) rfl (by first | exact .inl rfl | exact .inr (.inl rfl) | exact .inr (.inr rfl)) (lk rfl rfl rfl) (by decide) (by decide))) ev_int) ev_int) ev_int) rfl (by first | exact .inl rfl | exact .inr rfl))
  (svs_one (sv_ret (ev_op opv_divW (ev_op opv_mod (ev_op opv_mulG (ev_var (i := 2) rfl (by first | exact .inl rfl | exact .inr (.inl rfl) | exact .inr (.inr rfl)) (lk rfl rfl rfl) (by decide) (by decide)) (ev_op opv_add (ev_var (i := 2) rfl (by first | exact .inl rfl | exact .inr (.inl rfl) | exact .inr (.inr rfl)) (lk rfl rfl rfl) (by decide) (by decide)) ev_int)) ev_int) ev_int)))))
theorem ok__law_mix (c : Facts P w K mg base) : DefOk P w K mg base (TT K) "_law_mix" sig__law_mix m__law_mix 1 := by
  obtain ⟨fd, F⟩ := c.d__law_mix
  obtain ⟨h1, h2⟩ := fn__law_mix c F
  exact ⟨_, fd, _, c.g__law_mix, h1, F.kp, h2⟩
/-! ## _law_begun -/
theorem sc__law_begun : FnScope ["_law_cell_here"] ["_law_cell_here"] (defScope st__law_begun) := ⟨rfl, rfl, rfl, by decide +kernel, rfl, by decide +kernel, by decide +kernel⟩
def sig__law_begun : Sig := ⟨[.val], true⟩
def g__law_begun : SM := (retO (lstM 3 (consM (max2M (cI 0) (binM (gI yes fun i j => .int (i - j)) (getS 0) (binM (gI (fun i j => decide (0 ≤ j ∧ j ≤ 1000 ∧ i.natAbs < 1000)) fun i j => .int (i ^ j.toNat)) (cI 10) (cI 18)))) (consM (binM (gI (fun _ j => decide (0 < j)) fun i j => .int (i % j)) (getS 0) (cI 2147483629)) (consM (cI 0) nilL)))))
def m__law_begun : Mir := fun ds => resOf sig__law_begun [] (g__law_begun (sd0 sig__law_begun.modes ds 1))
theorem fn__law_begun {f : Addr} {fd : FuncData} (c : Facts P w K mg base) (F : FunD K "_law_begun" "_law_begun" (defArgs st__law_begun) (defBody st__law_begun) (defScope st__law_begun) [] [] f fd) : FnOk P w K mg base (L2.CX P w) 1 f fd ["_law_cell_here"] (spF (TT K) K sig__law_begun m__law_begun) ∧ Binds K fd ["_law_cell_here"] [] := by
  refine ⟨def_ok (g := g__law_begun) F sc__law_begun rfl (by decide) (fun cdv A outer s H E B hT hmi hpin hex hr => ?_) (fun ds hl hne => rfl), F.bindsN fun _ _ _ _ _ _ us hl => match us, hl with | [_], _ => rfl⟩
  obtain ⟨T2, K2, H02, F02, mi2, ma2, pin2, ex2⟩ := B
  dsimp only at hT hmi hpin hex
  subst hT hmi hpin hex
  exact (svs_one (sv_retO (eo_lst (n := 3) (el_cons (ev_max2 rfl c.b_max rfl ev_int (ev_op opv_sub (ev_var (i := 0) rfl (by first | exact .inl rfl | exact .inr (.inl rfl) | exact .inr (.inr rfl)) (lk rfl rfl rfl) (by decide) (by decide)) (ev_op opv_pow ev_int ev_int)) rfl rfl rfl) (el_cons (ev_op opv_mod (ev_var (i := 0) rfl (by first | exact .inl rfl | exact .inr (.inl rfl) | exact .inr (.inr rfl)) (lk rfl rfl rfl) (by decide) (by decide)) ev_int) (el_cons ev_int el_nil rfl) rfl) rfl) (by decide))))
theorem ok__law_begun (c : Facts P w K mg base) : DefOk P w K mg base (TT K) "_law_begun" sig__law_begun m__law_begun 1 := by
  obtain ⟨fd, F⟩ := c.d__law_begun
  obtain ⟨h1, h2⟩ := fn__law_begun c F
  exact ⟨_, fd, _, c.g__law_begun, h1, F.kp, h2⟩
/-! ## _law_pull -/
theorem sc__law_pull : FnScope ["_law_state", "_law_many", "_law_digit", "_law_high", "_law_low"] ["_law_state", "_law_many"] (defScope st__law_pull) := ⟨rfl, rfl, rfl, by decide +kernel, rfl, by decide +kernel, by decide +kernel⟩
def sig__law_pull : Sig := ⟨[.chg, .val], false⟩
def g__law_pull : SM := (seqM (ifM (boolM (binM (gI yes fun i j => .bl (decide (j < i))) (ixOwn 0 (cI 0)) (cI 0)))
  (seqM (setM 2 (binM (gI (fun _ j => decide (0 < j)) fun i j => .int (i % j)) (ixOwn 0 (cI 0)) (getS 1)))
  (seqM (setIxM 0 (binM (gI divOk fun i j => .int (i / j)) (ixOwn 0 (cI 0)) (getS 1)) (cI 0))
  (retM (getS 2))))
  (fun s => .next s))
  (seqM (setIxM 0 (binM gAdd (ixOwn 0 (cI 2)) (cI 1)) (cI 2))
  (seqM (setM 3 (callM sig__law_mix m__law_mix (consA (ixOwn 0 (cI 1)) (consA (binM gMul (cI 2) (ixOwn 0 (cI 2))) nilA))))
  (seqM (setM 4 (callM sig__law_mix m__law_mix (consA (ixOwn 0 (cI 1)) (consA (binM gAdd (binM gMul (cI 2) (ixOwn 0 (cI 2))) (cI 1)) nilA))))
  (retM (binM (gI (fun _ j => decide (0 < j)) fun i j => .int (i % j)) (binM gAdd (binM gMul (getS 3) (cI 268435399)) (getS 4)) (getS 1)))))))
def m__law_pull : Mir := fun ds => resOf sig__law_pull [0] (g__law_pull (sd0 sig__law_pull.modes ds 5))
theorem fn__law_pull {f : Addr} {fd : FuncData} (c : Facts P w K mg base) (F : FunD K "_law_pull" "_law_pull" (defArgs st__law_pull) (defBody st__law_pull) (defScope st__law_pull) [] [] f fd) : FnOk P w K mg base (L2.CX P w) 2 f fd ["_law_state", "_law_many"] (spF (TT K) K sig__law_pull m__law_pull) ∧ Binds K fd ["_law_state", "_law_many"] [] := by
  refine ⟨def_ok (g := g__law_pull) F sc__law_pull rfl (by decide) (fun cdv A outer s H E B hT hmi hpin hex hr => ?_) (fun ds hl hne => rfl), F.bindsN fun _ _ _ _ _ _ us hl => match us, hl with | [_, _], _ => rfl⟩
  obtain ⟨T2, K2, H02, F02, mi2, ma2, pin2, ex2⟩ := B
  dsimp only at hT hmi hpin hex
  subst hT hmi hpin hex
  exact (svs_cons (sv_if (et_cmp opv_gt (ev_ixOwn (i := 0) rfl (by first | exact .inl rfl | exact .inr (.inl rfl) | exact .inr (.inr rfl)) ev_int (fun _ _ => rfl) (by decide) (by decide)) ev_int rfl)
  (svs_cons (sv_set (i := 2) sc__law_pull.nd rfl (by first | exact .inl rfl | exact .inr rfl) (lk rfl rfl rfl) (ev_op opv_mod (ev_ixOwn (i := 0) rfl (by first | exact .inl rfl | exact .inr (.inl rfl) | exact .inr (.inr rfl)) ev_int (fun _ _ => rfl) (by decide) (by decide)) (ev_var (i := 1) rfl (by first | exact .inl rfl | exact .inr (.inl rfl) | exact .inr (.inr rfl)) (lk rfl rfl rfl) (by decide) (by decide))) rfl (by first | exact .inl rfl | exact .inr rfl))
  (svs_cons (sv_setIx (i := 0) rfl (by first | exact .inl rfl | exact .inr (.inl rfl) | exact .inr (.inr rfl)) (ev_op opv_divW (ev_ixOwn (i := 0) rfl (by first | exact .inl rfl | exact .inr (.inl rfl) | exact .inr (.inr rfl)) ev_int (fun _ _ => rfl) (by decide) (by decide)) (ev_var (i := 1) rfl (by first | exact .inl rfl | exact .inr (.inl rfl) | exact .inr (.inr rfl)) (lk rfl rfl rfl) (by decide) (by decide))) ev_int (by decide) (by decide) (fun _ => rfl) rfl rfl rfl)
  (svs_one (sv_ret (ev_var (i := 2) rfl (by first | exact .inl rfl | exact .inr (.inl rfl) | exact .inr (.inr rfl)) (lk rfl rfl rfl) (by decide) (by decide))))))
  svs_nil)
  (svs_cons (sv_setIx (i := 0) rfl (by first | exact .inl rfl | exact .inr (.inl rfl) | exact .inr (.inr rfl)) (ev_op opv_add (ev_ixOwn (i := 0) rfl (by first | exact .inl rfl | exact .inr (.inl rfl) | exact .inr (.inr rfl)) ev_int (fun _ _ => rfl) (by decide) (by decide)) ev_int) ev_int (by decide) (by decide) (fun _ => rfl) rfl rfl rfl)
  (svs_cons (sv_set (i := 3) sc__law_pull.nd rfl (by first | exact .inl rfl | exact .inr rfl) (lk rfl rfl rfl) (ev_call (ok__law_mix c) rfl (hr.mono (by decide)) rfl (takes_of rfl rfl rfl rfl) (ea_cons (ev_ixOwn (i := 0) rfl (by first | exact .inl rfl | exact .inr (.inl rfl) | exact .inr (.inr rfl)) ev_int (fun _ _ => rfl) (by decide) (by decide)) (ea_cons (ev_op opv_mulG ev_int (ev_ixOwn (i := 0) rfl (by first | exact .inl rfl | exact .inr (.inl rfl) | exact .inr (.inr rfl)) ev_int (fun _ _ => rfl) (by decide) (by decide))) ea_nil rfl) rfl) (by decide) rfl rfl) rfl (by first | exact .inl rfl | exact .inr rfl))
  (svs_cons (sv_set (i := 4) sc__law_pull.nd rfl (by first | exact .inl rfl | exact .inr rfl) (lk rfl rfl rfl) (ev_call (ok__law_mix c) rfl (hr.mono (by decide)) rfl (takes_of rfl rfl rfl rfl) (ea_cons (ev_ixOwn (i := 0) rfl (by first | exact .inl rfl | exact .inr (.inl rfl) | exact .inr (.inr rfl)) ev_int (fun _ _ => rfl) (by decide) (by decide)) (ea_cons (ev_op opv_add (ev_op opv_mulG ev_int (ev_ixOwn (i := 0) rfl (by first | exact .inl rfl | exact .inr (.inl rfl) | exact .inr (.inr rfl)) ev_int (fun _ _ => rfl) (by decide) (by decide))) ev_int) ea_nil rfl) rfl) (by decide) rfl rfl) rfl (by first | exact .inl rfl | exact .inr rfl))
  (svs_one (sv_ret (ev_op opv_mod (ev_op opv_add (ev_op opv_mulG (ev_var (i := 3) rfl (by first | exact .inl rfl | exact .inr (.inl rfl) | exact .inr (.inr rfl)) (lk rfl rfl rfl) (by decide) (by decide)) ev_int) (ev_var (i := 4) rfl (by first | exact .inl rfl | exact .inr (.inl rfl) | exact .inr (.inr rfl)) (lk rfl rfl rfl) (by decide) (by decide))) (ev_var (i := 1) rfl (by first | exact .inl rfl | exact .inr (.inl rfl) | exact .inr (.inr rfl)) (lk rfl rfl rfl) (by decide) (by decide)))))))))
theorem ok__law_pull (c : Facts P w K mg base) : DefOk P w K mg base (TT K) "_law_pull" sig__law_pull m__law_pull 2 := by
  obtain ⟨fd, F⟩ := c.d__law_pull
  obtain ⟨h1, h2⟩ := fn__law_pull c F
  exact ⟨_, fd, _, c.g__law_pull, h1, F.kp, h2⟩
/-! ## _law_share -/
theorem sc__law_share : FnScope ["_law_top", "_law_bottom", "_law_one", "_law_other"] ["_law_top", "_law_bottom"] (defScope st__law_share) := ⟨rfl, rfl, rfl, by decide +kernel, rfl, by decide +kernel, by decide +kernel⟩
def sig__law_share : Sig := ⟨[.val, .val], false⟩
def g__law_share : SM := (seqM (parM 2 3 (consM (getS 0) (consM (getS 1) nilL)))
  (seqM (whileM mu_share (boolM (binM (gI yes fun i j => .bl (decide (j < i))) (getS 3) (cI 0))) (parM 2 3 (consM (getS 3) (consM (binM (gI (fun _ j => decide (0 < j)) fun i j => .int (i % j)) (getS 2) (getS 3)) nilL))))
  (retM (tupM 2 (consM (binM (gI divOk fun i j => .int (i / j)) (getS 0) (getS 2)) (consM (binM (gI divOk fun i j => .int (i / j)) (getS 1) (getS 2)) nilL))))))
def m__law_share : Mir := fun ds => resOf sig__law_share [] (g__law_share (sd0 sig__law_share.modes ds 4))
theorem fn__law_share {f : Addr} {fd : FuncData} (c : Facts P w K mg base) (F : FunD K "_law_share" "_law_share" (defArgs st__law_share) (defBody st__law_share) (defScope st__law_share) [] [] f fd) : FnOk P w K mg base (L2.CX P w) 1 f fd ["_law_top", "_law_bottom"] (spF (TT K) K sig__law_share m__law_share) ∧ Binds K fd ["_law_top", "_law_bottom"] [] := by
  refine ⟨def_ok (g := g__law_share) F sc__law_share rfl (by decide) (fun cdv A outer s H E B hT hmi hpin hex hr => ?_) (fun ds hl hne => rfl), F.bindsN fun _ _ _ _ _ _ us hl => match us, hl with | [_, _], _ => rfl⟩
  obtain ⟨T2, K2, H02, F02, mi2, ma2, pin2, ex2⟩ := B
  dsimp only at hT hmi hpin hex
  subst hT hmi hpin hex
  exact (svs_cons (sv_par (i := 2) (j := 3) rfl sc__law_share.nd rfl rfl (by decide) (lk rfl rfl rfl) (lk rfl rfl rfl) rfl rfl (el_cons (ev_var (i := 0) rfl (by first | exact .inl rfl | exact .inr (.inl rfl) | exact .inr (.inr rfl)) (lk rfl rfl rfl) (by decide) (by decide)) (el_cons (ev_var (i := 1) rfl (by first | exact .inl rfl | exact .inr (.inl rfl) | exact .inr (.inr rfl)) (lk rfl rfl rfl) (by decide) (by decide)) el_nil rfl) rfl) rfl rfl)
  (svs_cons (sv_while mu_share (passes_of rfl) (et_cmp opv_gt (ev_var (i := 3) rfl (by first | exact .inl rfl | exact .inr (.inl rfl) | exact .inr (.inr rfl)) (lk rfl rfl rfl) (by decide) (by decide)) ev_int rfl) (svs_one (sv_par (i := 2) (j := 3) rfl sc__law_share.nd rfl rfl (by decide) (lk rfl rfl rfl) (lk rfl rfl rfl) rfl rfl (el_cons (ev_var (i := 3) rfl (by first | exact .inl rfl | exact .inr (.inl rfl) | exact .inr (.inr rfl)) (lk rfl rfl rfl) (by decide) (by decide)) (el_cons (ev_op opv_mod (ev_var (i := 2) rfl (by first | exact .inl rfl | exact .inr (.inl rfl) | exact .inr (.inr rfl)) (lk rfl rfl rfl) (by decide) (by decide)) (ev_var (i := 3) rfl (by first | exact .inl rfl | exact .inr (.inl rfl) | exact .inr (.inr rfl)) (lk rfl rfl rfl) (by decide) (by decide))) el_nil rfl) rfl) rfl rfl)))
  (svs_one (sv_ret (ev_tup (n := 2) (el_cons (ev_op opv_divW (ev_var (i := 0) rfl (by first | exact .inl rfl | exact .inr (.inl rfl) | exact .inr (.inr rfl)) (lk rfl rfl rfl) (by decide) (by decide)) (ev_var (i := 2) rfl (by first | exact .inl rfl | exact .inr (.inl rfl) | exact .inr (.inr rfl)) (lk rfl rfl rfl) (by decide) (by decide))) (el_cons (ev_op opv_divW (ev_var (i := 1) rfl (by first | exact .inl rfl | exact .inr (.inl rfl) | exact .inr (.inr rfl)) (lk rfl rfl rfl) (by decide) (by decide)) (ev_var (i := 2) rfl (by first | exact .inl rfl | exact .inr (.inl rfl) | exact .inr (.inr rfl)) (lk rfl rfl rfl) (by decide) (by decide))) el_nil rfl) rfl) (by decide))))))
theorem ok__law_share (c : Facts P w K mg base) : DefOk P w K mg base (TT K) "_law_share" sig__law_share m__law_share 1 := by
  obtain ⟨fd, F⟩ := c.d__law_share
  obtain ⟨h1, h2⟩ := fn__law_share c F
  exact ⟨_, fd, _, c.g__law_share, h1, F.kp, h2⟩
/-! ## _law_coin -/
theorem sc__law_coin : FnScope ["_law_state", "_law_bottom"] ["_law_state"] (defScope st__law_coin) := ⟨rfl, rfl, rfl, by decide +kernel, rfl, by decide +kernel, by decide +kernel⟩
def sig__law_coin : Sig := ⟨[.chg], false⟩
def g__law_coin : SM := (seqM (setM 1 (binM gIx (lstM 5 (consM (cI 2) (consM (cI 3) (consM (cI 7) (consM (binM gAdd (cI 2) (callM sig__law_pull m__law_pull (consS 0 (consA (cI 99) nilA)))) (consM (cI 100) nilL)))))) (callM sig__law_pull m__law_pull (consS 0 (consA (cI 5) nilA)))))
  (retM (callM sig__law_share m__law_share (consA (binM gAdd (cI 1) (callM sig__law_pull m__law_pull (consS 0 (consA (binM (gI yes fun i j => .int (i - j)) (getS 1) (cI 1)) nilA)))) (consA (getS 1) nilA)))))
def m__law_coin : Mir := fun ds => resOf sig__law_coin [0] (g__law_coin (sd0 sig__law_coin.modes ds 2))
theorem fn__law_coin {f : Addr} {fd : FuncData} (c : Facts P w K mg base) (F : FunD K "_law_coin" "_law_coin" (defArgs st__law_coin) (defBody st__law_coin) (defScope st__law_coin) [] [] f fd) : FnOk P w K mg base (L2.CX P w) 3 f fd ["_law_state"] (spF (TT K) K sig__law_coin m__law_coin) ∧ Binds K fd ["_law_state"] [] := by
  refine ⟨def_ok (g := g__law_coin) F sc__law_coin rfl (by decide) (fun cdv A outer s H E B hT hmi hpin hex hr => ?_) (fun ds hl hne => rfl), F.bindsN fun _ _ _ _ _ _ us hl => match us, hl with | [_], _ => rfl⟩
  obtain ⟨T2, K2, H02, F02, mi2, ma2, pin2, ex2⟩ := B
  dsimp only at hT hmi hpin hex
  subst hT hmi hpin hex
  exact (svs_cons (sv_set (i := 1) sc__law_coin.nd rfl (by first | exact .inl rfl | exact .inr rfl) (lk rfl rfl rfl) (ev_ix (EV.ofNew (eo_lst (n := 5) (el_cons ev_int (el_cons ev_int (el_cons ev_int (el_cons (ev_op opv_add ev_int (ev_call (ok__law_pull c) rfl (hr.mono (by decide)) rfl (takes_of rfl rfl rfl rfl) (ea_slot (i := 0) rfl (by first | exact .inl rfl | exact .inr (.inl rfl) | exact .inr (.inr rfl)) (ea_cons ev_int ea_nil rfl) rfl (by decide) (by decide)) (by decide) rfl rfl)) (el_cons ev_int el_nil rfl) rfl) rfl) rfl) rfl) (by decide))) (ev_call (ok__law_pull c) rfl (hr.mono (by decide)) rfl (takes_of rfl rfl rfl rfl) (ea_slot (i := 0) rfl (by first | exact .inl rfl | exact .inr (.inl rfl) | exact .inr (.inr rfl)) (ea_cons ev_int ea_nil rfl) rfl (by decide) (by decide)) (by decide) rfl rfl) (fun _ _ => rfl)) rfl (by first | exact .inl rfl | exact .inr rfl))
  (svs_one (sv_ret (ev_call (ok__law_share c) rfl (hr.mono (by decide)) rfl (takes_of rfl rfl rfl rfl) (ea_cons (ev_op opv_add ev_int (ev_call (ok__law_pull c) rfl (hr.mono (by decide)) rfl (takes_of rfl rfl rfl rfl) (ea_slot (i := 0) rfl (by first | exact .inl rfl | exact .inr (.inl rfl) | exact .inr (.inr rfl)) (ea_cons (ev_op opv_sub (ev_var (i := 1) rfl (by first | exact .inl rfl | exact .inr (.inl rfl) | exact .inr (.inr rfl)) (lk rfl rfl rfl) (by decide) (by decide)) ev_int) ea_nil rfl) rfl (by decide) (by decide)) (by decide) rfl rfl)) (ea_cons (ev_var (i := 1) rfl (by first | exact .inl rfl | exact .inr (.inl rfl) | exact .inr (.inr rfl)) (lk rfl rfl rfl) (by decide) (by decide)) ea_nil rfl) rfl) (by decide) rfl rfl))))
theorem ok__law_coin (c : Facts P w K mg base) : DefOk P w K mg base (TT K) "_law_coin" sig__law_coin m__law_coin 3 := by
  obtain ⟨fd, F⟩ := c.d__law_coin
  obtain ⟨h1, h2⟩ := fn__law_coin c F
  exact ⟨_, fd, _, c.g__law_coin, h1, F.kp, h2⟩
/-! ## _law_due -/
theorem sc__law_due : FnScope ["_law_word", "_law_coin_here", "_law_far", "_law_folk"] ["_law_word", "_law_coin_here", "_law_far", "_law_folk"] (defScope st__law_due) := ⟨rfl, rfl, rfl, by decide +kernel, rfl, by decide +kernel, by decide +kernel⟩
def sig__law_due : Sig := ⟨[.val, .val, .val, .val], false⟩
def g__law_due : SM := (seqM (ifM (boolM (binM gEqT (getS 0) (cS "split")))
  (retM (tupM 3 (consM (cS "split") (consM (getS 3) (consM (binM (gI divOk fun i j => .int (i / j)) (getS 3) (cI 2)) nilL)))))
  (fun s => .next s))
  (seqM (ifM (boolM (binM gEqT (getS 0) (cS "coins")))
  (retM (tupM 4 (consM (cS "coins") (consM (getS 3) (consM (getS 1) (consM (getS 2) nilL))))))
  (fun s => .next s))
  (seqM (ifM (boolM (binM gEqT (binM (gI (fun _ j => decide (0 < j)) fun i j => .int (i % j)) (getS 3) (cI 2)) (cI 1)))
  (retM cN)
  (fun s => .next s))
  (retM (tupM 3 (consM (cS "pairs") (consM (binM (gI divOk fun i j => .int (i / j)) (getS 3) (cI 2)) (consM (getS 1) nilL))))))))
def m__law_due : Mir := fun ds => resOf sig__law_due [] (g__law_due (sd0 sig__law_due.modes ds 4))
theorem fn__law_due {f : Addr} {fd : FuncData} (c : Facts P w K mg base) (F : FunD K "_law_due" "_law_due" (defArgs st__law_due) (defBody st__law_due) (defScope st__law_due) [] [] f fd) : FnOk P w K mg base (L2.CX P w) 1 f fd ["_law_word", "_law_coin_here", "_law_far", "_law_folk"] (spF (TT K) K sig__law_due m__law_due) ∧ Binds K fd ["_law_word", "_law_coin_here", "_law_far", "_law_folk"] [] := by
  refine ⟨def_ok (g := g__law_due) F sc__law_due rfl (by decide) (fun cdv A outer s H E B hT hmi hpin hex hr => ?_) (fun ds hl hne => rfl), F.bindsN fun _ _ _ _ _ _ us hl => match us, hl with | [_, _, _, _], _ => rfl⟩
  obtain ⟨T2, K2, H02, F02, mi2, ma2, pin2, ex2⟩ := B
  dsimp only at hT hmi hpin hex
  subst hT hmi hpin hex
  exact (svs_cons (sv_if (et_cmp (opv_eqT hr.eqs) (ev_var (i := 0) rfl (by first | exact .inl rfl | exact .inr (.inl rfl) | exact .inr (.inr rfl)) (lk rfl rfl rfl) (by decide) (by decide)) ev_str rfl)
  (svs_one (sv_ret (ev_tup (n := 3) (el_cons ev_str (el_cons (ev_var (i := 3) rfl (by first | exact .inl rfl | exact .inr (.inl rfl) | exact .inr (.inr rfl)) (lk rfl rfl rfl) (by decide) (by decide)) (el_cons (ev_op opv_divW (ev_var (i := 3) rfl (by first | exact .inl rfl | exact .inr (.inl rfl) | exact .inr (.inr rfl)) (lk rfl rfl rfl) (by decide) (by decide)) ev_int) el_nil rfl) rfl) rfl) (by decide))))
  svs_nil)
  (svs_cons (sv_if (et_cmp (opv_eqT hr.eqs) (ev_var (i := 0) rfl (by first | exact .inl rfl | exact .inr (.inl rfl) | exact .inr (.inr rfl)) (lk rfl rfl rfl) (by decide) (by decide)) ev_str rfl)
  (svs_one (sv_ret (ev_tup (n := 4) (el_cons ev_str (el_cons (ev_var (i := 3) rfl (by first | exact .inl rfl | exact .inr (.inl rfl) | exact .inr (.inr rfl)) (lk rfl rfl rfl) (by decide) (by decide)) (el_cons (ev_var (i := 1) rfl (by first | exact .inl rfl | exact .inr (.inl rfl) | exact .inr (.inr rfl)) (lk rfl rfl rfl) (by decide) (by decide)) (el_cons (ev_var (i := 2) rfl (by first | exact .inl rfl | exact .inr (.inl rfl) | exact .inr (.inr rfl)) (lk rfl rfl rfl) (by decide) (by decide)) el_nil rfl) rfl) rfl) rfl) (by decide))))
  svs_nil)
  (svs_cons (sv_if (et_cmp (opv_eqT hr.eqs) (ev_op opv_mod (ev_var (i := 3) rfl (by first | exact .inl rfl | exact .inr (.inl rfl) | exact .inr (.inr rfl)) (lk rfl rfl rfl) (by decide) (by decide)) ev_int) ev_int rfl)
  (svs_one (sv_ret ev_non))
  svs_nil)
  (svs_one (sv_ret (ev_tup (n := 3) (el_cons ev_str (el_cons (ev_op opv_divW (ev_var (i := 3) rfl (by first | exact .inl rfl | exact .inr (.inl rfl) | exact .inr (.inr rfl)) (lk rfl rfl rfl) (by decide) (by decide)) ev_int) (el_cons (ev_var (i := 1) rfl (by first | exact .inl rfl | exact .inr (.inl rfl) | exact .inr (.inr rfl)) (lk rfl rfl rfl) (by decide) (by decide)) el_nil rfl) rfl) rfl) (by decide)))))))
theorem ok__law_due (c : Facts P w K mg base) : DefOk P w K mg base (TT K) "_law_due" sig__law_due m__law_due 1 := by
  obtain ⟨fd, F⟩ := c.d__law_due
  obtain ⟨h1, h2⟩ := fn__law_due c F
  exact ⟨_, fd, _, c.g__law_due, h1, F.kp, h2⟩
/-! ## _law_right -/
theorem sc__law_right : FnScope ["_law_maker", "_law_word", "_law_coin_here", "_law_far", "_law_folk", "_law_due_here", "_law_found"] ["_law_maker", "_law_word", "_law_coin_here", "_law_far", "_law_folk"] (defScope st__law_right) := ⟨rfl, rfl, rfl, by decide +kernel, rfl, by decide +kernel, by decide +kernel⟩
def sig__law_right : Sig := ⟨[.val, .val, .val, .val, .val], false⟩
def g__law_right : SM := (seqM (setM 5 (callM sig__law_due m__law_due (consA (getS 1) (consA (getS 2) (consA (getS 3) (consA (getS 4) nilA))))))
  (seqM (setM 6 (cloM 0 [0, 1, 2] 1 mirC (consM (getS 4) nilL)))
  (seqM (ifM (orM (boolM (binM gIsN (getS 5) cN)) (boolM (binM gIsN (getS 6) cN)))
  (retM (andV (binM gIsN (getS 5) cN) (binM gIsN (getS 6) cN)))
  (fun s => .next s))
  (retM (andV (binM gEqT (methM mt_told sigM_told (getS 6) nilA) (getS 5)) (binM gEqT (methM mt_folk sigM_folk (getS 6) nilA) (getS 4)))))))
def m__law_right : Mir := fun ds => resOf sig__law_right [] (g__law_right (sd0 sig__law_right.modes ds 7))
theorem fn__law_right {f : Addr} {fd : FuncData} (c : Facts P w K mg base) (F : FunD K "_law_right" "_law_right" (defArgs st__law_right) (defBody st__law_right) (defScope st__law_right) [] [] f fd) : FnOk P w K mg base (L2.CX P w) 7 f fd ["_law_maker", "_law_word", "_law_coin_here", "_law_far", "_law_folk"] (spF (TT K) K sig__law_right m__law_right) ∧ Binds K fd ["_law_maker", "_law_word", "_law_coin_here", "_law_far", "_law_folk"] [] := by
  refine ⟨def_ok (g := g__law_right) F sc__law_right rfl (by decide) (fun cdv A outer s H E B hT hmi hpin hex hr => ?_) (fun ds hl hne => rfl), F.bindsN fun _ _ _ _ _ _ us hl => match us, hl with | [_, _, _, _, _], _ => rfl⟩
  obtain ⟨T2, K2, H02, F02, mi2, ma2, pin2, ex2⟩ := B
  dsimp only at hT hmi hpin hex
  subst hT hmi hpin hex
  exact (svs_cons (sv_set (i := 5) sc__law_right.nd rfl (by first | exact .inl rfl | exact .inr rfl) (lk rfl rfl rfl) (ev_call (ok__law_due c) rfl (hr.mono (by decide)) rfl (takes_of rfl rfl rfl rfl) (ea_cons (ev_var (i := 1) rfl (by first | exact .inl rfl | exact .inr (.inl rfl) | exact .inr (.inr rfl)) (lk rfl rfl rfl) (by decide) (by decide)) (ea_cons (ev_var (i := 2) rfl (by first | exact .inl rfl | exact .inr (.inl rfl) | exact .inr (.inr rfl)) (lk rfl rfl rfl) (by decide) (by decide)) (ea_cons (ev_var (i := 3) rfl (by first | exact .inl rfl | exact .inr (.inl rfl) | exact .inr (.inr rfl)) (lk rfl rfl rfl) (by decide) (by decide)) (ea_cons (ev_var (i := 4) rfl (by first | exact .inl rfl | exact .inr (.inl rfl) | exact .inr (.inr rfl)) (lk rfl rfl rfl) (by decide) (by decide)) ea_nil rfl) rfl) rfl) rfl) (by decide) rfl rfl) rfl (by first | exact .inl rfl | exact .inr rfl))
  (svs_cons (sv_set (i := 6) sc__law_right.nd rfl (by first | exact .inl rfl | exact .inr rfl) (lk rfl rfl rfl) (ev_clo (clos_0_1_2 c) (hr.mono (by decide)) (i := 0) rfl (by first | exact .inl rfl | exact .inr (.inl rfl) | exact .inr (.inr rfl)) (el_cons (ev_var (i := 4) rfl (by first | exact .inl rfl | exact .inr (.inl rfl) | exact .inr (.inr rfl)) (lk rfl rfl rfl) (by decide) (by decide)) el_nil rfl) (by decide) (by decide) rfl rfl) rfl (by first | exact .inl rfl | exact .inr rfl))
  (svs_cons (sv_if (EW.et (ew_or (et_cmp opv_isN (ev_var (i := 5) rfl (by first | exact .inl rfl | exact .inr (.inl rfl) | exact .inr (.inr rfl)) (lk rfl rfl rfl) (by decide) (by decide)) ev_non rfl) (ew_or1 (et_cmp opv_isN (ev_var (i := 6) rfl (by first | exact .inl rfl | exact .inr (.inl rfl) | exact .inr (.inr rfl)) (lk rfl rfl rfl) (by decide) (by decide)) ev_non rfl))))
  (svs_one (sv_ret (ev_and (ev_cmp opv_isN (ev_var (i := 5) rfl (by first | exact .inl rfl | exact .inr (.inl rfl) | exact .inr (.inr rfl)) (lk rfl rfl rfl) (by decide) (by decide)) ev_non rfl) (ev_one (ev_cmp opv_isN (ev_var (i := 6) rfl (by first | exact .inl rfl | exact .inr (.inl rfl) | exact .inr (.inr rfl)) (lk rfl rfl rfl) (by decide) (by decide)) ev_non rfl)))))
  svs_nil)
  (svs_one (sv_ret (ev_and (ev_cmp (opv_eqT hr.eqs) (ev_meth0 rfl (mo_told c (hr.mono (by decide))) (nin rfl) (takes_of rfl rfl rfl rfl) (ev_var (i := 6) rfl (by first | exact .inl rfl | exact .inr (.inl rfl) | exact .inr (.inr rfl)) (lk rfl rfl rfl) (by decide) (by decide)) rfl) (ev_var (i := 5) rfl (by first | exact .inl rfl | exact .inr (.inl rfl) | exact .inr (.inr rfl)) (lk rfl rfl rfl) (by decide) (by decide)) rfl) (ev_one (ev_cmp (opv_eqT hr.eqs) (ev_meth0 rfl (mo_folk c (hr.mono (by decide))) (nin rfl) (takes_of rfl rfl rfl rfl) (ev_var (i := 6) rfl (by first | exact .inl rfl | exact .inr (.inl rfl) | exact .inr (.inr rfl)) (lk rfl rfl rfl) (by decide) (by decide)) rfl) (ev_var (i := 4) rfl (by first | exact .inl rfl | exact .inr (.inl rfl) | exact .inr (.inr rfl)) (lk rfl rfl rfl) (by decide) (by decide)) rfl))))))))
theorem ok__law_right (c : Facts P w K mg base) : DefOk P w K mg base (TT K) "_law_right" sig__law_right m__law_right 7 := by
  obtain ⟨fd, F⟩ := c.d__law_right
  obtain ⟨h1, h2⟩ := fn__law_right c F
  exact ⟨_, fd, _, c.g__law_right, h1, F.kp, h2⟩
/-! ## _law_refusal -/
theorem sc__law_refusal : FnScope ["_law_coin_here", "_law_far", "_law_paired", "_law_told", "e"] ["_law_coin_here", "_law_far", "_law_paired"] (defScope st__law_refusal) := ⟨rfl, rfl, rfl, by decide +kernel, rfl, by decide +kernel, by decide +kernel⟩
def sig__law_refusal : Sig := ⟨[.val, .val, .val], false⟩
def g__law_refusal : SM := (seqM (setM 3 cN)
  (seqM (tryM 4 (fun c => [0, 1, 2].contains c)
  (ifM (boolM (getS 2))
  (exprM (callM sig_pairs_maker m_pairs_maker (consA (getS 0) nilA)))
  (exprM (callM sig_coins_maker m_coins_maker (consA (getS 0) (consA (getS 1) nilA)))))
  (fun c fs => match c with | 0 => (seqM (setM 3 (tupM 2 (consM (cS "other") (consM cN nilL))))   (ifM (andM (boolM (cB true)) (notM (boolM (cB false))))   (setM 3 (tupM 2 (consM (cS "share") (consM (fun s => lift (fs.lookup 0) s) nilL))))   (ifM (andM (boolM (cB false)) (notM (boolM (cB false))))   (setM 3 (tupM 2 (consM (cS "number") (consM (fun s => lift (fs.lookup 0) s) nilL))))   (fun s => .next s)))) | 1 => (seqM (setM 3 (tupM 2 (consM (cS "other") (consM cN nilL))))   (ifM (andM (boolM (cB false)) (notM (boolM (cB true))))   (setM 3 (tupM 2 (consM (cS "share") (consM (fun s => lift (fs.lookup 0) s) nilL))))   (ifM (andM (boolM (cB true)) (notM (boolM (cB false))))   (setM 3 (tupM 2 (consM (cS "number") (consM (fun s => lift (fs.lookup 0) s) nilL))))   (fun s => .next s)))) | 2 => (seqM (setM 3 (tupM 2 (consM (cS "other") (consM cN nilL))))   (ifM (andM (boolM (cB false)) (notM (boolM (cB true))))   (setM 3 (tupM 2 (consM (cS "share") (consM (fun s => lift (fs.lookup 0) s) nilL))))   (ifM (andM (boolM (cB false)) (notM (boolM (cB true))))   (setM 3 (tupM 2 (consM (cS "number") (consM (fun s => lift (fs.lookup 0) s) nilL))))   (fun s => .next s)))) | _ => fun _ => .stuck))
  (retM (getS 3))))
def m__law_refusal : Mir := fun ds => resOf sig__law_refusal [] (g__law_refusal (sd0 sig__law_refusal.modes ds 5))
theorem fn__law_refusal {f : Addr} {fd : FuncData} (c : Facts P w K mg base) (F : FunD K "_law_refusal" "_law_refusal" (defArgs st__law_refusal) (defBody st__law_refusal) (defScope st__law_refusal) [] [] f fd) : FnOk P w K mg base (L2.CX P w) 7 f fd ["_law_coin_here", "_law_far", "_law_paired"] (spF (TT K) K sig__law_refusal m__law_refusal) ∧ Binds K fd ["_law_coin_here", "_law_far", "_law_paired"] [] := by
  refine ⟨def_ok (g := g__law_refusal) F sc__law_refusal rfl (by decide) (fun cdv A outer s H E B hT hmi hpin hex hr => ?_) (fun ds hl hne => rfl), F.bindsN fun _ _ _ _ _ _ us hl => match us, hl with | [_, _, _], _ => rfl⟩
  obtain ⟨T2, K2, H02, F02, mi2, ma2, pin2, ex2⟩ := B
  dsimp only at hT hmi hpin hex
  subst hT hmi hpin hex
  exact (svs_cons (sv_set (i := 3) sc__law_refusal.nd rfl (by first | exact .inl rfl | exact .inr rfl) (lk rfl rfl rfl) ev_non rfl (by first | exact .inl rfl | exact .inr rfl))
  (svs_cons (sv_try (i := 4) (cv := .ref (He.ga K "DealError")) (hit := (fun c => [0, 1, 2].contains c)) (gh := (fun c fs => match c with | 0 => (seqM (setM 3 (tupM 2 (consM (cS "other") (consM cN nilL))))   (ifM (andM (boolM (cB true)) (notM (boolM (cB false))))   (setM 3 (tupM 2 (consM (cS "share") (consM (fun s => lift (fs.lookup 0) s) nilL))))   (ifM (andM (boolM (cB false)) (notM (boolM (cB false))))   (setM 3 (tupM 2 (consM (cS "number") (consM (fun s => lift (fs.lookup 0) s) nilL))))   (fun s => .next s)))) | 1 => (seqM (setM 3 (tupM 2 (consM (cS "other") (consM cN nilL))))   (ifM (andM (boolM (cB false)) (notM (boolM (cB true))))   (setM 3 (tupM 2 (consM (cS "share") (consM (fun s => lift (fs.lookup 0) s) nilL))))   (ifM (andM (boolM (cB true)) (notM (boolM (cB false))))   (setM 3 (tupM 2 (consM (cS "number") (consM (fun s => lift (fs.lookup 0) s) nilL))))   (fun s => .next s)))) | 2 => (seqM (setM 3 (tupM 2 (consM (cS "other") (consM cN nilL))))   (ifM (andM (boolM (cB false)) (notM (boolM (cB true))))   (setM 3 (tupM 2 (consM (cS "share") (consM (fun s => lift (fs.lookup 0) s) nilL))))   (ifM (andM (boolM (cB false)) (notM (boolM (cB true))))   (setM 3 (tupM 2 (consM (cS "number") (consM (fun s => lift (fs.lookup 0) s) nilL))))   (fun s => .next s)))) | _ => fun _ => .stuck)) rfl rfl sc__law_refusal.nd rfl rfl (lk rfl rfl rfl) ⟨rfl, by decide, .inl c.g_DealError⟩ (takes_of rfl rfl rfl rfl) (fun cc C h _ => c.hx_DealError cc C h) (fun cc _ _ _ _ C h => ⟨_, c.hx_DealError cc C h⟩) (fun W pn xe tw pw => (svs_one (sv_if (et_val (ev_var (i := 2) rfl (by first | exact .inl rfl | exact .inr (.inl rfl) | exact .inr (.inr rfl)) (lk rfl rfl rfl) (by decide) (by decide)) (fun _ => rfl))
  (svs_one (sv_expr (ev_call (ok_pairs_maker c) rfl (hr.mono (by decide)) rfl tw (ea_cons (ev_var (i := 0) rfl (by first | exact .inl rfl | exact .inr (.inl rfl) | exact .inr (.inr rfl)) (lk rfl rfl rfl) (by decide) (by decide)) ea_nil rfl) (by decide) rfl rfl) rfl))
  (svs_one (sv_expr (ev_call (ok_coins_maker c) rfl (hr.mono (by decide)) rfl tw (ea_cons (ev_var (i := 0) rfl (by first | exact .inl rfl | exact .inr (.inl rfl) | exact .inr (.inr rfl)) (lk rfl rfl rfl) (by decide) (by decide)) (ea_cons (ev_var (i := 1) rfl (by first | exact .inl rfl | exact .inr (.inl rfl) | exact .inr (.inr rfl)) (lk rfl rfl rfl) (by decide) (by decide)) ea_nil rfl) rfl) (by decide) rfl rfl) rfl))))) (fun a oe cls d pn hz hv c2 fs B2 hh hS => match c2, hh, hS with | 0, _, hS => (svs_cons (sv_set (i := 3) sc__law_refusal.nd rfl (by first | exact .inl rfl | exact .inr rfl) (lkS hS (lk rfl rfl rfl) (by decide)) (ev_tup (n := 2) (el_cons ev_str (el_cons ev_non el_nil rfl) rfl) (by decide)) rfl (by first | exact .inl rfl | exact .inr rfl))   (svs_one (sv_if (EW.et (ew_and (et_val (ev_excIs hS hz hv (k := (.cls 0)) c.xi_NoShare_NoShare rfl c.b_isinstance (pe_glob rfl c.g_NoShare rfl) rfl (by first | exact .inl rfl | exact .inr (.inl rfl) | exact .inr (.inr rfl)) (by decide) (by decide) rfl rfl rfl) (fun _ => rfl)) (ew_and1 (et_not (et_val (ev_excIsT hS hz hv (ks := [(.cls 1), (.cls 2)]) c.xi_NoShare_NoNumber_NoRule (by decide) rfl c.b_isinstance (.cons (pe_glob rfl c.g_NoNumber rfl) rfl (.cons (pe_glob rfl c.g_NoRule rfl) rfl .nil)) rfl (by first | exact .inl rfl | exact .inr (.inl rfl) | exact .inr (.inr rfl)) (by decide) (by decide) rfl rfl rfl) (fun _ => rfl))))))   (svs_one (sv_set (i := 3) sc__law_refusal.nd rfl (by first | exact .inl rfl | exact .inr rfl) (lkS hS (lk rfl rfl rfl) (by decide)) (ev_tup (n := 2) (el_cons ev_str (el_cons (ev_excFld hS hz hv (m := 0) rfl c.xf_NoShare_found rfl (by first | exact .inl rfl | exact .inr (.inl rfl) | exact .inr (.inr rfl)) (by decide) (by decide) rfl) el_nil rfl) rfl) (by decide)) rfl (by first | exact .inl rfl | exact .inr rfl)))   (svs_one (sv_if (EW.et (ew_and (et_val (ev_excIs hS hz hv (k := (.cls 1)) c.xi_NoShare_NoNumber rfl c.b_isinstance (pe_glob rfl c.g_NoNumber rfl) rfl (by first | exact .inl rfl | exact .inr (.inl rfl) | exact .inr (.inr rfl)) (by decide) (by decide) rfl rfl rfl) (fun _ => rfl)) (ew_and1 (et_not (et_val (ev_excIs hS hz hv (k := (.cls 2)) c.xi_NoShare_NoRule rfl c.b_isinstance (pe_glob rfl c.g_NoRule rfl) rfl (by first | exact .inl rfl | exact .inr (.inl rfl) | exact .inr (.inr rfl)) (by decide) (by decide) rfl rfl rfl) (fun _ => rfl))))))   (svs_one (sv_set (i := 3) sc__law_refusal.nd rfl (by first | exact .inl rfl | exact .inr rfl) (lkS hS (lk rfl rfl rfl) (by decide)) (ev_tup (n := 2) (el_cons ev_str (el_cons (ev_excFld hS hz hv (m := 0) rfl c.xf_NoShare_found rfl (by first | exact .inl rfl | exact .inr (.inl rfl) | exact .inr (.inr rfl)) (by decide) (by decide) rfl) el_nil rfl) rfl) (by decide)) rfl (by first | exact .inl rfl | exact .inr rfl)))   svs_nil))))) | 1, _, hS => (svs_cons (sv_set (i := 3) sc__law_refusal.nd rfl (by first | exact .inl rfl | exact .inr rfl) (lkS hS (lk rfl rfl rfl) (by decide)) (ev_tup (n := 2) (el_cons ev_str (el_cons ev_non el_nil rfl) rfl) (by decide)) rfl (by first | exact .inl rfl | exact .inr rfl))   (svs_one (sv_if (EW.et (ew_and (et_val (ev_excIs hS hz hv (k := (.cls 0)) c.xi_NoNumber_NoShare rfl c.b_isinstance (pe_glob rfl c.g_NoShare rfl) rfl (by first | exact .inl rfl | exact .inr (.inl rfl) | exact .inr (.inr rfl)) (by decide) (by decide) rfl rfl rfl) (fun _ => rfl)) (ew_and1 (et_not (et_val (ev_excIsT hS hz hv (ks := [(.cls 1), (.cls 2)]) c.xi_NoNumber_NoNumber_NoRule (by decide) rfl c.b_isinstance (.cons (pe_glob rfl c.g_NoNumber rfl) rfl (.cons (pe_glob rfl c.g_NoRule rfl) rfl .nil)) rfl (by first | exact .inl rfl | exact .inr (.inl rfl) | exact .inr (.inr rfl)) (by decide) (by decide) rfl rfl rfl) (fun _ => rfl))))))   (svs_one (sv_set (i := 3) sc__law_refusal.nd rfl (by first | exact .inl rfl | exact .inr rfl) (lkS hS (lk rfl rfl rfl) (by decide)) (ev_tup (n := 2) (el_cons ev_str (el_cons (ev_excFld hS hz hv (m := 0) rfl c.xf_NoNumber_found rfl (by first | exact .inl rfl | exact .inr (.inl rfl) | exact .inr (.inr rfl)) (by decide) (by decide) rfl) el_nil rfl) rfl) (by decide)) rfl (by first | exact .inl rfl | exact .inr rfl)))   (svs_one (sv_if (EW.et (ew_and (et_val (ev_excIs hS hz hv (k := (.cls 1)) c.xi_NoNumber_NoNumber rfl c.b_isinstance (pe_glob rfl c.g_NoNumber rfl) rfl (by first | exact .inl rfl | exact .inr (.inl rfl) | exact .inr (.inr rfl)) (by decide) (by decide) rfl rfl rfl) (fun _ => rfl)) (ew_and1 (et_not (et_val (ev_excIs hS hz hv (k := (.cls 2)) c.xi_NoNumber_NoRule rfl c.b_isinstance (pe_glob rfl c.g_NoRule rfl) rfl (by first | exact .inl rfl | exact .inr (.inl rfl) | exact .inr (.inr rfl)) (by decide) (by decide) rfl rfl rfl) (fun _ => rfl))))))   (svs_one (sv_set (i := 3) sc__law_refusal.nd rfl (by first | exact .inl rfl | exact .inr rfl) (lkS hS (lk rfl rfl rfl) (by decide)) (ev_tup (n := 2) (el_cons ev_str (el_cons (ev_excFld hS hz hv (m := 0) rfl c.xf_NoNumber_found rfl (by first | exact .inl rfl | exact .inr (.inl rfl) | exact .inr (.inr rfl)) (by decide) (by decide) rfl) el_nil rfl) rfl) (by decide)) rfl (by first | exact .inl rfl | exact .inr rfl)))   svs_nil))))) | 2, _, hS => (svs_cons (sv_set (i := 3) sc__law_refusal.nd rfl (by first | exact .inl rfl | exact .inr rfl) (lkS hS (lk rfl rfl rfl) (by decide)) (ev_tup (n := 2) (el_cons ev_str (el_cons ev_non el_nil rfl) rfl) (by decide)) rfl (by first | exact .inl rfl | exact .inr rfl))   (svs_one (sv_if (EW.et (ew_and (et_val (ev_excIs hS hz hv (k := (.cls 0)) c.xi_NoRule_NoShare rfl c.b_isinstance (pe_glob rfl c.g_NoShare rfl) rfl (by first | exact .inl rfl | exact .inr (.inl rfl) | exact .inr (.inr rfl)) (by decide) (by decide) rfl rfl rfl) (fun _ => rfl)) (ew_and1 (et_not (et_val (ev_excIsT hS hz hv (ks := [(.cls 1), (.cls 2)]) c.xi_NoRule_NoNumber_NoRule (by decide) rfl c.b_isinstance (.cons (pe_glob rfl c.g_NoNumber rfl) rfl (.cons (pe_glob rfl c.g_NoRule rfl) rfl .nil)) rfl (by first | exact .inl rfl | exact .inr (.inl rfl) | exact .inr (.inr rfl)) (by decide) (by decide) rfl rfl rfl) (fun _ => rfl))))))   (svs_one (sv_set (i := 3) sc__law_refusal.nd rfl (by first | exact .inl rfl | exact .inr rfl) (lkS hS (lk rfl rfl rfl) (by decide)) (ev_tup (n := 2) (el_cons ev_str (el_cons (ev_excFld hS hz hv (m := 0) rfl c.xf_NoRule_found rfl (by first | exact .inl rfl | exact .inr (.inl rfl) | exact .inr (.inr rfl)) (by decide) (by decide) rfl) el_nil rfl) rfl) (by decide)) rfl (by first | exact .inl rfl | exact .inr rfl)))   (svs_one (sv_if (EW.et (ew_and (et_val (ev_excIs hS hz hv (k := (.cls 1)) c.xi_NoRule_NoNumber rfl c.b_isinstance (pe_glob rfl c.g_NoNumber rfl) rfl (by first | exact .inl rfl | exact .inr (.inl rfl) | exact .inr (.inr rfl)) (by decide) (by decide) rfl rfl rfl) (fun _ => rfl)) (ew_and1 (et_not (et_val (ev_excIs hS hz hv (k := (.cls 2)) c.xi_NoRule_NoRule rfl c.b_isinstance (pe_glob rfl c.g_NoRule rfl) rfl (by first | exact .inl rfl | exact .inr (.inl rfl) | exact .inr (.inr rfl)) (by decide) (by decide) rfl rfl rfl) (fun _ => rfl))))))   (svs_one (sv_set (i := 3) sc__law_refusal.nd rfl (by first | exact .inl rfl | exact .inr rfl) (lkS hS (lk rfl rfl rfl) (by decide)) (ev_tup (n := 2) (el_cons ev_str (el_cons (ev_excFld hS hz hv (m := 0) rfl c.xf_NoRule_found rfl (by first | exact .inl rfl | exact .inr (.inl rfl) | exact .inr (.inr rfl)) (by decide) (by decide) rfl) el_nil rfl) rfl) (by decide)) rfl (by first | exact .inl rfl | exact .inr rfl)))   svs_nil))))) | 3, hh, _ => (by cases hh) | 4, hh, _ => (by cases hh) | 5, hh, _ => (by cases hh) | n + 6, hh, _ => (by simp at hh)))
  (svs_one (sv_ret (ev_var (i := 3) rfl (by first | exact .inl rfl | exact .inr (.inl rfl) | exact .inr (.inr rfl)) (lk rfl rfl rfl) (by decide) (by decide))))))
theorem ok__law_refusal (c : Facts P w K mg base) : DefOk P w K mg base (TT K) "_law_refusal" sig__law_refusal m__law_refusal 7 := by
  obtain ⟨fd, F⟩ := c.d__law_refusal
  obtain ⟨h1, h2⟩ := fn__law_refusal c F
  exact ⟨_, fd, _, c.g__law_refusal, h1, F.kp, h2⟩
/-! ## _law_refused -/
theorem sc__law_refused : FnScope ["_law_state", "_law_coin_here", "_law_bad", "_law_thing", "_law_number", "_law_far"] ["_law_state", "_law_coin_here"] (defScope st__law_refused) := ⟨rfl, rfl, rfl, by decide +kernel, rfl, by decide +kernel, by decide +kernel⟩
def sig__law_refused : Sig := ⟨[.chg, .val], false⟩
def g__law_refused : SM := (seqM (setOM 2 (lstM 14 (consM (tupM 2 (consM (cI 0) (consM (cI 1) nilL))) (consM (tupM 2 (consM (cI 1) (consM (cI 1) nilL))) (consM (tupM 2 (consM (cI 2) (consM (cI 4) nilL))) (consM (tupM 2 (consM (cI 1) (consM (cI 101) nilL))) (consM (tupM 2 (consM (cI 3) (consM (cI 2) nilL))) (consM (tupM 2 (consM (cI 1) (consM (cI 0) nilL))) (consM (lstM 2 (consM (cI 1) (consM (cI 2) nilL))) (consM (tupM 1 (consM (cI 1) nilL)) (consM cN (consM (cS "1/2") (consM (tupM 2 (consM (cB true) (consM (cI 2) nilL))) (consM (tupM 3 (consM (cI 1) (consM (cI 2) (consM (cI 3) nilL)))) (consM (cI 0) (consM dic0M nilL))))))))))))))))
  (seqM (setM 3 (ixOwn 2 (callM sig__law_pull m__law_pull (consS 0 (consA (peekM 2 gLen) nilA)))))
  (seqM (setM 4 (binM gIx (lstM 8 (consM (cI 0) (consM (cI 21) (consM (unM (gU fun i => .int (-i)) (cI 1)) (consM (cB true) (consM cN (consM (cS "3") (consM (lstM 1 (consM (cI 1) nilL)) (consM (binM (gI (fun i j => decide (0 ≤ j ∧ j ≤ 1000 ∧ i.natAbs < 1000)) fun i j => .int (i ^ j.toNat)) (cI 10) (cI 29)) nilL))))))))) (callM sig__law_pull m__law_pull (consS 0 (consA (cI 8) nilA)))))
  (seqM (forM (listM (lstM 2 (consM (cI 3) (consM (getS 4) nilL)))) (gNm 5)
  (ifM (boolM (binM gNeT (callM sig__law_refusal m__law_refusal (consA (getS 3) (consA (getS 5) (consA (cB false) nilA)))) (tupM 2 (consM (cS "share") (consM (getS 3) nilL)))))
  (retM (cB false))
  (fun s => .next s)))
  (seqM (ifM (boolM (binM gNeT (callM sig__law_refusal m__law_refusal (consA (getS 3) (consA (cI 0) (consA (cB true) nilA)))) (tupM 2 (consM (cS "share") (consM (getS 3) nilL)))))
  (retM (cB false))
  (fun s => .next s))
  (retM (andV (binM gEqT (callM sig__law_refusal m__law_refusal (consA (getS 1) (consA (getS 4) (consA (cB false) nilA)))) (tupM 2 (consM (cS "number") (consM (getS 4) nilL)))) (binM gIsN (callM sig__law_refusal m__law_refusal (consA (getS 1) (consA (cI 20) (consA (cB false) nilA)))) cN))))))))
def m__law_refused : Mir := fun ds => resOf sig__law_refused [0] (g__law_refused (sd0 sig__law_refused.modes ds 6))
theorem fn__law_refused {f : Addr} {fd : FuncData} (c : Facts P w K mg base) (F : FunD K "_law_refused" "_law_refused" (defArgs st__law_refused) (defBody st__law_refused) (defScope st__law_refused) [] [] f fd) : FnOk P w K mg base (L2.CX P w) 8 f fd ["_law_state", "_law_coin_here"] (spF (TT K) K sig__law_refused m__law_refused) ∧ Binds K fd ["_law_state", "_law_coin_here"] [] := by
  refine ⟨def_ok (g := g__law_refused) F sc__law_refused rfl (by decide) (fun cdv A outer s H E B hT hmi hpin hex hr => ?_) (fun ds hl hne => rfl), F.bindsN fun _ _ _ _ _ _ us hl => match us, hl with | [_, _], _ => rfl⟩
  obtain ⟨T2, K2, H02, F02, mi2, ma2, pin2, ex2⟩ := B
  dsimp only at hT hmi hpin hex
  subst hT hmi hpin hex
  exact (svs_cons (sv_setO (i := 2) sc__law_refused.nd rfl (by first | exact .inl rfl | exact .inr rfl) (lk rfl rfl rfl) (eo_lst (n := 14) (el_cons (ev_tup (n := 2) (el_cons ev_int (el_cons ev_int el_nil rfl) rfl) (by decide)) (el_cons (ev_tup (n := 2) (el_cons ev_int (el_cons ev_int el_nil rfl) rfl) (by decide)) (el_cons (ev_tup (n := 2) (el_cons ev_int (el_cons ev_int el_nil rfl) rfl) (by decide)) (el_cons (ev_tup (n := 2) (el_cons ev_int (el_cons ev_int el_nil rfl) rfl) (by decide)) (el_cons (ev_tup (n := 2) (el_cons ev_int (el_cons ev_int el_nil rfl) rfl) (by decide)) (el_cons (ev_tup (n := 2) (el_cons ev_int (el_cons ev_int el_nil rfl) rfl) (by decide)) (el_cons (EV.ofNew (eo_lst (n := 2) (el_cons ev_int (el_cons ev_int el_nil rfl) rfl) (by decide))) (el_cons (ev_tup (n := 1) (el_cons ev_int el_nil rfl) (by decide)) (el_cons ev_non (el_cons ev_str (el_cons (ev_tup (n := 2) (el_cons ev_bl (el_cons ev_int el_nil rfl) rfl) (by decide)) (el_cons (ev_tup (n := 3) (el_cons ev_int (el_cons ev_int (el_cons ev_int el_nil rfl) rfl) rfl) (by decide)) (el_cons ev_int (el_cons ev_dic0 el_nil rfl) rfl) rfl) rfl) rfl) rfl) rfl) rfl) rfl) rfl) rfl) rfl) rfl) rfl) (by decide)) rfl (by first | exact .inl rfl | exact .inr rfl))
  (svs_cons (sv_set (i := 3) sc__law_refused.nd rfl (by first | exact .inl rfl | exact .inr rfl) (lk rfl rfl rfl) (ev_ixOwn (i := 2) rfl (by first | exact .inl rfl | exact .inr (.inl rfl) | exact .inr (.inr rfl)) (ev_call (ok__law_pull c) rfl (hr.mono (by decide)) rfl (takes_of rfl rfl rfl rfl) (ea_slot (i := 0) rfl (by first | exact .inl rfl | exact .inr (.inl rfl) | exact .inr (.inr rfl)) (ea_cons (ev_bltS blt_len rfl c.b_len (by decide +kernel) (i := 2) rfl (by first | exact .inl rfl | exact .inr (.inl rfl) | exact .inr (.inr rfl)) (by decide) (by decide) (by decide) (by decide) rfl rfl) ea_nil rfl) rfl (by decide) (by decide)) (by decide) rfl rfl) (fun _ _ => rfl) (by decide) (by decide)) rfl (by first | exact .inl rfl | exact .inr rfl))
  (svs_cons (sv_set (i := 4) sc__law_refused.nd rfl (by first | exact .inl rfl | exact .inr rfl) (lk rfl rfl rfl) (ev_ix (EV.ofNew (eo_lst (n := 8) (el_cons ev_int (el_cons ev_int (el_cons (ev_neg ev_int) (el_cons ev_bl (el_cons ev_non (el_cons ev_str (el_cons (EV.ofNew (eo_lst (n := 1) (el_cons ev_int el_nil rfl) (by decide))) (el_cons (ev_op opv_pow ev_int ev_int) el_nil rfl) rfl) rfl) rfl) rfl) rfl) rfl) rfl) (by decide))) (ev_call (ok__law_pull c) rfl (hr.mono (by decide)) rfl (takes_of rfl rfl rfl rfl) (ea_slot (i := 0) rfl (by first | exact .inl rfl | exact .inr (.inl rfl) | exact .inr (.inr rfl)) (ea_cons ev_int ea_nil rfl) rfl (by decide) (by decide)) (by decide) rfl rfl) (fun _ _ => rfl)) rfl (by first | exact .inl rfl | exact .inr rfl))
  (svs_cons (sv_for (passes_of rfl) rfl (ei_list (EV.ofNew (eo_lst (n := 2) (el_cons ev_int (el_cons (ev_var (i := 4) rfl (by first | exact .inl rfl | exact .inr (.inl rfl) | exact .inr (.inr rfl)) (lk rfl rfl rfl) (by decide) (by decide)) el_nil rfl) rfl) (by decide)))) (eg_name (i := 5) sc__law_refused.nd rfl (by first | exact .inl rfl | exact .inr rfl) (lk rfl rfl rfl) (by first | exact .inl rfl | exact .inr rfl))
  (svs_one (sv_if (et_cmp (opv_neT hr.eqs) (ev_call (ok__law_refusal c) rfl (hr.mono (by decide)) rfl (takes_of rfl rfl rfl rfl) (ea_cons (ev_var (i := 3) rfl (by first | exact .inl rfl | exact .inr (.inl rfl) | exact .inr (.inr rfl)) (lk rfl rfl rfl) (by decide) (by decide)) (ea_cons (ev_var (i := 5) rfl (by first | exact .inl rfl | exact .inr (.inl rfl) | exact .inr (.inr rfl)) (lk rfl rfl rfl) (by decide) (by decide)) (ea_cons ev_bl ea_nil rfl) rfl) rfl) (by decide) rfl rfl) (ev_tup (n := 2) (el_cons ev_str (el_cons (ev_var (i := 3) rfl (by first | exact .inl rfl | exact .inr (.inl rfl) | exact .inr (.inr rfl)) (lk rfl rfl rfl) (by decide) (by decide)) el_nil rfl) rfl) (by decide)) rfl)
  (svs_one (sv_ret ev_bl))
  svs_nil)) (fun _ => rfl))
  (svs_cons (sv_if (et_cmp (opv_neT hr.eqs) (ev_call (ok__law_refusal c) rfl (hr.mono (by decide)) rfl (takes_of rfl rfl rfl rfl) (ea_cons (ev_var (i := 3) rfl (by first | exact .inl rfl | exact .inr (.inl rfl) | exact .inr (.inr rfl)) (lk rfl rfl rfl) (by decide) (by decide)) (ea_cons ev_int (ea_cons ev_bl ea_nil rfl) rfl) rfl) (by decide) rfl rfl) (ev_tup (n := 2) (el_cons ev_str (el_cons (ev_var (i := 3) rfl (by first | exact .inl rfl | exact .inr (.inl rfl) | exact .inr (.inr rfl)) (lk rfl rfl rfl) (by decide) (by decide)) el_nil rfl) rfl) (by decide)) rfl)
  (svs_one (sv_ret ev_bl))
  svs_nil)
  (svs_one (sv_ret (ev_and (ev_cmp (opv_eqT hr.eqs) (ev_call (ok__law_refusal c) rfl (hr.mono (by decide)) rfl (takes_of rfl rfl rfl rfl) (ea_cons (ev_var (i := 1) rfl (by first | exact .inl rfl | exact .inr (.inl rfl) | exact .inr (.inr rfl)) (lk rfl rfl rfl) (by decide) (by decide)) (ea_cons (ev_var (i := 4) rfl (by first | exact .inl rfl | exact .inr (.inl rfl) | exact .inr (.inr rfl)) (lk rfl rfl rfl) (by decide) (by decide)) (ea_cons ev_bl ea_nil rfl) rfl) rfl) (by decide) rfl rfl) (ev_tup (n := 2) (el_cons ev_str (el_cons (ev_var (i := 4) rfl (by first | exact .inl rfl | exact .inr (.inl rfl) | exact .inr (.inr rfl)) (lk rfl rfl rfl) (by decide) (by decide)) el_nil rfl) rfl) (by decide)) rfl) (ev_one (ev_cmp opv_isN (ev_call (ok__law_refusal c) rfl (hr.mono (by decide)) rfl (takes_of rfl rfl rfl rfl) (ea_cons (ev_var (i := 1) rfl (by first | exact .inl rfl | exact .inr (.inl rfl) | exact .inr (.inr rfl)) (lk rfl rfl rfl) (by decide) (by decide)) (ea_cons ev_int (ea_cons ev_bl ea_nil rfl) rfl) rfl) (by decide) rfl rfl) ev_non rfl))))))))))
theorem ok__law_refused (c : Facts P w K mg base) : DefOk P w K mg base (TT K) "_law_refused" sig__law_refused m__law_refused 8 := by
  obtain ⟨fd, F⟩ := c.d__law_refused
  obtain ⟨h1, h2⟩ := fn__law_refused c F
  exact ⟨_, fd, _, c.g__law_refused, h1, F.kp, h2⟩
/-! ## law -/
theorem sc_law : FnScope ["_law_script", "_law_k", "_law_state", "_law_makers", "_law_turn", "_law_coin_here", "_law_far", "_law_maker", "_law_word"] ["_law_script"] (defScope st_law) := ⟨rfl, rfl, rfl, by decide +kernel, rfl, by decide +kernel, by decide +kernel⟩
def sig_law : Sig := ⟨[.val], false⟩
def g_law : SM := (seqM (forM (rangeM1 (max2M (cI 2) (min2M (cI 12) (peekM 0 gLen)))) (gNm 1)
  (seqM (setOM 2 (callM sig__law_begun m__law_begun (consA (callM sig__law_cell m__law_cell (consA (getS 0) (consA (getS 1) nilA))) nilA)))
  (seqM (setOM 3 (lstM 0 nilL))
  (seqM (forM (rangeM1 (cI 2)) (gNm 4)
  (seqM (setM 5 (callM sig__law_coin m__law_coin (consS 2 nilA)))
  (seqM (setM 6 (binM gAdd (cI 1) (callM sig__law_pull m__law_pull (consS 2 (consA (cI 20) nilA)))))
  (seqM (exprM (appM 3 (tupM 4 (consM (callM sig_split_maker m_split_maker nilA) (consM (cS "split") (consM (getS 5) (consM (getS 6) nilL)))))))
  (seqM (exprM (appM 3 (tupM 4 (consM (callM sig_pairs_maker m_pairs_maker (consA (getS 5) nilA)) (consM (cS "pairs") (consM (getS 5) (consM (getS 6) nilL)))))))
  (exprM (appM 3 (tupM 4 (consM (callM sig_coins_maker m_coins_maker (consA (getS 5) (consA (getS 6) nilA))) (consM (cS "coins") (consM (getS 5) (consM (getS 6) nilL))))))))))))
  (seqM (forM (rangeM1 (cI 12)) (gNm 4)
  (seqM (asgM (gTp (gsCons (gNm 7) (gsCons (gNm 8) (gsCons (gNm 5) (gsCons (gNm 6) gsNil))))) (ixOwn 3 (callM sig__law_pull m__law_pull (consS 2 (consA (cI 6) nilA)))))
  (ifM (notM (boolM (callM sig__law_right m__law_right (consA (getS 7) (consA (getS 8) (consA (getS 5) (consA (getS 6) (consA (binM gAdd (cI 1) (callM sig__law_pull m__law_pull (consS 2 (consA (cI 20) nilA)))) nilA))))))))
  (retM (cB false))
  (fun s => .next s))))
  (ifM (notM (boolM (callM sig__law_refused m__law_refused (consS 2 (consA (getS 5) nilA)))))
  (retM (cB false))
  (fun s => .next s)))))))
  (retM (cB true)))
def m_law : Mir := fun ds => resOf sig_law [] (g_law (sd0 sig_law.modes ds 9))
theorem fn_law {f : Addr} {fd : FuncData} (c : Facts P w K mg base) (F : FunD K "law" "law" (defArgs st_law) (defBody st_law) (defScope st_law) [] [] f fd) : FnOk P w K mg base (L2.CX P w) 9 f fd ["_law_script"] (spF (TT K) K sig_law m_law) ∧ Binds K fd ["_law_script"] [] := by
  refine ⟨def_ok (g := g_law) F sc_law rfl (by decide) (fun cdv A outer s H E B hT hmi hpin hex hr => ?_) (fun ds hl hne => rfl), F.bindsN fun _ _ _ _ _ _ us hl => match us, hl with | [_], _ => rfl⟩
  obtain ⟨T2, K2, H02, F02, mi2, ma2, pin2, ex2⟩ := B
  dsimp only at hT hmi hpin hex
  subst hT hmi hpin hex
  exact (svs_cons (sv_for (passes_of rfl) rfl (ei_range1 rfl c.b_range (ev_max2 rfl c.b_max rfl ev_int (ev_min2 rfl c.b_min rfl ev_int (ev_bltS blt_len rfl c.b_len (by decide +kernel) (i := 0) rfl (by first | exact .inl rfl | exact .inr (.inl rfl) | exact .inr (.inr rfl)) (by decide) (by decide) (by decide) (by decide) rfl rfl) rfl rfl rfl) rfl rfl rfl) rfl) (eg_name (i := 1) sc_law.nd rfl (by first | exact .inl rfl | exact .inr rfl) (lk rfl rfl rfl) (by first | exact .inl rfl | exact .inr rfl))
  (svs_cons (sv_setO (i := 2) sc_law.nd rfl (by first | exact .inl rfl | exact .inr rfl) (lk rfl rfl rfl) (eo_call (ok__law_begun c) rfl (hr.mono (by decide)) rfl (takes_of rfl rfl rfl rfl) (ea_cons (ev_call (ok__law_cell c) rfl (hr.mono (by decide)) rfl (takes_of rfl rfl rfl rfl) (ea_cons (ev_var (i := 0) rfl (by first | exact .inl rfl | exact .inr (.inl rfl) | exact .inr (.inr rfl)) (lk rfl rfl rfl) (by decide) (by decide)) (ea_cons (ev_var (i := 1) rfl (by first | exact .inl rfl | exact .inr (.inl rfl) | exact .inr (.inr rfl)) (lk rfl rfl rfl) (by decide) (by decide)) ea_nil rfl) rfl) (by decide) rfl rfl) ea_nil rfl) (by decide) rfl rfl) rfl (by first | exact .inl rfl | exact .inr rfl))
  (svs_cons (sv_setO (i := 3) sc_law.nd rfl (by first | exact .inl rfl | exact .inr rfl) (lk rfl rfl rfl) (eo_lst (n := 0) el_nil (by decide)) rfl (by first | exact .inl rfl | exact .inr rfl))
  (svs_cons (sv_for (passes_of rfl) rfl (ei_range1 rfl c.b_range ev_int rfl) (eg_name (i := 4) sc_law.nd rfl (by first | exact .inl rfl | exact .inr rfl) (lk rfl rfl rfl) (by first | exact .inl rfl | exact .inr rfl))
  (svs_cons (sv_set (i := 5) sc_law.nd rfl (by first | exact .inl rfl | exact .inr rfl) (lk rfl rfl rfl) (ev_call (ok__law_coin c) rfl (hr.mono (by decide)) rfl (takes_of rfl rfl rfl rfl) (ea_slot (i := 2) rfl (by first | exact .inl rfl | exact .inr (.inl rfl) | exact .inr (.inr rfl)) ea_nil rfl (by decide) (by decide)) (by decide) rfl rfl) rfl (by first | exact .inl rfl | exact .inr rfl))
  (svs_cons (sv_set (i := 6) sc_law.nd rfl (by first | exact .inl rfl | exact .inr rfl) (lk rfl rfl rfl) (ev_op opv_add ev_int (ev_call (ok__law_pull c) rfl (hr.mono (by decide)) rfl (takes_of rfl rfl rfl rfl) (ea_slot (i := 2) rfl (by first | exact .inl rfl | exact .inr (.inl rfl) | exact .inr (.inr rfl)) (ea_cons ev_int ea_nil rfl) rfl (by decide) (by decide)) (by decide) rfl rfl)) rfl (by first | exact .inl rfl | exact .inr rfl))
  (svs_cons (sv_expr (ev_app (i := 3) rfl (by first | exact .inl rfl | exact .inr (.inl rfl) | exact .inr (.inr rfl)) (ev_tup (n := 4) (el_cons (ev_call0 (ok_split_maker c) rfl (hr.mono (by decide)) rfl (takes_of rfl rfl rfl rfl) (by decide)) (el_cons ev_str (el_cons (ev_var (i := 5) rfl (by first | exact .inl rfl | exact .inr (.inl rfl) | exact .inr (.inr rfl)) (lk rfl rfl rfl) (by decide) (by decide)) (el_cons (ev_var (i := 6) rfl (by first | exact .inl rfl | exact .inr (.inl rfl) | exact .inr (.inr rfl)) (lk rfl rfl rfl) (by decide) (by decide)) el_nil rfl) rfl) rfl) rfl) (by decide)) (by decide) (by decide) rfl rfl rfl rfl rfl) rfl)
  (svs_cons (sv_expr (ev_app (i := 3) rfl (by first | exact .inl rfl | exact .inr (.inl rfl) | exact .inr (.inr rfl)) (ev_tup (n := 4) (el_cons (ev_call (ok_pairs_maker c) rfl (hr.mono (by decide)) rfl (takes_of rfl rfl rfl rfl) (ea_cons (ev_var (i := 5) rfl (by first | exact .inl rfl | exact .inr (.inl rfl) | exact .inr (.inr rfl)) (lk rfl rfl rfl) (by decide) (by decide)) ea_nil rfl) (by decide) rfl rfl) (el_cons ev_str (el_cons (ev_var (i := 5) rfl (by first | exact .inl rfl | exact .inr (.inl rfl) | exact .inr (.inr rfl)) (lk rfl rfl rfl) (by decide) (by decide)) (el_cons (ev_var (i := 6) rfl (by first | exact .inl rfl | exact .inr (.inl rfl) | exact .inr (.inr rfl)) (lk rfl rfl rfl) (by decide) (by decide)) el_nil rfl) rfl) rfl) rfl) (by decide)) (by decide) (by decide) rfl rfl rfl rfl rfl) rfl)
  (svs_one (sv_expr (ev_app (i := 3) rfl (by first | exact .inl rfl | exact .inr (.inl rfl) | exact .inr (.inr rfl)) (ev_tup (n := 4) (el_cons (ev_call (ok_coins_maker c) rfl (hr.mono (by decide)) rfl (takes_of rfl rfl rfl rfl) (ea_cons (ev_var (i := 5) rfl (by first | exact .inl rfl | exact .inr (.inl rfl) | exact .inr (.inr rfl)) (lk rfl rfl rfl) (by decide) (by decide)) (ea_cons (ev_var (i := 6) rfl (by first | exact .inl rfl | exact .inr (.inl rfl) | exact .inr (.inr rfl)) (lk rfl rfl rfl) (by decide) (by decide)) ea_nil rfl) rfl) (by decide) rfl rfl) (el_cons ev_str (el_cons (ev_var (i := 5) rfl (by first | exact .inl rfl | exact .inr (.inl rfl) | exact .inr (.inr rfl)) (lk rfl rfl rfl) (by decide) (by decide)) (el_cons (ev_var (i := 6) rfl (by first | exact .inl rfl | exact .inr (.inl rfl) | exact .inr (.inr rfl)) (lk rfl rfl rfl) (by decide) (by decide)) el_nil rfl) rfl) rfl) rfl) (by decide)) (by decide) (by decide) rfl rfl rfl rfl rfl) rfl)))))) (fun _ => rfl))
  (svs_cons (sv_for (passes_of rfl) rfl (ei_range1 rfl c.b_range ev_int rfl) (eg_name (i := 4) sc_law.nd rfl (by first | exact .inl rfl | exact .inr rfl) (lk rfl rfl rfl) (by first | exact .inl rfl | exact .inr rfl))
  (svs_cons (sv_asg (eg_tup (n := 4) rfl (egs_cons (eg_name (i := 7) sc_law.nd rfl (by first | exact .inl rfl | exact .inr rfl) (lk rfl rfl rfl) (by first | exact .inl rfl | exact .inr rfl)) (egs_cons (eg_name (i := 8) sc_law.nd rfl (by first | exact .inl rfl | exact .inr rfl) (lk rfl rfl rfl) (by first | exact .inl rfl | exact .inr rfl)) (egs_cons (eg_name (i := 5) sc_law.nd rfl (by first | exact .inl rfl | exact .inr rfl) (lk rfl rfl rfl) (by first | exact .inl rfl | exact .inr rfl)) (egs_cons (eg_name (i := 6) sc_law.nd rfl (by first | exact .inl rfl | exact .inr rfl) (lk rfl rfl rfl) (by first | exact .inl rfl | exact .inr rfl)) egs_nil rfl) rfl) rfl) rfl) (gsCons_len (gsCons_len (gsCons_len (gsCons_len gsNil_len)))) rfl rfl) (ev_ixOwn (i := 3) rfl (by first | exact .inl rfl | exact .inr (.inl rfl) | exact .inr (.inr rfl)) (ev_call (ok__law_pull c) rfl (hr.mono (by decide)) rfl (takes_of rfl rfl rfl rfl) (ea_slot (i := 2) rfl (by first | exact .inl rfl | exact .inr (.inl rfl) | exact .inr (.inr rfl)) (ea_cons ev_int ea_nil rfl) rfl (by decide) (by decide)) (by decide) rfl rfl) (fun _ _ => rfl) (by decide) (by decide)) rfl rfl rfl)
  (svs_one (sv_if (et_not (et_val (ev_call (ok__law_right c) rfl (hr.mono (by decide)) rfl (takes_of rfl rfl rfl rfl) (ea_cons (ev_var (i := 7) rfl (by first | exact .inl rfl | exact .inr (.inl rfl) | exact .inr (.inr rfl)) (lk rfl rfl rfl) (by decide) (by decide)) (ea_cons (ev_var (i := 8) rfl (by first | exact .inl rfl | exact .inr (.inl rfl) | exact .inr (.inr rfl)) (lk rfl rfl rfl) (by decide) (by decide)) (ea_cons (ev_var (i := 5) rfl (by first | exact .inl rfl | exact .inr (.inl rfl) | exact .inr (.inr rfl)) (lk rfl rfl rfl) (by decide) (by decide)) (ea_cons (ev_var (i := 6) rfl (by first | exact .inl rfl | exact .inr (.inl rfl) | exact .inr (.inr rfl)) (lk rfl rfl rfl) (by decide) (by decide)) (ea_cons (ev_op opv_add ev_int (ev_call (ok__law_pull c) rfl (hr.mono (by decide)) rfl (takes_of rfl rfl rfl rfl) (ea_slot (i := 2) rfl (by first | exact .inl rfl | exact .inr (.inl rfl) | exact .inr (.inr rfl)) (ea_cons ev_int ea_nil rfl) rfl (by decide) (by decide)) (by decide) rfl rfl)) ea_nil rfl) rfl) rfl) rfl) rfl) (by decide) rfl rfl) (fun _ => rfl)))
  (svs_one (sv_ret ev_bl))
  svs_nil))) (fun _ => rfl))
  (svs_one (sv_if (et_not (et_val (ev_call (ok__law_refused c) rfl (hr.mono (by decide)) rfl (takes_of rfl rfl rfl rfl) (ea_slot (i := 2) rfl (by first | exact .inl rfl | exact .inr (.inl rfl) | exact .inr (.inr rfl)) (ea_cons (ev_var (i := 5) rfl (by first | exact .inl rfl | exact .inr (.inl rfl) | exact .inr (.inr rfl)) (lk rfl rfl rfl) (by decide) (by decide)) ea_nil rfl) rfl (by decide) (by decide)) (by decide) rfl rfl) (fun _ => rfl)))
  (svs_one (sv_ret ev_bl))
  svs_nil)))))) (fun _ => rfl))
  (svs_one (sv_ret ev_bl)))
theorem ok_law (c : Facts P w K mg base) : DefOk P w K mg base (TT K) "law" sig_law m_law 9 := by
  obtain ⟨fd, F⟩ := c.d_law
  obtain ⟨h1, h2⟩ := fn_law c F
  exact ⟨_, fd, _, c.g_law, h1, F.kp, h2⟩
end
end K62

set_option Elab.async false
set_option linter.all false
set_option maxRecDepth 100000
set_option maxHeartbeats 4000000
namespace K62
open PySem L2 Pv
def wholeB (lo hi : Int) : D → Bool
  | .int i => decide (lo ≤ i ∧ i ≤ hi)
  | _ => false
def plain : D → Bool
  | .ins _ _ => false
  | .clo _ _ => false
  | _ => true
theorem v_is_whole {d : D} {lo hi : Int} (h : plain d = true) : m_is_whole [d, .int lo, .int hi] = .ret (.bl (wholeB lo hi d)) [] := by
  unfold m_is_whole g_is_whole sig_is_whole
  cases d with
  | ins c fs => cases h
  | clo c fs => cases h
  | int i =>
    by_cases h1 : lo ≤ i
    · by_cases h2 : i ≤ hi <;> simp [Pv.seqM, Pv.ifM, Pv.setM, Pv.setOM, Pv.retM, Pv.retO, Pv.exprM, Pv.raiseM, Pv.binM, Pv.boolM, Pv.andM, Pv.orM, Pv.notM, Pv.andV, Pv.orV, Pv.notV, Pv.chainM, Pv.isiM, Pv.getS, Pv.ixOwn, Pv.peekM, Pv.peek, Pv.callM, Pv.callR, Pv.argD, Pv.apart, Pv.putMuts, Pv.consA, Pv.consS, Pv.nilA, Pv.consM, Pv.tupM, Pv.lstM, Pv.parM, Pv.lift, Pv.live, Pv.sd0, Pv.slotOf, Pv.resOf, Pv.mutsAt, Pv.Out.bind, Pv.Out.st, Pv.SOut.then, Pv.cI, Pv.cB, Pv.cN, Pv.cS, Pv.nilL, Pv.gI, Pv.yes, Pv.isKd, Pv.okI, Pv.ownAt, Pv.fldOwn, Pv.fldM, Pv.gFld, Pv.setFldM, Pv.setIxM, Pv.makeM, Pv.makeR, Pv.max2M, Pv.min2M, Pv.int2M, Pv.gAdd, Pv.gMul, Pv.gIx, Pv.gLen, Pv.atD, Pv.forM, Pv.forL, Pv.tupIM, Pv.listM, Pv.gNm, Pv.tyD, L2.atI, L2.ixN, List.lookup, wholeB, h1, h2]
    · simp [Pv.seqM, Pv.ifM, Pv.setM, Pv.setOM, Pv.retM, Pv.retO, Pv.exprM, Pv.raiseM, Pv.binM, Pv.boolM, Pv.andM, Pv.orM, Pv.notM, Pv.andV, Pv.orV, Pv.notV, Pv.chainM, Pv.isiM, Pv.getS, Pv.ixOwn, Pv.peekM, Pv.peek, Pv.callM, Pv.callR, Pv.argD, Pv.apart, Pv.putMuts, Pv.consA, Pv.consS, Pv.nilA, Pv.consM, Pv.tupM, Pv.lstM, Pv.parM, Pv.lift, Pv.live, Pv.sd0, Pv.slotOf, Pv.resOf, Pv.mutsAt, Pv.Out.bind, Pv.Out.st, Pv.SOut.then, Pv.cI, Pv.cB, Pv.cN, Pv.cS, Pv.nilL, Pv.gI, Pv.yes, Pv.isKd, Pv.okI, Pv.ownAt, Pv.fldOwn, Pv.fldM, Pv.gFld, Pv.setFldM, Pv.setIxM, Pv.makeM, Pv.makeR, Pv.max2M, Pv.min2M, Pv.int2M, Pv.gAdd, Pv.gMul, Pv.gIx, Pv.gLen, Pv.atD, Pv.forM, Pv.forL, Pv.tupIM, Pv.listM, Pv.gNm, Pv.tyD, L2.atI, L2.ixN, List.lookup, wholeB, h1]
  | _ => simp [Pv.seqM, Pv.ifM, Pv.setM, Pv.setOM, Pv.retM, Pv.retO, Pv.exprM, Pv.raiseM, Pv.binM, Pv.boolM, Pv.andM, Pv.orM, Pv.notM, Pv.andV, Pv.orV, Pv.notV, Pv.chainM, Pv.isiM, Pv.getS, Pv.ixOwn, Pv.peekM, Pv.peek, Pv.callM, Pv.callR, Pv.argD, Pv.apart, Pv.putMuts, Pv.consA, Pv.consS, Pv.nilA, Pv.consM, Pv.tupM, Pv.lstM, Pv.parM, Pv.lift, Pv.live, Pv.sd0, Pv.slotOf, Pv.resOf, Pv.mutsAt, Pv.Out.bind, Pv.Out.st, Pv.SOut.then, Pv.cI, Pv.cB, Pv.cN, Pv.cS, Pv.nilL, Pv.gI, Pv.yes, Pv.isKd, Pv.okI, Pv.ownAt, Pv.fldOwn, Pv.fldM, Pv.gFld, Pv.setFldM, Pv.setIxM, Pv.makeM, Pv.makeR, Pv.max2M, Pv.min2M, Pv.int2M, Pv.gAdd, Pv.gMul, Pv.gIx, Pv.gLen, Pv.atD, Pv.forM, Pv.forL, Pv.tupIM, Pv.listM, Pv.gNm, Pv.tyD, L2.atI, L2.ixN, List.lookup, wholeB]
theorem v_need_number {i lo hi : Int} (h : lo ≤ i ∧ i ≤ hi) : m_need_number [.int i, .int lo, .int hi] = .ret .non [] := by
  unfold m_need_number g_need_number sig_need_number
  have e := v_is_whole (d := .int i) (lo := lo) (hi := hi) rfl
  simp [Pv.seqM, Pv.ifM, Pv.setM, Pv.setOM, Pv.retM, Pv.retO, Pv.exprM, Pv.raiseM, Pv.binM, Pv.boolM, Pv.andM, Pv.orM, Pv.notM, Pv.andV, Pv.orV, Pv.notV, Pv.chainM, Pv.isiM, Pv.getS, Pv.ixOwn, Pv.peekM, Pv.peek, Pv.callM, Pv.callR, Pv.argD, Pv.apart, Pv.putMuts, Pv.consA, Pv.consS, Pv.nilA, Pv.consM, Pv.tupM, Pv.lstM, Pv.parM, Pv.lift, Pv.live, Pv.sd0, Pv.slotOf, Pv.resOf, Pv.mutsAt, Pv.Out.bind, Pv.Out.st, Pv.SOut.then, Pv.cI, Pv.cB, Pv.cN, Pv.cS, Pv.nilL, Pv.gI, Pv.yes, Pv.isKd, Pv.okI, Pv.ownAt, Pv.fldOwn, Pv.fldM, Pv.gFld, Pv.setFldM, Pv.setIxM, Pv.makeM, Pv.makeR, Pv.max2M, Pv.min2M, Pv.int2M, Pv.gAdd, Pv.gMul, Pv.gIx, Pv.gLen, Pv.atD, Pv.forM, Pv.forL, Pv.tupIM, Pv.listM, Pv.gNm, Pv.tyD, L2.atI, L2.ixN, List.lookup, sig_is_whole, e, wholeB, h]

theorem gcd_step (a b : Nat) : Nat.gcd b (a % b) = Nat.gcd a b := by
  rw [Nat.gcd_comm a b, Nat.gcd_comm b (a % b), ← Nat.gcd_rec]

/-- the loop of the greatest common part, its pair in the slots i, i + 1 -/
def gcC (j : Nat) : TM := boolM (binM (gI yes fun i j => .bl (decide (j < i))) (getS j) (cI 0))
def gcB (i j : Nat) : SM := parM i j (consM (getS j) (consM (binM (gI (fun _ j => decide (0 < j)) fun i j => .int (i % j)) (getS i) (getS j)) nilL))
theorem gcd_loop {pre : SD} : ∀ (n a b : Nat), b ≤ n → whileN (n + 1) (gcC (pre.length + 1)) (gcB pre.length (pre.length + 1)) (pre ++ [.val (.int (a : Nat)), .val (.int (b : Nat))]) = .next (pre ++ [.val (.int (Nat.gcd a b : Nat)), .val (.int 0)]) := by
  have ga : ∀ (x y : Slot), (pre ++ [x, y])[pre.length]? = some x := fun x y => by rw [List.getElem?_append_right (Nat.le_refl _)]; simp
  have gb : ∀ (x y : Slot), (pre ++ [x, y])[pre.length + 1]? = some y := fun x y => by rw [List.getElem?_append_right (by omega)]; simp
  have hc : ∀ (a b : Nat), gcC (pre.length + 1) (pre ++ [.val (.int (a : Nat)), .val (.int (b : Nat))]) = .ok (decide (0 < b)) (pre ++ [.val (.int (a : Nat)), .val (.int (b : Nat))]) := fun a b => by
    simp [gcC, Pv.boolM, Pv.binM, Pv.getS, gb, Out.bind, lift, gI, yes, cI]
  have hb : ∀ (a b : Nat), 0 < b → gcB pre.length (pre.length + 1) (pre ++ [.val (.int (a : Nat)), .val (.int (b : Nat))]) = .next (pre ++ [.val (.int (b : Nat)), .val (.int ((a % b : Nat) : Int))]) := fun a b h => by
    have h' : 0 < (b : Int) := by omega
    simp [gcB, Pv.parM, Pv.consM, Pv.binM, Pv.getS, ga, gb, Out.bind, Out.st, lift, gI, h', h, nilL, List.set_append]
  intro n
  induction n with
  | zero =>
    intro a b h
    obtain rfl : b = 0 := by omega
    unfold whileN
    rw [hc]
    simp [Out.st]
  | succ n ih =>
    intro a b h
    unfold whileN
    rw [hc]
    by_cases h0 : b = 0
    · subst h0
      simp [Out.st]
    · have hp := Nat.pos_of_ne_zero h0
      simp only [Out.st, hp, decide_true, if_true]
      rw [hb a b hp]
      have := ih b (a % b) (by have := Nat.mod_lt a hp; omega)
      rw [gcd_step] at this
      exact this
theorem v_common (a b : Nat) : m_common [.int a, .int b] = .ret (.int (Nat.gcd a b : Nat)) [] := by
  unfold m_common g_common sig_common
  have e := gcd_loop (pre := []) b a b (Nat.le_refl b)
  have em : whileM mu_common (gcC 1) (gcB 0 1) [.val (.int (a : Nat)), .val (.int (b : Nat))] = .next [.val (.int (Nat.gcd a b : Nat)), .val (.int 0)] := by
    unfold whileM
    have : mu_common [.val (.int (a : Nat)), .val (.int (b : Nat))] = b + 1 := by simp [mu_common]
    rw [this]
    exact e
  show resOf _ _ ((whileM mu_common (gcC 1) (gcB 0 1) [.val (.int (a : Nat)), .val (.int (b : Nat))]).then (retM (getS 0))) = _
  rw [em]
  simp [Pv.seqM, Pv.ifM, Pv.setM, Pv.setOM, Pv.retM, Pv.retO, Pv.exprM, Pv.raiseM, Pv.binM, Pv.boolM, Pv.andM, Pv.orM, Pv.notM, Pv.andV, Pv.orV, Pv.notV, Pv.chainM, Pv.isiM, Pv.getS, Pv.ixOwn, Pv.peekM, Pv.peek, Pv.callM, Pv.callR, Pv.argD, Pv.apart, Pv.putMuts, Pv.consA, Pv.consS, Pv.nilA, Pv.consM, Pv.tupM, Pv.lstM, Pv.parM, Pv.lift, Pv.live, Pv.sd0, Pv.slotOf, Pv.resOf, Pv.mutsAt, Pv.Out.bind, Pv.Out.st, Pv.SOut.then, Pv.cI, Pv.cB, Pv.cN, Pv.cS, Pv.nilL, Pv.gI, Pv.yes, Pv.isKd, Pv.okI, Pv.ownAt, Pv.fldOwn, Pv.fldM, Pv.gFld, Pv.setFldM, Pv.setIxM, Pv.makeM, Pv.makeR, Pv.max2M, Pv.min2M, Pv.int2M, Pv.gAdd, Pv.gMul, Pv.gIx, Pv.gLen, Pv.atD, Pv.forM, Pv.forL, Pv.tupIM, Pv.listM, Pv.gNm, Pv.tyD, L2.atI, L2.ixN, List.lookup]
theorem v_share (a b : Nat) (h : 0 < b) (hz : b < 2 ^ 60) : m__law_share [.int a, .int b] = .ret (.tup [.int ((a / Nat.gcd a b : Nat) : Int), .int ((b / Nat.gcd a b : Nat) : Int)]) [] := by
  unfold m__law_share g__law_share sig__law_share
  have e := gcd_loop (pre := [.val (.int (a : Nat)), .val (.int (b : Nat))]) b a b (Nat.le_refl b)
  have em : whileM mu_share (gcC 3) (gcB 2 3) [.val (.int (a : Nat)), .val (.int (b : Nat)), .val (.int (a : Nat)), .val (.int (b : Nat))] = .next [.val (.int (a : Nat)), .val (.int (b : Nat)), .val (.int (Nat.gcd a b : Nat)), .val (.int 0)] := by
    unfold whileM
    have : mu_share [.val (.int (a : Nat)), .val (.int (b : Nat)), .val (.int (a : Nat)), .val (.int (b : Nat))] = b + 1 := by simp [mu_share]
    rw [this]
    exact e
  have g0 : 0 < Nat.gcd a b := Nat.gcd_pos_of_pos_right a h
  have g1 : Nat.gcd a b ≤ b := Nat.gcd_le_right a h
  have hd : ∀ x : Int, divOk x (Nat.gcd a b : Nat) = true := fun x => divOk_of (b := 60) (by omega) (by rw [Int.natAbs_natCast]; omega) (by decide) (by decide)
  show resOf _ _ ((parM 2 3 (consM (getS 0) (consM (getS 1) nilL)) [.val (.int (a : Nat)), .val (.int (b : Nat)), .non, .non]).then fun s => (whileM mu_share (gcC 3) (gcB 2 3) s).then (retM (tupM 2 (consM (binM (gI divOk fun i j => .int (i / j)) (getS 0) (getS 2)) (consM (binM (gI divOk fun i j => .int (i / j)) (getS 1) (getS 2)) nilL))))) = _
  rw [show parM 2 3 (consM (getS 0) (consM (getS 1) nilL)) [.val (.int (a : Nat)), .val (.int (b : Nat)), .non, .non] = .next [.val (.int (a : Nat)), .val (.int (b : Nat)), .val (.int (a : Nat)), .val (.int (b : Nat))] from by simp [Pv.seqM, Pv.ifM, Pv.setM, Pv.setOM, Pv.retM, Pv.retO, Pv.exprM, Pv.raiseM, Pv.binM, Pv.boolM, Pv.andM, Pv.orM, Pv.notM, Pv.andV, Pv.orV, Pv.notV, Pv.chainM, Pv.isiM, Pv.getS, Pv.ixOwn, Pv.peekM, Pv.peek, Pv.callM, Pv.callR, Pv.argD, Pv.apart, Pv.putMuts, Pv.consA, Pv.consS, Pv.nilA, Pv.consM, Pv.tupM, Pv.lstM, Pv.parM, Pv.lift, Pv.live, Pv.sd0, Pv.slotOf, Pv.resOf, Pv.mutsAt, Pv.Out.bind, Pv.Out.st, Pv.SOut.then, Pv.cI, Pv.cB, Pv.cN, Pv.cS, Pv.nilL, Pv.gI, Pv.yes, Pv.isKd, Pv.okI, Pv.ownAt, Pv.fldOwn, Pv.fldM, Pv.gFld, Pv.setFldM, Pv.setIxM, Pv.makeM, Pv.makeR, Pv.max2M, Pv.min2M, Pv.int2M, Pv.gAdd, Pv.gMul, Pv.gIx, Pv.gLen, Pv.atD, Pv.forM, Pv.forL, Pv.tupIM, Pv.listM, Pv.gNm, Pv.tyD, L2.atI, L2.ixN, List.lookup]]
  simp only [SOut.then]
  rw [em]
  simp [Pv.seqM, Pv.ifM, Pv.setM, Pv.setOM, Pv.retM, Pv.retO, Pv.exprM, Pv.raiseM, Pv.binM, Pv.boolM, Pv.andM, Pv.orM, Pv.notM, Pv.andV, Pv.orV, Pv.notV, Pv.chainM, Pv.isiM, Pv.getS, Pv.ixOwn, Pv.peekM, Pv.peek, Pv.callM, Pv.callR, Pv.argD, Pv.apart, Pv.putMuts, Pv.consA, Pv.consS, Pv.nilA, Pv.consM, Pv.tupM, Pv.lstM, Pv.parM, Pv.lift, Pv.live, Pv.sd0, Pv.slotOf, Pv.resOf, Pv.mutsAt, Pv.Out.bind, Pv.Out.st, Pv.SOut.then, Pv.cI, Pv.cB, Pv.cN, Pv.cS, Pv.nilL, Pv.gI, Pv.yes, Pv.isKd, Pv.okI, Pv.ownAt, Pv.fldOwn, Pv.fldM, Pv.gFld, Pv.setFldM, Pv.setIxM, Pv.makeM, Pv.makeR, Pv.max2M, Pv.min2M, Pv.int2M, Pv.gAdd, Pv.gMul, Pv.gIx, Pv.gLen, Pv.atD, Pv.forM, Pv.forL, Pv.tupIM, Pv.listM, Pv.gNm, Pv.tyD, L2.atI, L2.ixN, List.lookup, hd]

/-! ### coins -/
/-- a share in its lowest terms -/
theorem v_are_parts (a b : Nat) (h : a ≤ b) (hb : 0 < b) : m_are_parts [.int a, .int b] = .ret (.bl true) [] := by
  unfold m_are_parts g_are_parts sig_are_parts
  have h1 : (1 : Int) ≤ b := by omega
  have h2 : (a : Int) ≤ b := by omega
  have h3 : (0 : Int) ≤ a := by omega
  simp [Pv.seqM, Pv.ifM, Pv.setM, Pv.setOM, Pv.retM, Pv.retO, Pv.exprM, Pv.raiseM, Pv.binM, Pv.boolM, Pv.andM, Pv.orM, Pv.notM, Pv.andV, Pv.orV, Pv.notV, Pv.chainM, Pv.isiM, Pv.getS, Pv.ixOwn, Pv.peekM, Pv.peek, Pv.callM, Pv.callR, Pv.argD, Pv.apart, Pv.putMuts, Pv.consA, Pv.consS, Pv.nilA, Pv.consM, Pv.tupM, Pv.lstM, Pv.parM, Pv.lift, Pv.live, Pv.sd0, Pv.slotOf, Pv.resOf, Pv.mutsAt, Pv.Out.bind, Pv.Out.st, Pv.SOut.then, Pv.cI, Pv.cB, Pv.cN, Pv.cS, Pv.nilL, Pv.gI, Pv.yes, Pv.isKd, Pv.okI, Pv.ownAt, Pv.fldOwn, Pv.fldM, Pv.gFld, Pv.setFldM, Pv.setIxM, Pv.makeM, Pv.makeR, Pv.max2M, Pv.min2M, Pv.int2M, Pv.gAdd, Pv.gMul, Pv.gIx, Pv.gLen, Pv.atD, Pv.forM, Pv.forL, Pv.tupIM, Pv.listM, Pv.gNm, Pv.tyD, L2.atI, L2.ixN, List.lookup, h1, h2, h3, h, hb, sizeLine_eq]
theorem v_is_share (a b : Nat) (h : a ≤ b) (hb : 0 < b) (hg : Nat.gcd a b = 1) : m_is_share [.tup [.int a, .int b]] = .ret (.bl true) [] := by
  unfold m_is_share g_is_share sig_is_share
  have e1 := v_are_parts a b h hb
  have e2 := v_common a b
  rw [hg] at e2
  simp [Pv.seqM, Pv.ifM, Pv.setM, Pv.setOM, Pv.retM, Pv.retO, Pv.exprM, Pv.raiseM, Pv.binM, Pv.boolM, Pv.andM, Pv.orM, Pv.notM, Pv.andV, Pv.orV, Pv.notV, Pv.chainM, Pv.isiM, Pv.getS, Pv.ixOwn, Pv.peekM, Pv.peek, Pv.callM, Pv.callR, Pv.argD, Pv.apart, Pv.putMuts, Pv.consA, Pv.consS, Pv.nilA, Pv.consM, Pv.tupM, Pv.lstM, Pv.parM, Pv.lift, Pv.live, Pv.sd0, Pv.slotOf, Pv.resOf, Pv.mutsAt, Pv.Out.bind, Pv.Out.st, Pv.SOut.then, Pv.cI, Pv.cB, Pv.cN, Pv.cS, Pv.nilL, Pv.gI, Pv.yes, Pv.isKd, Pv.okI, Pv.ownAt, Pv.fldOwn, Pv.fldM, Pv.gFld, Pv.setFldM, Pv.setIxM, Pv.makeM, Pv.makeR, Pv.max2M, Pv.min2M, Pv.int2M, Pv.gAdd, Pv.gMul, Pv.gIx, Pv.gLen, Pv.atD, Pv.forM, Pv.forL, Pv.tupIM, Pv.listM, Pv.gNm, Pv.tyD, L2.atI, L2.ixN, List.lookup, sig_are_parts, sig_common, e1, e2, gNeT, gNe, gEqT, gEq, eqD, toPy, SeqAt.shaped, PyData.canLay0, PyData.depth, PyData.eqv]

theorem v_need_coin (a b : Nat) (h0 : 0 < a) (h : a < b) (hb : b ≤ 100) (hg : Nat.gcd a b = 1) : m_need_coin [.tup [.int a, .int b]] = .ret .non [] := by
  unfold m_need_coin g_need_coin sig_need_coin
  have e1 := v_is_share a b (by omega) (by omega) hg
  have h1 : (a : Int) ≠ 0 := by omega
  have h2 : (a : Int) ≠ b := by omega
  have h3 : ¬ ((100 : Int) < b) := by omega
  have h4 : a ≠ 0 := by omega
  have h5 : a ≠ b := by omega
  have h6 : ¬ (100 < b) := by omega
  simp [Pv.seqM, Pv.ifM, Pv.setM, Pv.setOM, Pv.retM, Pv.retO, Pv.exprM, Pv.raiseM, Pv.binM, Pv.boolM, Pv.andM, Pv.orM, Pv.notM, Pv.andV, Pv.orV, Pv.notV, Pv.chainM, Pv.isiM, Pv.getS, Pv.ixOwn, Pv.peekM, Pv.peek, Pv.callM, Pv.callR, Pv.argD, Pv.apart, Pv.putMuts, Pv.consA, Pv.consS, Pv.nilA, Pv.consM, Pv.tupM, Pv.lstM, Pv.parM, Pv.lift, Pv.live, Pv.sd0, Pv.slotOf, Pv.resOf, Pv.mutsAt, Pv.Out.bind, Pv.Out.st, Pv.SOut.then, Pv.cI, Pv.cB, Pv.cN, Pv.cS, Pv.nilL, Pv.gI, Pv.yes, Pv.isKd, Pv.okI, Pv.ownAt, Pv.fldOwn, Pv.fldM, Pv.gFld, Pv.setFldM, Pv.setIxM, Pv.makeM, Pv.makeR, Pv.max2M, Pv.min2M, Pv.int2M, Pv.gAdd, Pv.gMul, Pv.gIx, Pv.gLen, Pv.atD, Pv.forM, Pv.forL, Pv.tupIM, Pv.listM, Pv.gNm, Pv.tyD, L2.atI, L2.ixN, List.lookup, sig_is_share, e1, gEqT, gEq, eqD, toPy, SeqAt.shaped, PyData.canLay0, PyData.depth, PyData.eqv, h1, h2, h3, h4, h5, h6]
theorem v_Rule (c : Nat) (n : Int) (hc : c = 3 ∨ c = 4 ∨ c = 5) : m_Rule___init__ [.ins c [], .int n] = .ret .non [.ins c [(2, .int n)]] := by
  unfold m_Rule___init__ g_Rule___init__ sig_Rule___init__
  rcases hc with rfl | rfl | rfl <;> simp [Pv.seqM, Pv.ifM, Pv.setM, Pv.setOM, Pv.retM, Pv.retO, Pv.exprM, Pv.raiseM, Pv.binM, Pv.boolM, Pv.andM, Pv.orM, Pv.notM, Pv.andV, Pv.orV, Pv.notV, Pv.chainM, Pv.isiM, Pv.getS, Pv.ixOwn, Pv.peekM, Pv.peek, Pv.callM, Pv.callR, Pv.argD, Pv.apart, Pv.putMuts, Pv.consA, Pv.consS, Pv.nilA, Pv.consM, Pv.tupM, Pv.lstM, Pv.parM, Pv.lift, Pv.live, Pv.sd0, Pv.slotOf, Pv.resOf, Pv.mutsAt, Pv.Out.bind, Pv.Out.st, Pv.SOut.then, Pv.cI, Pv.cB, Pv.cN, Pv.cS, Pv.nilL, Pv.gI, Pv.yes, Pv.isKd, Pv.okI, Pv.ownAt, Pv.fldOwn, Pv.fldM, Pv.gFld, Pv.setFldM, Pv.setIxM, Pv.makeM, Pv.makeR, Pv.max2M, Pv.min2M, Pv.int2M, Pv.gAdd, Pv.gMul, Pv.gIx, Pv.gLen, Pv.atD, Pv.forM, Pv.forL, Pv.tupIM, Pv.listM, Pv.gNm, Pv.tyD, L2.atI, L2.ixN, List.lookup, csI, putD]
theorem v_Split (n o : Int) (h1 : 1 ≤ n ∧ n ≤ 20) (h2 : 0 ≤ o ∧ o ≤ n) : m_Split___init__ [.ins 3 [], .int n, .int o] = .ret .non [.ins 3 [(2, .int n), (3, .int o)]] := by
  unfold m_Split___init__ g_Split___init__ sig_Split___init__
  have e1 := v_need_number h1
  have e2 := v_need_number h2
  have e3 := v_Rule 3 n (.inl rfl)
  simp [Pv.seqM, Pv.ifM, Pv.setM, Pv.setOM, Pv.retM, Pv.retO, Pv.exprM, Pv.raiseM, Pv.binM, Pv.boolM, Pv.andM, Pv.orM, Pv.notM, Pv.andV, Pv.orV, Pv.notV, Pv.chainM, Pv.isiM, Pv.getS, Pv.ixOwn, Pv.peekM, Pv.peek, Pv.callM, Pv.callR, Pv.argD, Pv.apart, Pv.putMuts, Pv.consA, Pv.consS, Pv.nilA, Pv.consM, Pv.tupM, Pv.lstM, Pv.parM, Pv.lift, Pv.live, Pv.sd0, Pv.slotOf, Pv.resOf, Pv.mutsAt, Pv.Out.bind, Pv.Out.st, Pv.SOut.then, Pv.cI, Pv.cB, Pv.cN, Pv.cS, Pv.nilL, Pv.gI, Pv.yes, Pv.isKd, Pv.okI, Pv.ownAt, Pv.fldOwn, Pv.fldM, Pv.gFld, Pv.setFldM, Pv.setIxM, Pv.makeM, Pv.makeR, Pv.max2M, Pv.min2M, Pv.int2M, Pv.gAdd, Pv.gMul, Pv.gIx, Pv.gLen, Pv.atD, Pv.forM, Pv.forL, Pv.tupIM, Pv.listM, Pv.gNm, Pv.tyD, L2.atI, L2.ixN, List.lookup, csI, sig_need_number, sig_Rule___init__, e1, e2, e3, putD]
theorem v_Pairs (n : Int) (a b : Nat) (h1 : 1 ≤ n ∧ n ≤ 10) (h0 : 0 < a) (h : a < b) (hb : b ≤ 100) (hg : Nat.gcd a b = 1) : m_Pairs___init__ [.ins 4 [], .int n, .tup [.int a, .int b]] = .ret .non [.ins 4 [(2, .int (2 * n)), (4, .tup [.int a, .int b])]] := by
  unfold m_Pairs___init__ g_Pairs___init__ sig_Pairs___init__
  have e1 := v_need_number h1
  have e2 := v_need_coin a b h0 h hb hg
  have e3 := v_Rule 4 (2 * n) (.inr (.inl rfl))
  have hm : mulOk 2 n = true := mulOk_of (a := 2) (b := 5) (by decide) (by omega) (by decide) (by decide) (by decide)
  simp [Pv.seqM, Pv.ifM, Pv.setM, Pv.setOM, Pv.retM, Pv.retO, Pv.exprM, Pv.raiseM, Pv.binM, Pv.boolM, Pv.andM, Pv.orM, Pv.notM, Pv.andV, Pv.orV, Pv.notV, Pv.chainM, Pv.isiM, Pv.getS, Pv.ixOwn, Pv.peekM, Pv.peek, Pv.callM, Pv.callR, Pv.argD, Pv.apart, Pv.putMuts, Pv.consA, Pv.consS, Pv.nilA, Pv.consM, Pv.tupM, Pv.lstM, Pv.parM, Pv.lift, Pv.live, Pv.sd0, Pv.slotOf, Pv.resOf, Pv.mutsAt, Pv.Out.bind, Pv.Out.st, Pv.SOut.then, Pv.cI, Pv.cB, Pv.cN, Pv.cS, Pv.nilL, Pv.gI, Pv.yes, Pv.isKd, Pv.okI, Pv.ownAt, Pv.fldOwn, Pv.fldM, Pv.gFld, Pv.setFldM, Pv.setIxM, Pv.makeM, Pv.makeR, Pv.max2M, Pv.min2M, Pv.int2M, Pv.gAdd, Pv.gMul, Pv.gIx, Pv.gLen, Pv.atD, Pv.forM, Pv.forL, Pv.tupIM, Pv.listM, Pv.gNm, Pv.tyD, L2.atI, L2.ixN, List.lookup, csI, sig_need_number, sig_need_coin, sig_Rule___init__, e1, e2, e3, putD, hm]
theorem v_Coins (n f : Int) (a b : Nat) (h1 : 1 ≤ n ∧ n ≤ 20) (h2 : 1 ≤ f ∧ f ≤ 20) (h0 : 0 < a) (h : a < b) (hb : b ≤ 100) (hg : Nat.gcd a b = 1) :
    m_Coins___init__ [.ins 5 [], .int n, .tup [.int a, .int b], .int f] = .ret .non [.ins 5 [(2, .int n), (4, .tup [.int a, .int b]), (5, .int f)]] := by
  unfold m_Coins___init__ g_Coins___init__ sig_Coins___init__
  have e1 := v_need_number h1
  have e2 := v_need_coin a b h0 h hb hg
  have e4 := v_need_number h2
  have e3 := v_Rule 5 n (.inr (.inr rfl))
  simp [Pv.seqM, Pv.ifM, Pv.setM, Pv.setOM, Pv.retM, Pv.retO, Pv.exprM, Pv.raiseM, Pv.binM, Pv.boolM, Pv.andM, Pv.orM, Pv.notM, Pv.andV, Pv.orV, Pv.notV, Pv.chainM, Pv.isiM, Pv.getS, Pv.ixOwn, Pv.peekM, Pv.peek, Pv.callM, Pv.callR, Pv.argD, Pv.apart, Pv.putMuts, Pv.consA, Pv.consS, Pv.nilA, Pv.consM, Pv.tupM, Pv.lstM, Pv.parM, Pv.lift, Pv.live, Pv.sd0, Pv.slotOf, Pv.resOf, Pv.mutsAt, Pv.Out.bind, Pv.Out.st, Pv.SOut.then, Pv.cI, Pv.cB, Pv.cN, Pv.cS, Pv.nilL, Pv.gI, Pv.yes, Pv.isKd, Pv.okI, Pv.ownAt, Pv.fldOwn, Pv.fldM, Pv.gFld, Pv.setFldM, Pv.setIxM, Pv.makeM, Pv.makeR, Pv.max2M, Pv.min2M, Pv.int2M, Pv.gAdd, Pv.gMul, Pv.gIx, Pv.gLen, Pv.atD, Pv.forM, Pv.forL, Pv.tupIM, Pv.listM, Pv.gNm, Pv.tyD, L2.atI, L2.ixN, List.lookup, csI, sig_need_number, sig_need_coin, sig_Rule___init__, e1, e2, e3, e4, putD]

/-! ### makers -/
theorem div2_ok (n : Int) : divOk n 2 = true := divOk_of (b := 2) (by decide) (by decide) (by decide) (by decide)
theorem v_site0 (n : Int) (h1 : 1 ≤ n ∧ n ≤ 20) : mc_site0 [] [.int n] = .ret (.ins 3 [(2, .int n), (3, .int (n / 2))]) [] := by
  unfold mc_site0 g_site0
  have e := v_Split n (n / 2) h1 (by omega)
  simp [Pv.seqM, Pv.ifM, Pv.setM, Pv.setOM, Pv.retM, Pv.retO, Pv.exprM, Pv.raiseM, Pv.binM, Pv.boolM, Pv.andM, Pv.orM, Pv.notM, Pv.andV, Pv.orV, Pv.notV, Pv.chainM, Pv.isiM, Pv.getS, Pv.ixOwn, Pv.peekM, Pv.peek, Pv.callM, Pv.callR, Pv.argD, Pv.apart, Pv.putMuts, Pv.consA, Pv.consS, Pv.nilA, Pv.consM, Pv.tupM, Pv.lstM, Pv.parM, Pv.lift, Pv.live, Pv.sd0, Pv.slotOf, Pv.resOf, Pv.mutsAt, Pv.Out.bind, Pv.Out.st, Pv.SOut.then, Pv.cI, Pv.cB, Pv.cN, Pv.cS, Pv.nilL, Pv.gI, Pv.yes, Pv.isKd, Pv.okI, Pv.ownAt, Pv.fldOwn, Pv.fldM, Pv.gFld, Pv.setFldM, Pv.setIxM, Pv.makeM, Pv.makeR, Pv.max2M, Pv.min2M, Pv.int2M, Pv.gAdd, Pv.gMul, Pv.gIx, Pv.gLen, Pv.atD, Pv.forM, Pv.forL, Pv.tupIM, Pv.listM, Pv.gNm, Pv.tyD, L2.atI, L2.ixN, List.lookup, sigA_Split, e, div2_ok, resE]
theorem v_site1 (n x : Int) (a b : Nat) (h1 : 1 ≤ n ∧ n ≤ 20) (h0 : 0 < a) (h : a < b) (hb : b ≤ 100) (hg : Nat.gcd a b = 1) :
    mc_site1 [.ins 4 [(2, .int x), (4, .tup [.int a, .int b])]] [.int n] = .ret (if n % 2 = 1 then .non else .ins 4 [(2, .int (2 * (n / 2))), (4, .tup [.int a, .int b])]) [] := by
  unfold mc_site1 g_site1
  by_cases h2 : n % 2 = 1
  · simp [Pv.seqM, Pv.ifM, Pv.setM, Pv.setOM, Pv.retM, Pv.retO, Pv.exprM, Pv.raiseM, Pv.binM, Pv.boolM, Pv.andM, Pv.orM, Pv.notM, Pv.andV, Pv.orV, Pv.notV, Pv.chainM, Pv.isiM, Pv.getS, Pv.ixOwn, Pv.peekM, Pv.peek, Pv.callM, Pv.callR, Pv.argD, Pv.apart, Pv.putMuts, Pv.consA, Pv.consS, Pv.nilA, Pv.consM, Pv.tupM, Pv.lstM, Pv.parM, Pv.lift, Pv.live, Pv.sd0, Pv.slotOf, Pv.resOf, Pv.mutsAt, Pv.Out.bind, Pv.Out.st, Pv.SOut.then, Pv.cI, Pv.cB, Pv.cN, Pv.cS, Pv.nilL, Pv.gI, Pv.yes, Pv.isKd, Pv.okI, Pv.ownAt, Pv.fldOwn, Pv.fldM, Pv.gFld, Pv.setFldM, Pv.setIxM, Pv.makeM, Pv.makeR, Pv.max2M, Pv.min2M, Pv.int2M, Pv.gAdd, Pv.gMul, Pv.gIx, Pv.gLen, Pv.atD, Pv.forM, Pv.forL, Pv.tupIM, Pv.listM, Pv.gNm, Pv.tyD, L2.atI, L2.ixN, List.lookup, csI, asgM, gTp, gsCons, gsNil, okDm, gDivmod, gEqT, gEq, eqD, toPy, SeqAt.shaped, PyData.canLay0, PyData.depth, PyData.eqv, h2]
  · have e := v_Pairs (n / 2) a b (by omega) h0 h hb hg
    simp [Pv.seqM, Pv.ifM, Pv.setM, Pv.setOM, Pv.retM, Pv.retO, Pv.exprM, Pv.raiseM, Pv.binM, Pv.boolM, Pv.andM, Pv.orM, Pv.notM, Pv.andV, Pv.orV, Pv.notV, Pv.chainM, Pv.isiM, Pv.getS, Pv.ixOwn, Pv.peekM, Pv.peek, Pv.callM, Pv.callR, Pv.argD, Pv.apart, Pv.putMuts, Pv.consA, Pv.consS, Pv.nilA, Pv.consM, Pv.tupM, Pv.lstM, Pv.parM, Pv.lift, Pv.live, Pv.sd0, Pv.slotOf, Pv.resOf, Pv.mutsAt, Pv.Out.bind, Pv.Out.st, Pv.SOut.then, Pv.cI, Pv.cB, Pv.cN, Pv.cS, Pv.nilL, Pv.gI, Pv.yes, Pv.isKd, Pv.okI, Pv.ownAt, Pv.fldOwn, Pv.fldM, Pv.gFld, Pv.setFldM, Pv.setIxM, Pv.makeM, Pv.makeR, Pv.max2M, Pv.min2M, Pv.int2M, Pv.gAdd, Pv.gMul, Pv.gIx, Pv.gLen, Pv.atD, Pv.forM, Pv.forL, Pv.tupIM, Pv.listM, Pv.gNm, Pv.tyD, L2.atI, L2.ixN, List.lookup, csI, asgM, gTp, gsCons, gsNil, okDm, gDivmod, gEqT, gEq, eqD, toPy, SeqAt.shaped, PyData.canLay0, PyData.depth, PyData.eqv, h2, sigA_Pairs, e]
theorem v_site2 (n x f : Int) (a b : Nat) (h1 : 1 ≤ n ∧ n ≤ 20) (h2 : 1 ≤ f ∧ f ≤ 20) (h0 : 0 < a) (h : a < b) (hb : b ≤ 100) (hg : Nat.gcd a b = 1) :
    mc_site2 [.ins 5 [(2, .int x), (4, .tup [.int a, .int b]), (5, .int f)]] [.int n] = .ret (.ins 5 [(2, .int n), (4, .tup [.int a, .int b]), (5, .int f)]) [] := by
  unfold mc_site2 g_site2
  have e := v_Coins n f a b h1 h2 h0 h hb hg
  simp [Pv.seqM, Pv.ifM, Pv.setM, Pv.setOM, Pv.retM, Pv.retO, Pv.exprM, Pv.raiseM, Pv.binM, Pv.boolM, Pv.andM, Pv.orM, Pv.notM, Pv.andV, Pv.orV, Pv.notV, Pv.chainM, Pv.isiM, Pv.getS, Pv.ixOwn, Pv.peekM, Pv.peek, Pv.callM, Pv.callR, Pv.argD, Pv.apart, Pv.putMuts, Pv.consA, Pv.consS, Pv.nilA, Pv.consM, Pv.tupM, Pv.lstM, Pv.parM, Pv.lift, Pv.live, Pv.sd0, Pv.slotOf, Pv.resOf, Pv.mutsAt, Pv.Out.bind, Pv.Out.st, Pv.SOut.then, Pv.cI, Pv.cB, Pv.cN, Pv.cS, Pv.nilL, Pv.gI, Pv.yes, Pv.isKd, Pv.okI, Pv.ownAt, Pv.fldOwn, Pv.fldM, Pv.gFld, Pv.setFldM, Pv.setIxM, Pv.makeM, Pv.makeR, Pv.max2M, Pv.min2M, Pv.int2M, Pv.gAdd, Pv.gMul, Pv.gIx, Pv.gLen, Pv.atD, Pv.forM, Pv.forL, Pv.tupIM, Pv.listM, Pv.gNm, Pv.tyD, L2.atI, L2.ixN, List.lookup, csI, sigA_Coins, e, resE]
theorem v_split_maker : m_split_maker [] = .ret (.clo 0 []) [] := by
  unfold m_split_maker g_split_maker sig_split_maker
  simp [Pv.seqM, Pv.ifM, Pv.setM, Pv.setOM, Pv.retM, Pv.retO, Pv.exprM, Pv.raiseM, Pv.binM, Pv.boolM, Pv.andM, Pv.orM, Pv.notM, Pv.andV, Pv.orV, Pv.notV, Pv.chainM, Pv.isiM, Pv.getS, Pv.ixOwn, Pv.peekM, Pv.peek, Pv.callM, Pv.callR, Pv.argD, Pv.apart, Pv.putMuts, Pv.consA, Pv.consS, Pv.nilA, Pv.consM, Pv.tupM, Pv.lstM, Pv.parM, Pv.lift, Pv.live, Pv.sd0, Pv.slotOf, Pv.resOf, Pv.mutsAt, Pv.Out.bind, Pv.Out.st, Pv.SOut.then, Pv.cI, Pv.cB, Pv.cN, Pv.cS, Pv.nilL, Pv.gI, Pv.yes, Pv.isKd, Pv.okI, Pv.ownAt, Pv.fldOwn, Pv.fldM, Pv.gFld, Pv.setFldM, Pv.setIxM, Pv.makeM, Pv.makeR, Pv.max2M, Pv.min2M, Pv.int2M, Pv.gAdd, Pv.gMul, Pv.gIx, Pv.gLen, Pv.atD, Pv.forM, Pv.forL, Pv.tupIM, Pv.listM, Pv.gNm, Pv.tyD, L2.atI, L2.ixN, List.lookup, resC, frzD, valsD]
theorem v_pairs_maker (a b : Nat) (h0 : 0 < a) (h : a < b) (hb : b ≤ 100) (hg : Nat.gcd a b = 1) : m_pairs_maker [.tup [.int a, .int b]] = .ret (.clo 1 [.ins 4 [(2, .int 2), (4, .tup [.int a, .int b])]]) [] := by
  unfold m_pairs_maker g_pairs_maker sig_pairs_maker
  have e := v_Pairs 1 a b (by decide) h0 h hb hg
  simp [Pv.seqM, Pv.ifM, Pv.setM, Pv.setOM, Pv.retM, Pv.retO, Pv.exprM, Pv.raiseM, Pv.binM, Pv.boolM, Pv.andM, Pv.orM, Pv.notM, Pv.andV, Pv.orV, Pv.notV, Pv.chainM, Pv.isiM, Pv.getS, Pv.ixOwn, Pv.peekM, Pv.peek, Pv.callM, Pv.callR, Pv.argD, Pv.apart, Pv.putMuts, Pv.consA, Pv.consS, Pv.nilA, Pv.consM, Pv.tupM, Pv.lstM, Pv.parM, Pv.lift, Pv.live, Pv.sd0, Pv.slotOf, Pv.resOf, Pv.mutsAt, Pv.Out.bind, Pv.Out.st, Pv.SOut.then, Pv.cI, Pv.cB, Pv.cN, Pv.cS, Pv.nilL, Pv.gI, Pv.yes, Pv.isKd, Pv.okI, Pv.ownAt, Pv.fldOwn, Pv.fldM, Pv.gFld, Pv.setFldM, Pv.setIxM, Pv.makeM, Pv.makeR, Pv.max2M, Pv.min2M, Pv.int2M, Pv.gAdd, Pv.gMul, Pv.gIx, Pv.gLen, Pv.atD, Pv.forM, Pv.forL, Pv.tupIM, Pv.listM, Pv.gNm, Pv.tyD, L2.atI, L2.ixN, List.lookup, sigA_Pairs, e, resC, frzD, valsD]
theorem v_coins_maker (f : Int) (a b : Nat) (h2 : 1 ≤ f ∧ f ≤ 20) (h0 : 0 < a) (h : a < b) (hb : b ≤ 100) (hg : Nat.gcd a b = 1) : m_coins_maker [.tup [.int a, .int b], .int f] = .ret (.clo 2 [.ins 5 [(2, .int 1), (4, .tup [.int a, .int b]), (5, .int f)]]) [] := by
  unfold m_coins_maker g_coins_maker sig_coins_maker
  have e := v_Coins 1 f a b (by decide) h2 h0 h hb hg
  simp [Pv.seqM, Pv.ifM, Pv.setM, Pv.setOM, Pv.retM, Pv.retO, Pv.exprM, Pv.raiseM, Pv.binM, Pv.boolM, Pv.andM, Pv.orM, Pv.notM, Pv.andV, Pv.orV, Pv.notV, Pv.chainM, Pv.isiM, Pv.getS, Pv.ixOwn, Pv.peekM, Pv.peek, Pv.callM, Pv.callR, Pv.argD, Pv.apart, Pv.putMuts, Pv.consA, Pv.consS, Pv.nilA, Pv.consM, Pv.tupM, Pv.lstM, Pv.parM, Pv.lift, Pv.live, Pv.sd0, Pv.slotOf, Pv.resOf, Pv.mutsAt, Pv.Out.bind, Pv.Out.st, Pv.SOut.then, Pv.cI, Pv.cB, Pv.cN, Pv.cS, Pv.nilL, Pv.gI, Pv.yes, Pv.isKd, Pv.okI, Pv.ownAt, Pv.fldOwn, Pv.fldM, Pv.gFld, Pv.setFldM, Pv.setIxM, Pv.makeM, Pv.makeR, Pv.max2M, Pv.min2M, Pv.int2M, Pv.gAdd, Pv.gMul, Pv.gIx, Pv.gLen, Pv.atD, Pv.forM, Pv.forL, Pv.tupIM, Pv.listM, Pv.gNm, Pv.tyD, L2.atI, L2.ixN, List.lookup, sigA_Coins, e, resC, frzD, valsD]
/-! ### what is told -/
theorem v_told0 (n o : Int) : m_Split_told [.ins 3 [(2, .int n), (3, .int o)]] = .ret (.tup [.str "split", .int n, .int o]) [] := by
  unfold m_Split_told g_Split_told sig_Split_told
  simp [Pv.seqM, Pv.ifM, Pv.setM, Pv.setOM, Pv.retM, Pv.retO, Pv.exprM, Pv.raiseM, Pv.binM, Pv.boolM, Pv.andM, Pv.orM, Pv.notM, Pv.andV, Pv.orV, Pv.notV, Pv.chainM, Pv.isiM, Pv.getS, Pv.ixOwn, Pv.peekM, Pv.peek, Pv.callM, Pv.callR, Pv.argD, Pv.apart, Pv.putMuts, Pv.consA, Pv.consS, Pv.nilA, Pv.consM, Pv.tupM, Pv.lstM, Pv.parM, Pv.lift, Pv.live, Pv.sd0, Pv.slotOf, Pv.resOf, Pv.mutsAt, Pv.Out.bind, Pv.Out.st, Pv.SOut.then, Pv.cI, Pv.cB, Pv.cN, Pv.cS, Pv.nilL, Pv.gI, Pv.yes, Pv.isKd, Pv.okI, Pv.ownAt, Pv.fldOwn, Pv.fldM, Pv.gFld, Pv.setFldM, Pv.setIxM, Pv.makeM, Pv.makeR, Pv.max2M, Pv.min2M, Pv.int2M, Pv.gAdd, Pv.gMul, Pv.gIx, Pv.gLen, Pv.atD, Pv.forM, Pv.forL, Pv.tupIM, Pv.listM, Pv.gNm, Pv.tyD, L2.atI, L2.ixN, List.lookup, csI]
theorem v_told1 (n : Int) (c : D) : m_Pairs_told [.ins 4 [(2, .int n), (4, c)]] = .ret (.tup [.str "pairs", .int (n / 2), c]) [] := by
  unfold m_Pairs_told g_Pairs_told sig_Pairs_told
  simp [Pv.seqM, Pv.ifM, Pv.setM, Pv.setOM, Pv.retM, Pv.retO, Pv.exprM, Pv.raiseM, Pv.binM, Pv.boolM, Pv.andM, Pv.orM, Pv.notM, Pv.andV, Pv.orV, Pv.notV, Pv.chainM, Pv.isiM, Pv.getS, Pv.ixOwn, Pv.peekM, Pv.peek, Pv.callM, Pv.callR, Pv.argD, Pv.apart, Pv.putMuts, Pv.consA, Pv.consS, Pv.nilA, Pv.consM, Pv.tupM, Pv.lstM, Pv.parM, Pv.lift, Pv.live, Pv.sd0, Pv.slotOf, Pv.resOf, Pv.mutsAt, Pv.Out.bind, Pv.Out.st, Pv.SOut.then, Pv.cI, Pv.cB, Pv.cN, Pv.cS, Pv.nilL, Pv.gI, Pv.yes, Pv.isKd, Pv.okI, Pv.ownAt, Pv.fldOwn, Pv.fldM, Pv.gFld, Pv.setFldM, Pv.setIxM, Pv.makeM, Pv.makeR, Pv.max2M, Pv.min2M, Pv.int2M, Pv.gAdd, Pv.gMul, Pv.gIx, Pv.gLen, Pv.atD, Pv.forM, Pv.forL, Pv.tupIM, Pv.listM, Pv.gNm, Pv.tyD, L2.atI, L2.ixN, List.lookup, csI, div2_ok]
theorem v_told2 (n f : Int) (c : D) : m_Coins_told [.ins 5 [(2, .int n), (4, c), (5, .int f)]] = .ret (.tup [.str "coins", .int n, c, .int f]) [] := by
  unfold m_Coins_told g_Coins_told sig_Coins_told
  simp [Pv.seqM, Pv.ifM, Pv.setM, Pv.setOM, Pv.retM, Pv.retO, Pv.exprM, Pv.raiseM, Pv.binM, Pv.boolM, Pv.andM, Pv.orM, Pv.notM, Pv.andV, Pv.orV, Pv.notV, Pv.chainM, Pv.isiM, Pv.getS, Pv.ixOwn, Pv.peekM, Pv.peek, Pv.callM, Pv.callR, Pv.argD, Pv.apart, Pv.putMuts, Pv.consA, Pv.consS, Pv.nilA, Pv.consM, Pv.tupM, Pv.lstM, Pv.parM, Pv.lift, Pv.live, Pv.sd0, Pv.slotOf, Pv.resOf, Pv.mutsAt, Pv.Out.bind, Pv.Out.st, Pv.SOut.then, Pv.cI, Pv.cB, Pv.cN, Pv.cS, Pv.nilL, Pv.gI, Pv.yes, Pv.isKd, Pv.okI, Pv.ownAt, Pv.fldOwn, Pv.fldM, Pv.gFld, Pv.setFldM, Pv.setIxM, Pv.makeM, Pv.makeR, Pv.max2M, Pv.min2M, Pv.int2M, Pv.gAdd, Pv.gMul, Pv.gIx, Pv.gLen, Pv.atD, Pv.forM, Pv.forL, Pv.tupIM, Pv.listM, Pv.gNm, Pv.tyD, L2.atI, L2.ixN, List.lookup, csI]
theorem v_folk (c : Nat) (n : Int) (r : List (Nat × D)) (hc : c = 3 ∨ c = 4 ∨ c = 5) : m_Rule_folk [.ins c ((2, .int n) :: r)] = .ret (.int n) [] := by
  unfold m_Rule_folk g_Rule_folk sig_Rule_folk
  rcases hc with rfl | rfl | rfl <;> simp [Pv.seqM, Pv.ifM, Pv.setM, Pv.setOM, Pv.retM, Pv.retO, Pv.exprM, Pv.raiseM, Pv.binM, Pv.boolM, Pv.andM, Pv.orM, Pv.notM, Pv.andV, Pv.orV, Pv.notV, Pv.chainM, Pv.isiM, Pv.getS, Pv.ixOwn, Pv.peekM, Pv.peek, Pv.callM, Pv.callR, Pv.argD, Pv.apart, Pv.putMuts, Pv.consA, Pv.consS, Pv.nilA, Pv.consM, Pv.tupM, Pv.lstM, Pv.parM, Pv.lift, Pv.live, Pv.sd0, Pv.slotOf, Pv.resOf, Pv.mutsAt, Pv.Out.bind, Pv.Out.st, Pv.SOut.then, Pv.cI, Pv.cB, Pv.cN, Pv.cS, Pv.nilL, Pv.gI, Pv.yes, Pv.isKd, Pv.okI, Pv.ownAt, Pv.fldOwn, Pv.fldM, Pv.gFld, Pv.setFldM, Pv.setIxM, Pv.makeM, Pv.makeR, Pv.max2M, Pv.min2M, Pv.int2M, Pv.gAdd, Pv.gMul, Pv.gIx, Pv.gLen, Pv.atD, Pv.forM, Pv.forL, Pv.tupIM, Pv.listM, Pv.gNm, Pv.tyD, L2.atI, L2.ixN, List.lookup, csI]
/-! ### the law's own -/
theorem gEqT_int (i j : Int) : gEqT (.int i) (.int j) = some (.bl (decide (i = j))) := by
  have : (i == j) = decide (i = j) := by by_cases h : i = j <;> simp [h]
  simp [gEqT, gEq, eqD, toPy, SeqAt.shaped, PyData.canLay0, PyData.depth, PyData.eqv, this]
theorem k_s : PyData.strOk (Str.ofString "split") = true := by decide +kernel
theorem k_p : PyData.strOk (Str.ofString "pairs") = true := by decide +kernel
theorem k_c : PyData.strOk (Str.ofString "coins") = true := by decide +kernel
theorem gEqT_str {x y : Str} (b : Bool) (h1 : PyData.strOk x = true) (h2 : PyData.strOk y = true) (h : (x == y) = b) : gEqT (.str x) (.str y) = some (.bl b) := by
  simp [gEqT, gEq, eqD, toPy, SeqAt.shaped, PyData.canLay0, PyData.depth, PyData.eqv, h1, h2, h]
theorem e_ss : gEqT (.str "split") (.str "split") = some (.bl true) := gEqT_str true k_s k_s (by decide +kernel)
theorem e_ps : gEqT (.str "pairs") (.str "split") = some (.bl false) := gEqT_str false k_p k_s (by decide +kernel)
theorem e_cs : gEqT (.str "coins") (.str "split") = some (.bl false) := gEqT_str false k_c k_s (by decide +kernel)
theorem e_pc : gEqT (.str "pairs") (.str "coins") = some (.bl false) := gEqT_str false k_p k_c (by decide +kernel)
theorem e_cc : gEqT (.str "coins") (.str "coins") = some (.bl true) := gEqT_str true k_c k_c (by decide +kernel)
theorem v_due0 (c : D) (f n : Int) : m__law_due [.str "split", c, .int f, .int n] = .ret (.tup [.str "split", .int n, .int (n / 2)]) [] := by
  unfold m__law_due g__law_due sig__law_due
  simp [Pv.seqM, Pv.ifM, Pv.setM, Pv.setOM, Pv.retM, Pv.retO, Pv.exprM, Pv.raiseM, Pv.binM, Pv.boolM, Pv.andM, Pv.orM, Pv.notM, Pv.andV, Pv.orV, Pv.notV, Pv.chainM, Pv.isiM, Pv.getS, Pv.ixOwn, Pv.peekM, Pv.peek, Pv.callM, Pv.callR, Pv.argD, Pv.apart, Pv.putMuts, Pv.consA, Pv.consS, Pv.nilA, Pv.consM, Pv.tupM, Pv.lstM, Pv.parM, Pv.lift, Pv.live, Pv.sd0, Pv.slotOf, Pv.resOf, Pv.mutsAt, Pv.Out.bind, Pv.Out.st, Pv.SOut.then, Pv.cI, Pv.cB, Pv.cN, Pv.cS, Pv.nilL, Pv.gI, Pv.yes, Pv.isKd, Pv.okI, Pv.ownAt, Pv.fldOwn, Pv.fldM, Pv.gFld, Pv.setFldM, Pv.setIxM, Pv.makeM, Pv.makeR, Pv.max2M, Pv.min2M, Pv.int2M, Pv.gAdd, Pv.gMul, Pv.gIx, Pv.gLen, Pv.atD, Pv.forM, Pv.forL, Pv.tupIM, Pv.listM, Pv.gNm, Pv.tyD, L2.atI, L2.ixN, List.lookup, e_ss, div2_ok]
theorem v_due1 (c : D) (f n : Int) : m__law_due [.str "pairs", c, .int f, .int n] = .ret (if n % 2 = 1 then .non else .tup [.str "pairs", .int (n / 2), c]) [] := by
  unfold m__law_due g__law_due sig__law_due
  by_cases h : n % 2 = 1 <;> simp [Pv.seqM, Pv.ifM, Pv.setM, Pv.setOM, Pv.retM, Pv.retO, Pv.exprM, Pv.raiseM, Pv.binM, Pv.boolM, Pv.andM, Pv.orM, Pv.notM, Pv.andV, Pv.orV, Pv.notV, Pv.chainM, Pv.isiM, Pv.getS, Pv.ixOwn, Pv.peekM, Pv.peek, Pv.callM, Pv.callR, Pv.argD, Pv.apart, Pv.putMuts, Pv.consA, Pv.consS, Pv.nilA, Pv.consM, Pv.tupM, Pv.lstM, Pv.parM, Pv.lift, Pv.live, Pv.sd0, Pv.slotOf, Pv.resOf, Pv.mutsAt, Pv.Out.bind, Pv.Out.st, Pv.SOut.then, Pv.cI, Pv.cB, Pv.cN, Pv.cS, Pv.nilL, Pv.gI, Pv.yes, Pv.isKd, Pv.okI, Pv.ownAt, Pv.fldOwn, Pv.fldM, Pv.gFld, Pv.setFldM, Pv.setIxM, Pv.makeM, Pv.makeR, Pv.max2M, Pv.min2M, Pv.int2M, Pv.gAdd, Pv.gMul, Pv.gIx, Pv.gLen, Pv.atD, Pv.forM, Pv.forL, Pv.tupIM, Pv.listM, Pv.gNm, Pv.tyD, L2.atI, L2.ixN, List.lookup, e_ps, e_pc, gEqT_int, h, div2_ok]
theorem v_due2 (c : D) (f n : Int) : m__law_due [.str "coins", c, .int f, .int n] = .ret (.tup [.str "coins", .int n, c, .int f]) [] := by
  unfold m__law_due g__law_due sig__law_due
  simp [Pv.seqM, Pv.ifM, Pv.setM, Pv.setOM, Pv.retM, Pv.retO, Pv.exprM, Pv.raiseM, Pv.binM, Pv.boolM, Pv.andM, Pv.orM, Pv.notM, Pv.andV, Pv.orV, Pv.notV, Pv.chainM, Pv.isiM, Pv.getS, Pv.ixOwn, Pv.peekM, Pv.peek, Pv.callM, Pv.callR, Pv.argD, Pv.apart, Pv.putMuts, Pv.consA, Pv.consS, Pv.nilA, Pv.consM, Pv.tupM, Pv.lstM, Pv.parM, Pv.lift, Pv.live, Pv.sd0, Pv.slotOf, Pv.resOf, Pv.mutsAt, Pv.Out.bind, Pv.Out.st, Pv.SOut.then, Pv.cI, Pv.cB, Pv.cN, Pv.cS, Pv.nilL, Pv.gI, Pv.yes, Pv.isKd, Pv.okI, Pv.ownAt, Pv.fldOwn, Pv.fldM, Pv.gFld, Pv.setFldM, Pv.setIxM, Pv.makeM, Pv.makeR, Pv.max2M, Pv.min2M, Pv.int2M, Pv.gAdd, Pv.gMul, Pv.gIx, Pv.gLen, Pv.atD, Pv.forM, Pv.forL, Pv.tupIM, Pv.listM, Pv.gNm, Pv.tyD, L2.atI, L2.ixN, List.lookup, e_cs, e_cc]
theorem q_s (n o : Int) : gEqT (.tup [.str "split", .int n, .int o]) (.tup [.str "split", .int n, .int o]) = some (.bl true) := by
  simp [gEqT, gEq, eqD, toPy, toPys, SeqAt.shaped, PyData.canLay0, PyData.canLayAll0, PyData.depth, PyData.depthAll, PyData.eqv, PyData.eqvAll, k_s]
theorem q_p (n : Int) (a b : Nat) : gEqT (.tup [.str "pairs", .int n, .tup [.int a, .int b]]) (.tup [.str "pairs", .int n, .tup [.int a, .int b]]) = some (.bl true) := by
  simp [gEqT, gEq, eqD, toPy, toPys, SeqAt.shaped, PyData.canLay0, PyData.canLayAll0, PyData.depth, PyData.depthAll, PyData.eqv, PyData.eqvAll, k_p]
theorem q_c (n f : Int) (a b : Nat) : gEqT (.tup [.str "coins", .int n, .tup [.int a, .int b], .int f]) (.tup [.str "coins", .int n, .tup [.int a, .int b], .int f]) = some (.bl true) := by
  simp [gEqT, gEq, eqD, toPy, toPys, SeqAt.shaped, PyData.canLay0, PyData.canLayAll0, PyData.depth, PyData.depthAll, PyData.eqv, PyData.eqvAll, k_c]
theorem v_right0 (c : D) (f n : Int) (h1 : 1 ≤ n ∧ n ≤ 20) : m__law_right [.clo 0 [], .str "split", c, .int f, .int n] = .ret (.bl true) [] := by
  unfold m__law_right g__law_right sig__law_right
  have e := v_site0 n h1
  simp [Pv.seqM, Pv.ifM, Pv.setM, Pv.setOM, Pv.retM, Pv.retO, Pv.exprM, Pv.raiseM, Pv.binM, Pv.boolM, Pv.andM, Pv.orM, Pv.notM, Pv.andV, Pv.orV, Pv.notV, Pv.chainM, Pv.isiM, Pv.getS, Pv.ixOwn, Pv.peekM, Pv.peek, Pv.callM, Pv.callR, Pv.argD, Pv.apart, Pv.putMuts, Pv.consA, Pv.consS, Pv.nilA, Pv.consM, Pv.tupM, Pv.lstM, Pv.parM, Pv.lift, Pv.live, Pv.sd0, Pv.slotOf, Pv.resOf, Pv.mutsAt, Pv.Out.bind, Pv.Out.st, Pv.SOut.then, Pv.cI, Pv.cB, Pv.cN, Pv.cS, Pv.nilL, Pv.gI, Pv.yes, Pv.isKd, Pv.okI, Pv.ownAt, Pv.fldOwn, Pv.fldM, Pv.gFld, Pv.setFldM, Pv.setIxM, Pv.makeM, Pv.makeR, Pv.max2M, Pv.min2M, Pv.int2M, Pv.gAdd, Pv.gMul, Pv.gIx, Pv.gLen, Pv.atD, Pv.forM, Pv.forL, Pv.tupIM, Pv.listM, Pv.gNm, Pv.tyD, L2.atI, L2.ixN, List.lookup, sig__law_due, v_due0, cloM, cloR, noClo, mirC, e, gIsN, Pv.isN, methM, mt_told, mt_folk, sigM_told, sigM_folk, sig_Split_told, sig_Rule_folk, v_told0, v_folk, q_s, gEqT_int]
theorem v_right1 (n f : Int) (a b : Nat) (h1 : 1 ≤ n ∧ n ≤ 20) (h0 : 0 < a) (h : a < b) (hb : b ≤ 100) (hg : Nat.gcd a b = 1) :
    m__law_right [.clo 1 [.ins 4 [(2, .int 2), (4, .tup [.int a, .int b])]], .str "pairs", .tup [.int a, .int b], .int f, .int n] = .ret (.bl true) [] := by
  unfold m__law_right g__law_right sig__law_right
  have e := v_site1 n 2 a b h1 h0 h hb hg
  by_cases h2 : n % 2 = 1
  · simp [Pv.seqM, Pv.ifM, Pv.setM, Pv.setOM, Pv.retM, Pv.retO, Pv.exprM, Pv.raiseM, Pv.binM, Pv.boolM, Pv.andM, Pv.orM, Pv.notM, Pv.andV, Pv.orV, Pv.notV, Pv.chainM, Pv.isiM, Pv.getS, Pv.ixOwn, Pv.peekM, Pv.peek, Pv.callM, Pv.callR, Pv.argD, Pv.apart, Pv.putMuts, Pv.consA, Pv.consS, Pv.nilA, Pv.consM, Pv.tupM, Pv.lstM, Pv.parM, Pv.lift, Pv.live, Pv.sd0, Pv.slotOf, Pv.resOf, Pv.mutsAt, Pv.Out.bind, Pv.Out.st, Pv.SOut.then, Pv.cI, Pv.cB, Pv.cN, Pv.cS, Pv.nilL, Pv.gI, Pv.yes, Pv.isKd, Pv.okI, Pv.ownAt, Pv.fldOwn, Pv.fldM, Pv.gFld, Pv.setFldM, Pv.setIxM, Pv.makeM, Pv.makeR, Pv.max2M, Pv.min2M, Pv.int2M, Pv.gAdd, Pv.gMul, Pv.gIx, Pv.gLen, Pv.atD, Pv.forM, Pv.forL, Pv.tupIM, Pv.listM, Pv.gNm, Pv.tyD, L2.atI, L2.ixN, List.lookup, sig__law_due, v_due1, cloM, cloR, noClo, mirC, e, gIsN, Pv.isN, h2]
  · have e2 : 2 * (n / 2) = n := by omega
    have e3 : 2 * (n / 2) / 2 = n / 2 := by omega
    simp [Pv.seqM, Pv.ifM, Pv.setM, Pv.setOM, Pv.retM, Pv.retO, Pv.exprM, Pv.raiseM, Pv.binM, Pv.boolM, Pv.andM, Pv.orM, Pv.notM, Pv.andV, Pv.orV, Pv.notV, Pv.chainM, Pv.isiM, Pv.getS, Pv.ixOwn, Pv.peekM, Pv.peek, Pv.callM, Pv.callR, Pv.argD, Pv.apart, Pv.putMuts, Pv.consA, Pv.consS, Pv.nilA, Pv.consM, Pv.tupM, Pv.lstM, Pv.parM, Pv.lift, Pv.live, Pv.sd0, Pv.slotOf, Pv.resOf, Pv.mutsAt, Pv.Out.bind, Pv.Out.st, Pv.SOut.then, Pv.cI, Pv.cB, Pv.cN, Pv.cS, Pv.nilL, Pv.gI, Pv.yes, Pv.isKd, Pv.okI, Pv.ownAt, Pv.fldOwn, Pv.fldM, Pv.gFld, Pv.setFldM, Pv.setIxM, Pv.makeM, Pv.makeR, Pv.max2M, Pv.min2M, Pv.int2M, Pv.gAdd, Pv.gMul, Pv.gIx, Pv.gLen, Pv.atD, Pv.forM, Pv.forL, Pv.tupIM, Pv.listM, Pv.gNm, Pv.tyD, L2.atI, L2.ixN, List.lookup, sig__law_due, v_due1, cloM, cloR, noClo, mirC, e, gIsN, Pv.isN, h2, methM, mt_told, mt_folk, sigM_told, sigM_folk, sig_Split_told, sig_Rule_folk, v_told1, v_folk, q_p, gEqT_int, e2, e3]
theorem v_right2 (n f : Int) (a b : Nat) (h1 : 1 ≤ n ∧ n ≤ 20) (h2 : 1 ≤ f ∧ f ≤ 20) (h0 : 0 < a) (h : a < b) (hb : b ≤ 100) (hg : Nat.gcd a b = 1) :
    m__law_right [.clo 2 [.ins 5 [(2, .int 1), (4, .tup [.int a, .int b]), (5, .int f)]], .str "coins", .tup [.int a, .int b], .int f, .int n] = .ret (.bl true) [] := by
  unfold m__law_right g__law_right sig__law_right
  have e := v_site2 n 1 f a b h1 h2 h0 h hb hg
  simp [Pv.seqM, Pv.ifM, Pv.setM, Pv.setOM, Pv.retM, Pv.retO, Pv.exprM, Pv.raiseM, Pv.binM, Pv.boolM, Pv.andM, Pv.orM, Pv.notM, Pv.andV, Pv.orV, Pv.notV, Pv.chainM, Pv.isiM, Pv.getS, Pv.ixOwn, Pv.peekM, Pv.peek, Pv.callM, Pv.callR, Pv.argD, Pv.apart, Pv.putMuts, Pv.consA, Pv.consS, Pv.nilA, Pv.consM, Pv.tupM, Pv.lstM, Pv.parM, Pv.lift, Pv.live, Pv.sd0, Pv.slotOf, Pv.resOf, Pv.mutsAt, Pv.Out.bind, Pv.Out.st, Pv.SOut.then, Pv.cI, Pv.cB, Pv.cN, Pv.cS, Pv.nilL, Pv.gI, Pv.yes, Pv.isKd, Pv.okI, Pv.ownAt, Pv.fldOwn, Pv.fldM, Pv.gFld, Pv.setFldM, Pv.setIxM, Pv.makeM, Pv.makeR, Pv.max2M, Pv.min2M, Pv.int2M, Pv.gAdd, Pv.gMul, Pv.gIx, Pv.gLen, Pv.atD, Pv.forM, Pv.forL, Pv.tupIM, Pv.listM, Pv.gNm, Pv.tyD, L2.atI, L2.ixN, List.lookup, sig__law_due, v_due2, cloM, cloR, noClo, mirC, e, gIsN, Pv.isN, methM, mt_told, mt_folk, sigM_told, sigM_folk, sig_Split_told, sig_Rule_folk, v_told2, v_folk, q_c, gEqT_int]

/-! ### the drawn numbers -/
theorem m31 {x y : Int} (h1 : 0 ≤ x) (h2 : x < 2147483648) (h3 : 0 ≤ y) (h4 : y < 4294967296) : mulOk x y = true := mulOk_of (a := 31) (b := 32) (by omega) (by omega) (by decide) (by decide) (by decide)
theorem v_mix (b k : Int) (hk0 : 0 ≤ k) (hk : k < 1000000) : ∃ r : Int, m__law_mix [.int b, .int k] = .ret (.int r) [] ∧ 0 ≤ r ∧ r < 2147483648 := by
  unfold m__law_mix g__law_mix sig__law_mix
  have n1 : mulOk 7919 k = true := m31 (by decide) (by decide) hk0 (by omega)
  obtain ⟨x, hx⟩ : ∃ x, x = (b + 7919 * k + 12345) % 2147483629 := ⟨_, rfl⟩
  have x1 : 0 ≤ x ∧ x < 2147483629 := by omega
  have n2 : mulOk x x = true := m31 x1.1 (by omega) x1.1 (by omega)
  obtain ⟨y, hy⟩ : ∃ y, y = x * x % 2147483587 := ⟨_, rfl⟩
  have y1 : 0 ≤ y ∧ y < 2147483587 := by rw [hy]; exact ⟨Int.emod_nonneg _ (by decide), Int.emod_lt_of_pos _ (by decide)⟩
  have n3 : mulOk y 48271 = true := m31 y1.1 (by omega) (by decide) (by decide)
  obtain ⟨z, hz⟩ : ∃ z, z = y * 48271 % 2147483549 := ⟨_, rfl⟩
  have z1 : 0 ≤ z ∧ z < 2147483549 := by omega
  have n4 : mulOk z (z + 31) = true := m31 z1.1 (by omega) (by omega) (by omega)
  obtain ⟨t, ht⟩ : ∃ t, t = z * (z + 31) % 2147483543 := ⟨_, rfl⟩
  have t1 : 0 ≤ t ∧ t < 2147483543 := by rw [ht]; exact ⟨Int.emod_nonneg _ (by decide), Int.emod_lt_of_pos _ (by decide)⟩
  have n5 : divOk t 8 = true := divOk_of (b := 4) (by decide) (by decide) (by decide) (by decide)
  refine ⟨t / 8, ?_, by omega, by omega⟩
  simp [Pv.seqM, Pv.ifM, Pv.setM, Pv.setOM, Pv.retM, Pv.retO, Pv.exprM, Pv.raiseM, Pv.binM, Pv.boolM, Pv.andM, Pv.orM, Pv.notM, Pv.andV, Pv.orV, Pv.notV, Pv.chainM, Pv.isiM, Pv.getS, Pv.ixOwn, Pv.peekM, Pv.peek, Pv.callM, Pv.callR, Pv.argD, Pv.apart, Pv.putMuts, Pv.consA, Pv.consS, Pv.nilA, Pv.consM, Pv.tupM, Pv.lstM, Pv.parM, Pv.lift, Pv.live, Pv.sd0, Pv.slotOf, Pv.resOf, Pv.mutsAt, Pv.Out.bind, Pv.Out.st, Pv.SOut.then, Pv.cI, Pv.cB, Pv.cN, Pv.cS, Pv.nilL, Pv.gI, Pv.yes, Pv.isKd, Pv.okI, Pv.ownAt, Pv.fldOwn, Pv.fldM, Pv.gFld, Pv.setFldM, Pv.setIxM, Pv.makeM, Pv.makeR, Pv.max2M, Pv.min2M, Pv.int2M, Pv.gAdd, Pv.gMul, Pv.gIx, Pv.gLen, Pv.atD, Pv.forM, Pv.forL, Pv.tupIM, Pv.listM, Pv.gNm, Pv.tyD, L2.atI, L2.ixN, List.lookup, n1, ← hx, n2, ← hy, n3, ← hz, n4, ← ht, n5]
/-- a state, at most n times drawn from by mixing -/
def St (n : Nat) (s : D) : Prop := ∃ (a b : Int) (c : Nat), s = .lst [.int a, .int b, .int c] ∧ 0 ≤ a ∧ c ≤ n
theorem v_pull {n : Nat} {s : D} {m : Int} (h : St n s) (hn : n < 1000) (h0 : 0 < m) (hm : m < 1000) : ∃ (r : Int) (s' : D), m__law_pull [s, .int m] = .ret (.int r) [s'] ∧ 0 ≤ r ∧ r < m ∧ St (n + 1) s' := by
  obtain ⟨a, b, c, rfl, ha, hc⟩ := h
  unfold m__law_pull g__law_pull sig__law_pull
  have hd : ∀ x, divOk x m = true := fun x => divOk_of (b := 10) h0 (by omega) (by decide) (by decide)
  by_cases h1 : 0 < a
  · refine ⟨a % m, .lst [.int (a / m), .int b, .int c], ?_, Int.emod_nonneg _ (by omega), Int.emod_lt_of_pos _ h0, _, _, c, rfl, Int.ediv_nonneg ha (by omega), by omega⟩
    simp [Pv.seqM, Pv.ifM, Pv.setM, Pv.setOM, Pv.retM, Pv.retO, Pv.exprM, Pv.raiseM, Pv.binM, Pv.boolM, Pv.andM, Pv.orM, Pv.notM, Pv.andV, Pv.orV, Pv.notV, Pv.chainM, Pv.isiM, Pv.getS, Pv.ixOwn, Pv.peekM, Pv.peek, Pv.callM, Pv.callR, Pv.argD, Pv.apart, Pv.putMuts, Pv.consA, Pv.consS, Pv.nilA, Pv.consM, Pv.tupM, Pv.lstM, Pv.parM, Pv.lift, Pv.live, Pv.sd0, Pv.slotOf, Pv.resOf, Pv.mutsAt, Pv.Out.bind, Pv.Out.st, Pv.SOut.then, Pv.cI, Pv.cB, Pv.cN, Pv.cS, Pv.nilL, Pv.gI, Pv.yes, Pv.isKd, Pv.okI, Pv.ownAt, Pv.fldOwn, Pv.fldM, Pv.gFld, Pv.setFldM, Pv.setIxM, Pv.makeM, Pv.makeR, Pv.max2M, Pv.min2M, Pv.int2M, Pv.gAdd, Pv.gMul, Pv.gIx, Pv.gLen, Pv.atD, Pv.forM, Pv.forL, Pv.tupIM, Pv.listM, Pv.gNm, Pv.tyD, L2.atI, L2.ixN, List.lookup, h1, h0, hd]
  · obtain ⟨r1, e1, p1, q1⟩ := v_mix b (2 * (c + 1)) (by omega) (by omega)
    obtain ⟨r2, e2, p2, q2⟩ := v_mix b (2 * (c + 1) + 1) (by omega) (by omega)
    have n1 : mulOk 2 ((c : Int) + 1) = true := m31 (by decide) (by decide) (by omega) (by omega)
    have n2 : mulOk r1 268435399 = true := m31 p1 q1 (by decide) (by decide)
    refine ⟨(r1 * 268435399 + r2) % m, .lst [.int a, .int b, .int ((c + 1 : Nat) : Int)], ?_, Int.emod_nonneg _ (by omega), Int.emod_lt_of_pos _ h0, _, _, c + 1, rfl, ha, by omega⟩
    simp [Pv.seqM, Pv.ifM, Pv.setM, Pv.setOM, Pv.retM, Pv.retO, Pv.exprM, Pv.raiseM, Pv.binM, Pv.boolM, Pv.andM, Pv.orM, Pv.notM, Pv.andV, Pv.orV, Pv.notV, Pv.chainM, Pv.isiM, Pv.getS, Pv.ixOwn, Pv.peekM, Pv.peek, Pv.callM, Pv.callR, Pv.argD, Pv.apart, Pv.putMuts, Pv.consA, Pv.consS, Pv.nilA, Pv.consM, Pv.tupM, Pv.lstM, Pv.parM, Pv.lift, Pv.live, Pv.sd0, Pv.slotOf, Pv.resOf, Pv.mutsAt, Pv.Out.bind, Pv.Out.st, Pv.SOut.then, Pv.cI, Pv.cB, Pv.cN, Pv.cS, Pv.nilL, Pv.gI, Pv.yes, Pv.isKd, Pv.okI, Pv.ownAt, Pv.fldOwn, Pv.fldM, Pv.gFld, Pv.setFldM, Pv.setIxM, Pv.makeM, Pv.makeR, Pv.max2M, Pv.min2M, Pv.int2M, Pv.gAdd, Pv.gMul, Pv.gIx, Pv.gLen, Pv.atD, Pv.forM, Pv.forL, Pv.tupIM, Pv.listM, Pv.gNm, Pv.tyD, L2.atI, L2.ixN, List.lookup, h1, h0, sig__law_mix, n1, n2, e1, e2]

/-! ### coins that are drawn -/
/-- a coin: a share in its lowest terms, none and all left out -/
def Coin (d : D) : Prop := ∃ a b : Nat, d = .tup [.int a, .int b] ∧ 0 < a ∧ a < b ∧ b ≤ 100 ∧ Nat.gcd a b = 1
theorem coin_of (t b : Nat) (h0 : 0 < t) (h1 : t < b) (hb : b ≤ 100) : Coin (.tup [.int ((t / Nat.gcd t b : Nat) : Int), .int ((b / Nat.gcd t b : Nat) : Int)]) := by
  have g0 : 0 < Nat.gcd t b := Nat.gcd_pos_of_pos_left b h0
  have d1 : Nat.gcd t b ∣ t := Nat.gcd_dvd_left t b
  have d2 : Nat.gcd t b ∣ b := Nat.gcd_dvd_right t b
  refine ⟨_, _, rfl, Nat.div_pos (Nat.le_of_dvd h0 d1) g0, Nat.div_lt_div_of_lt_of_dvd d2 h1, Nat.le_trans (Nat.div_le_self _ _) hb, ?_⟩
  exact Nat.gcd_div_gcd_div_gcd_of_pos_left h0
theorem v_coin {n : Nat} {s : D} (h : St n s) (hn : n < 900) : ∃ (c s' : D), m__law_coin [s] = .ret c [s'] ∧ Coin c ∧ St (n + 3) s' := by
  obtain ⟨r1, s1, e1, a1, b1, h1⟩ := v_pull (m := 99) h (by omega) (by decide) (by decide)
  obtain ⟨r2, s2, e2, a2, b2, h2⟩ := v_pull (m := 5) h1 (by omega) (by decide) (by decide)
  obtain ⟨x, hx, x2, x100⟩ : ∃ x : Nat, atD [.int 2, .int 3, .int 7, .int (2 + r1), .int 100] r2 = some (.int (x : Nat)) ∧ 2 ≤ x ∧ x ≤ 100 := by
    have : r2 = 0 ∨ r2 = 1 ∨ r2 = 2 ∨ r2 = 3 ∨ r2 = 4 := by omega
    rcases this with rfl | rfl | rfl | rfl | rfl
    · exact ⟨2, rfl, by decide, by decide⟩
    · exact ⟨3, rfl, by decide, by decide⟩
    · exact ⟨7, rfl, by decide, by decide⟩
    · refine ⟨(2 + r1).toNat, ?_, by omega, by omega⟩
      rw [Int.toNat_of_nonneg (by omega)]
      rfl
    · exact ⟨100, rfl, by decide, by decide⟩
  obtain ⟨r3, s3, e3, a3, b3, h3⟩ := v_pull (m := (x : Int) - 1) h2 (by omega) (by omega) (by omega)
  obtain ⟨t, ht⟩ : ∃ t : Nat, (t : Int) = 1 + r3 := ⟨(1 + r3).toNat, by omega⟩
  have e4 := v_share t x (by omega) (by omega)
  rw [ht] at e4
  refine ⟨_, s3, ?_, coin_of t x (by omega) (by omega) x100, h3⟩
  unfold m__law_coin g__law_coin sig__law_coin
  simp [Pv.seqM, Pv.ifM, Pv.setM, Pv.setOM, Pv.retM, Pv.retO, Pv.exprM, Pv.raiseM, Pv.binM, Pv.boolM, Pv.andM, Pv.orM, Pv.notM, Pv.andV, Pv.orV, Pv.notV, Pv.chainM, Pv.isiM, Pv.getS, Pv.ixOwn, Pv.peekM, Pv.peek, Pv.callM, Pv.callR, Pv.argD, Pv.apart, Pv.putMuts, Pv.consA, Pv.consS, Pv.nilA, Pv.consM, Pv.tupM, Pv.lstM, Pv.parM, Pv.lift, Pv.live, Pv.sd0, Pv.slotOf, Pv.resOf, Pv.mutsAt, Pv.Out.bind, Pv.Out.st, Pv.SOut.then, Pv.cI, Pv.cB, Pv.cN, Pv.cS, Pv.nilL, Pv.gI, Pv.yes, Pv.isKd, Pv.okI, Pv.ownAt, Pv.fldOwn, Pv.fldM, Pv.gFld, Pv.setFldM, Pv.setIxM, Pv.makeM, Pv.makeR, Pv.max2M, Pv.min2M, Pv.int2M, Pv.gAdd, Pv.gMul, Pv.gIx, Pv.gLen, Pv.forM, Pv.forL, Pv.tupIM, Pv.listM, Pv.gNm, Pv.tyD, sig__law_pull, sig__law_share, e1, e2, hx, e3, e4]

theorem v_cell (ns : List Int) (k : Nat) (hk : k < 100) (hl : ns.length ≤ 63) : ∃ i : Int, m__law_cell [.arr (ns.map .int), .int k] = .ret (.int i) [] := by
  unfold m__law_cell g__law_cell sig__law_cell
  have n1 : mulOk 7919 k = true := m31 (by decide) (by decide) (by omega) (by omega)
  by_cases h : k < ns.length
  · refine ⟨ns[k], ?_⟩
    have h' : (k : Int) < ns.length := by omega
    have hx : atD (ns.map .int) (k : Int) = some (.int ns[k]) := by
      unfold atD L2.atI L2.ixN
      have h0 : (0 : Int) ≤ k := by omega
      simp [h0, h', h]
    simp [Pv.seqM, Pv.ifM, Pv.setM, Pv.setOM, Pv.retM, Pv.retO, Pv.exprM, Pv.raiseM, Pv.binM, Pv.boolM, Pv.andM, Pv.orM, Pv.notM, Pv.andV, Pv.orV, Pv.notV, Pv.chainM, Pv.isiM, Pv.getS, Pv.ixOwn, Pv.peekM, Pv.peek, Pv.callM, Pv.callR, Pv.argD, Pv.apart, Pv.putMuts, Pv.consA, Pv.consS, Pv.nilA, Pv.consM, Pv.tupM, Pv.lstM, Pv.parM, Pv.lift, Pv.live, Pv.sd0, Pv.slotOf, Pv.resOf, Pv.mutsAt, Pv.Out.bind, Pv.Out.st, Pv.SOut.then, Pv.cI, Pv.cB, Pv.cN, Pv.cS, Pv.nilL, Pv.gI, Pv.yes, Pv.isKd, Pv.okI, Pv.ownAt, Pv.fldOwn, Pv.fldM, Pv.gFld, Pv.setFldM, Pv.setIxM, Pv.makeM, Pv.makeR, Pv.max2M, Pv.min2M, Pv.int2M, Pv.gAdd, Pv.gMul, Pv.gIx, Pv.gLen, Pv.forM, Pv.forL, Pv.tupIM, Pv.listM, Pv.gNm, Pv.tyD, h, h', hx]
  · refine ⟨7919 * k + 31, ?_⟩
    have h' : ¬ (k : Int) < ns.length := by omega
    simp [Pv.seqM, Pv.ifM, Pv.setM, Pv.setOM, Pv.retM, Pv.retO, Pv.exprM, Pv.raiseM, Pv.binM, Pv.boolM, Pv.andM, Pv.orM, Pv.notM, Pv.andV, Pv.orV, Pv.notV, Pv.chainM, Pv.isiM, Pv.getS, Pv.ixOwn, Pv.peekM, Pv.peek, Pv.callM, Pv.callR, Pv.argD, Pv.apart, Pv.putMuts, Pv.consA, Pv.consS, Pv.nilA, Pv.consM, Pv.tupM, Pv.lstM, Pv.parM, Pv.lift, Pv.live, Pv.sd0, Pv.slotOf, Pv.resOf, Pv.mutsAt, Pv.Out.bind, Pv.Out.st, Pv.SOut.then, Pv.cI, Pv.cB, Pv.cN, Pv.cS, Pv.nilL, Pv.gI, Pv.yes, Pv.isKd, Pv.okI, Pv.ownAt, Pv.fldOwn, Pv.fldM, Pv.gFld, Pv.setFldM, Pv.setIxM, Pv.makeM, Pv.makeR, Pv.max2M, Pv.min2M, Pv.int2M, Pv.gAdd, Pv.gMul, Pv.gIx, Pv.gLen, Pv.forM, Pv.forL, Pv.tupIM, Pv.listM, Pv.gNm, Pv.tyD, h, h', n1]
theorem v_begun (i : Int) : ∃ s : D, m__law_begun [.int i] = .ret s [] ∧ St 0 s := by
  unfold m__law_begun g__law_begun sig__law_begun
  refine ⟨.lst [.int (if i - 1000000000000000000 > 0 then i - 1000000000000000000 else 0), .int (i % 2147483629), .int 0], ?_, _, _, 0, rfl, by split <;> omega, Nat.le_refl 0⟩
  simp [Pv.seqM, Pv.ifM, Pv.setM, Pv.setOM, Pv.retM, Pv.retO, Pv.exprM, Pv.raiseM, Pv.binM, Pv.boolM, Pv.andM, Pv.orM, Pv.notM, Pv.andV, Pv.orV, Pv.notV, Pv.chainM, Pv.isiM, Pv.getS, Pv.ixOwn, Pv.peekM, Pv.peek, Pv.callM, Pv.callR, Pv.argD, Pv.apart, Pv.putMuts, Pv.consA, Pv.consS, Pv.nilA, Pv.consM, Pv.tupM, Pv.lstM, Pv.parM, Pv.lift, Pv.live, Pv.sd0, Pv.slotOf, Pv.resOf, Pv.mutsAt, Pv.Out.bind, Pv.Out.st, Pv.SOut.then, Pv.cI, Pv.cB, Pv.cN, Pv.cS, Pv.nilL, Pv.gI, Pv.yes, Pv.isKd, Pv.okI, Pv.ownAt, Pv.fldOwn, Pv.fldM, Pv.gFld, Pv.setFldM, Pv.setIxM, Pv.makeM, Pv.makeR, Pv.max2M, Pv.min2M, Pv.int2M, Pv.gAdd, Pv.gMul, Pv.gIx, Pv.gLen, Pv.atD, Pv.forM, Pv.forL, Pv.tupIM, Pv.listM, Pv.gNm, Pv.tyD, L2.atI, L2.ixN, List.lookup]
/-! ### refusals -/
def bads : List D := [.tup [.int 0, .int 1], .tup [.int 1, .int 1], .tup [.int 2, .int 4], .tup [.int 1, .int 101], .tup [.int 3, .int 2], .tup [.int 1, .int 0], .lst [.int 1, .int 2], .tup [.int 1], .non, .str "1/2", .tup [.bl true, .int 2], .tup [.int 1, .int 2, .int 3], .int 0, .dic []]
def nums : List D := [.int 0, .int 21, .int (-1), .bl true, .non, .str "3", .lst [.int 1], .int 100000000000000000000000000000]
theorem bad_ok : ∀ d ∈ bads, m_need_coin [d] = .exc 0 [(0, d)] [] ∧ gNeT (.tup [.str "share", d]) (.tup [.str "share", d]) = some (.bl false) := by
  simp only [bads, List.forall_mem_cons]
  refine ⟨⟨?_, ?_⟩, ⟨?_, ?_⟩, ⟨?_, ?_⟩, ⟨?_, ?_⟩, ⟨?_, ?_⟩, ⟨?_, ?_⟩, ⟨?_, ?_⟩, ⟨?_, ?_⟩, ⟨?_, ?_⟩, ⟨?_, ?_⟩, ⟨?_, ?_⟩, ⟨?_, ?_⟩, ⟨?_, ?_⟩, ⟨?_, ?_⟩, fun _ h => absurd h (by simp)⟩ <;> kernel_rfl
theorem num_ok : ∀ d ∈ nums, m_need_number [d, .int 1, .int 20] = .exc 1 [(0, d)] [] ∧ gEqT (.tup [.str "number", d]) (.tup [.str "number", d]) = some (.bl true) := by
  simp only [nums, List.forall_mem_cons]
  refine ⟨⟨?_, ?_⟩, ⟨?_, ?_⟩, ⟨?_, ?_⟩, ⟨?_, ?_⟩, ⟨?_, ?_⟩, ⟨?_, ?_⟩, ⟨?_, ?_⟩, ⟨?_, ?_⟩, fun _ h => absurd h (by simp)⟩ <;> kernel_rfl
theorem pick {l : List D} {r : Int} (h0 : 0 ≤ r) (h1 : r < l.length) : ∃ d ∈ l, atD l r = some d := by
  have hj : r.toNat < l.length := by omega
  refine ⟨l[r.toNat], List.getElem_mem hj, ?_⟩
  unfold atD L2.atI L2.ixN
  simp [h0, h1, hj]
theorem v_ref_share (d f : D) (h : m_need_coin [d] = .exc 0 [(0, d)] []) : m__law_refusal [d, f, .bl false] = .ret (.tup [.str "share", d]) [] := by
  have e1 := v_need_number (i := 1) (lo := 1) (hi := 20) (by decide)
  have e2 : m_Coins___init__ [.ins 5 [], .int 1, d, f] = .exc 0 [(0, d)] [.ins 5 []] := by
    unfold m_Coins___init__ g_Coins___init__ sig_Coins___init__
    simp [Pv.seqM, Pv.ifM, Pv.setM, Pv.setOM, Pv.retM, Pv.retO, Pv.exprM, Pv.raiseM, Pv.binM, Pv.boolM, Pv.andM, Pv.orM, Pv.notM, Pv.andV, Pv.orV, Pv.notV, Pv.chainM, Pv.isiM, Pv.getS, Pv.ixOwn, Pv.peekM, Pv.peek, Pv.callM, Pv.callR, Pv.argD, Pv.apart, Pv.putMuts, Pv.consA, Pv.consS, Pv.nilA, Pv.consM, Pv.tupM, Pv.lstM, Pv.parM, Pv.lift, Pv.live, Pv.sd0, Pv.slotOf, Pv.resOf, Pv.mutsAt, Pv.Out.bind, Pv.Out.st, Pv.SOut.then, Pv.cI, Pv.cB, Pv.cN, Pv.cS, Pv.nilL, Pv.gI, Pv.yes, Pv.isKd, Pv.okI, Pv.ownAt, Pv.fldOwn, Pv.fldM, Pv.gFld, Pv.setFldM, Pv.setIxM, Pv.makeM, Pv.makeR, Pv.max2M, Pv.min2M, Pv.int2M, Pv.gAdd, Pv.gMul, Pv.gIx, Pv.gLen, Pv.atD, Pv.forM, Pv.forL, Pv.tupIM, Pv.listM, Pv.gNm, Pv.tyD, L2.atI, L2.ixN, List.lookup, sig_need_number, sig_need_coin, e1, h]
  have e3 : m_coins_maker [d, f] = .exc 0 [(0, d)] [] := by
    unfold m_coins_maker g_coins_maker sig_coins_maker
    simp [Pv.seqM, Pv.ifM, Pv.setM, Pv.setOM, Pv.retM, Pv.retO, Pv.exprM, Pv.raiseM, Pv.binM, Pv.boolM, Pv.andM, Pv.orM, Pv.notM, Pv.andV, Pv.orV, Pv.notV, Pv.chainM, Pv.isiM, Pv.getS, Pv.ixOwn, Pv.peekM, Pv.peek, Pv.callM, Pv.callR, Pv.argD, Pv.apart, Pv.putMuts, Pv.consA, Pv.consS, Pv.nilA, Pv.consM, Pv.tupM, Pv.lstM, Pv.parM, Pv.lift, Pv.live, Pv.sd0, Pv.slotOf, Pv.resOf, Pv.mutsAt, Pv.Out.bind, Pv.Out.st, Pv.SOut.then, Pv.cI, Pv.cB, Pv.cN, Pv.cS, Pv.nilL, Pv.gI, Pv.yes, Pv.isKd, Pv.okI, Pv.ownAt, Pv.fldOwn, Pv.fldM, Pv.gFld, Pv.setFldM, Pv.setIxM, Pv.makeM, Pv.makeR, Pv.max2M, Pv.min2M, Pv.int2M, Pv.gAdd, Pv.gMul, Pv.gIx, Pv.gLen, Pv.atD, Pv.forM, Pv.forL, Pv.tupIM, Pv.listM, Pv.gNm, Pv.tyD, L2.atI, L2.ixN, List.lookup, sigA_Coins, e2, resC]
  unfold m__law_refusal g__law_refusal sig__law_refusal
  simp [Pv.seqM, Pv.ifM, Pv.setM, Pv.setOM, Pv.retM, Pv.retO, Pv.exprM, Pv.raiseM, Pv.binM, Pv.boolM, Pv.andM, Pv.orM, Pv.notM, Pv.andV, Pv.orV, Pv.notV, Pv.chainM, Pv.isiM, Pv.getS, Pv.ixOwn, Pv.peekM, Pv.peek, Pv.callM, Pv.callR, Pv.argD, Pv.apart, Pv.putMuts, Pv.consA, Pv.consS, Pv.nilA, Pv.consM, Pv.tupM, Pv.lstM, Pv.parM, Pv.lift, Pv.live, Pv.sd0, Pv.slotOf, Pv.resOf, Pv.mutsAt, Pv.Out.bind, Pv.Out.st, Pv.SOut.then, Pv.cI, Pv.cB, Pv.cN, Pv.cS, Pv.nilL, Pv.gI, Pv.yes, Pv.isKd, Pv.okI, Pv.ownAt, Pv.fldOwn, Pv.fldM, Pv.gFld, Pv.setFldM, Pv.setIxM, Pv.makeM, Pv.makeR, Pv.max2M, Pv.min2M, Pv.int2M, Pv.gAdd, Pv.gMul, Pv.gIx, Pv.gLen, Pv.atD, Pv.forM, Pv.forL, Pv.tupIM, Pv.listM, Pv.gNm, Pv.tyD, L2.atI, L2.ixN, List.lookup, tryM, SOut.out, sig_coins_maker, e3]
theorem v_ref_pair (d f : D) (h : m_need_coin [d] = .exc 0 [(0, d)] []) : m__law_refusal [d, f, .bl true] = .ret (.tup [.str "share", d]) [] := by
  have e1 := v_need_number (i := 1) (lo := 1) (hi := 10) (by decide)
  have e2 : m_Pairs___init__ [.ins 4 [], .int 1, d] = .exc 0 [(0, d)] [.ins 4 []] := by
    unfold m_Pairs___init__ g_Pairs___init__ sig_Pairs___init__
    simp [Pv.seqM, Pv.ifM, Pv.setM, Pv.setOM, Pv.retM, Pv.retO, Pv.exprM, Pv.raiseM, Pv.binM, Pv.boolM, Pv.andM, Pv.orM, Pv.notM, Pv.andV, Pv.orV, Pv.notV, Pv.chainM, Pv.isiM, Pv.getS, Pv.ixOwn, Pv.peekM, Pv.peek, Pv.callM, Pv.callR, Pv.argD, Pv.apart, Pv.putMuts, Pv.consA, Pv.consS, Pv.nilA, Pv.consM, Pv.tupM, Pv.lstM, Pv.parM, Pv.lift, Pv.live, Pv.sd0, Pv.slotOf, Pv.resOf, Pv.mutsAt, Pv.Out.bind, Pv.Out.st, Pv.SOut.then, Pv.cI, Pv.cB, Pv.cN, Pv.cS, Pv.nilL, Pv.gI, Pv.yes, Pv.isKd, Pv.okI, Pv.ownAt, Pv.fldOwn, Pv.fldM, Pv.gFld, Pv.setFldM, Pv.setIxM, Pv.makeM, Pv.makeR, Pv.max2M, Pv.min2M, Pv.int2M, Pv.gAdd, Pv.gMul, Pv.gIx, Pv.gLen, Pv.atD, Pv.forM, Pv.forL, Pv.tupIM, Pv.listM, Pv.gNm, Pv.tyD, L2.atI, L2.ixN, List.lookup, sig_need_number, sig_need_coin, e1, h]
  have e3 : m_pairs_maker [d] = .exc 0 [(0, d)] [] := by
    unfold m_pairs_maker g_pairs_maker sig_pairs_maker
    simp [Pv.seqM, Pv.ifM, Pv.setM, Pv.setOM, Pv.retM, Pv.retO, Pv.exprM, Pv.raiseM, Pv.binM, Pv.boolM, Pv.andM, Pv.orM, Pv.notM, Pv.andV, Pv.orV, Pv.notV, Pv.chainM, Pv.isiM, Pv.getS, Pv.ixOwn, Pv.peekM, Pv.peek, Pv.callM, Pv.callR, Pv.argD, Pv.apart, Pv.putMuts, Pv.consA, Pv.consS, Pv.nilA, Pv.consM, Pv.tupM, Pv.lstM, Pv.parM, Pv.lift, Pv.live, Pv.sd0, Pv.slotOf, Pv.resOf, Pv.mutsAt, Pv.Out.bind, Pv.Out.st, Pv.SOut.then, Pv.cI, Pv.cB, Pv.cN, Pv.cS, Pv.nilL, Pv.gI, Pv.yes, Pv.isKd, Pv.okI, Pv.ownAt, Pv.fldOwn, Pv.fldM, Pv.gFld, Pv.setFldM, Pv.setIxM, Pv.makeM, Pv.makeR, Pv.max2M, Pv.min2M, Pv.int2M, Pv.gAdd, Pv.gMul, Pv.gIx, Pv.gLen, Pv.atD, Pv.forM, Pv.forL, Pv.tupIM, Pv.listM, Pv.gNm, Pv.tyD, L2.atI, L2.ixN, List.lookup, sigA_Pairs, e2, resC]
  unfold m__law_refusal g__law_refusal sig__law_refusal
  simp [Pv.seqM, Pv.ifM, Pv.setM, Pv.setOM, Pv.retM, Pv.retO, Pv.exprM, Pv.raiseM, Pv.binM, Pv.boolM, Pv.andM, Pv.orM, Pv.notM, Pv.andV, Pv.orV, Pv.notV, Pv.chainM, Pv.isiM, Pv.getS, Pv.ixOwn, Pv.peekM, Pv.peek, Pv.callM, Pv.callR, Pv.argD, Pv.apart, Pv.putMuts, Pv.consA, Pv.consS, Pv.nilA, Pv.consM, Pv.tupM, Pv.lstM, Pv.parM, Pv.lift, Pv.live, Pv.sd0, Pv.slotOf, Pv.resOf, Pv.mutsAt, Pv.Out.bind, Pv.Out.st, Pv.SOut.then, Pv.cI, Pv.cB, Pv.cN, Pv.cS, Pv.nilL, Pv.gI, Pv.yes, Pv.isKd, Pv.okI, Pv.ownAt, Pv.fldOwn, Pv.fldM, Pv.gFld, Pv.setFldM, Pv.setIxM, Pv.makeM, Pv.makeR, Pv.max2M, Pv.min2M, Pv.int2M, Pv.gAdd, Pv.gMul, Pv.gIx, Pv.gLen, Pv.atD, Pv.forM, Pv.forL, Pv.tupIM, Pv.listM, Pv.gNm, Pv.tyD, L2.atI, L2.ixN, List.lookup, tryM, SOut.out, sig_pairs_maker, e3]
theorem v_ref_num (c d : D) (hc : m_need_coin [c] = .ret .non []) (h : m_need_number [d, .int 1, .int 20] = .exc 1 [(0, d)] []) : m__law_refusal [c, d, .bl false] = .ret (.tup [.str "number", d]) [] := by
  have e1 := v_need_number (i := 1) (lo := 1) (hi := 20) (by decide)
  have e2 : m_Coins___init__ [.ins 5 [], .int 1, c, d] = .exc 1 [(0, d)] [.ins 5 []] := by
    unfold m_Coins___init__ g_Coins___init__ sig_Coins___init__
    simp [Pv.seqM, Pv.ifM, Pv.setM, Pv.setOM, Pv.retM, Pv.retO, Pv.exprM, Pv.raiseM, Pv.binM, Pv.boolM, Pv.andM, Pv.orM, Pv.notM, Pv.andV, Pv.orV, Pv.notV, Pv.chainM, Pv.isiM, Pv.getS, Pv.ixOwn, Pv.peekM, Pv.peek, Pv.callM, Pv.callR, Pv.argD, Pv.apart, Pv.putMuts, Pv.consA, Pv.consS, Pv.nilA, Pv.consM, Pv.tupM, Pv.lstM, Pv.parM, Pv.lift, Pv.live, Pv.sd0, Pv.slotOf, Pv.resOf, Pv.mutsAt, Pv.Out.bind, Pv.Out.st, Pv.SOut.then, Pv.cI, Pv.cB, Pv.cN, Pv.cS, Pv.nilL, Pv.gI, Pv.yes, Pv.isKd, Pv.okI, Pv.ownAt, Pv.fldOwn, Pv.fldM, Pv.gFld, Pv.setFldM, Pv.setIxM, Pv.makeM, Pv.makeR, Pv.max2M, Pv.min2M, Pv.int2M, Pv.gAdd, Pv.gMul, Pv.gIx, Pv.gLen, Pv.atD, Pv.forM, Pv.forL, Pv.tupIM, Pv.listM, Pv.gNm, Pv.tyD, L2.atI, L2.ixN, List.lookup, sig_need_number, sig_need_coin, e1, h, hc]
  have e3 : m_coins_maker [c, d] = .exc 1 [(0, d)] [] := by
    unfold m_coins_maker g_coins_maker sig_coins_maker
    simp [Pv.seqM, Pv.ifM, Pv.setM, Pv.setOM, Pv.retM, Pv.retO, Pv.exprM, Pv.raiseM, Pv.binM, Pv.boolM, Pv.andM, Pv.orM, Pv.notM, Pv.andV, Pv.orV, Pv.notV, Pv.chainM, Pv.isiM, Pv.getS, Pv.ixOwn, Pv.peekM, Pv.peek, Pv.callM, Pv.callR, Pv.argD, Pv.apart, Pv.putMuts, Pv.consA, Pv.consS, Pv.nilA, Pv.consM, Pv.tupM, Pv.lstM, Pv.parM, Pv.lift, Pv.live, Pv.sd0, Pv.slotOf, Pv.resOf, Pv.mutsAt, Pv.Out.bind, Pv.Out.st, Pv.SOut.then, Pv.cI, Pv.cB, Pv.cN, Pv.cS, Pv.nilL, Pv.gI, Pv.yes, Pv.isKd, Pv.okI, Pv.ownAt, Pv.fldOwn, Pv.fldM, Pv.gFld, Pv.setFldM, Pv.setIxM, Pv.makeM, Pv.makeR, Pv.max2M, Pv.min2M, Pv.int2M, Pv.gAdd, Pv.gMul, Pv.gIx, Pv.gLen, Pv.atD, Pv.forM, Pv.forL, Pv.tupIM, Pv.listM, Pv.gNm, Pv.tyD, L2.atI, L2.ixN, List.lookup, sigA_Coins, e2, resC]
  unfold m__law_refusal g__law_refusal sig__law_refusal
  simp [Pv.seqM, Pv.ifM, Pv.setM, Pv.setOM, Pv.retM, Pv.retO, Pv.exprM, Pv.raiseM, Pv.binM, Pv.boolM, Pv.andM, Pv.orM, Pv.notM, Pv.andV, Pv.orV, Pv.notV, Pv.chainM, Pv.isiM, Pv.getS, Pv.ixOwn, Pv.peekM, Pv.peek, Pv.callM, Pv.callR, Pv.argD, Pv.apart, Pv.putMuts, Pv.consA, Pv.consS, Pv.nilA, Pv.consM, Pv.tupM, Pv.lstM, Pv.parM, Pv.lift, Pv.live, Pv.sd0, Pv.slotOf, Pv.resOf, Pv.mutsAt, Pv.Out.bind, Pv.Out.st, Pv.SOut.then, Pv.cI, Pv.cB, Pv.cN, Pv.cS, Pv.nilL, Pv.gI, Pv.yes, Pv.isKd, Pv.okI, Pv.ownAt, Pv.fldOwn, Pv.fldM, Pv.gFld, Pv.setFldM, Pv.setIxM, Pv.makeM, Pv.makeR, Pv.max2M, Pv.min2M, Pv.int2M, Pv.gAdd, Pv.gMul, Pv.gIx, Pv.gLen, Pv.atD, Pv.forM, Pv.forL, Pv.tupIM, Pv.listM, Pv.gNm, Pv.tyD, L2.atI, L2.ixN, List.lookup, tryM, SOut.out, sig_coins_maker, e3]
theorem v_ref_none (a b : Nat) (h0 : 0 < a) (h : a < b) (hb : b ≤ 100) (hg : Nat.gcd a b = 1) : m__law_refusal [.tup [.int a, .int b], .int 20, .bl false] = .ret .non [] := by
  have e3 := v_coins_maker 20 a b (by decide) h0 h hb hg
  unfold m__law_refusal g__law_refusal sig__law_refusal
  simp [Pv.seqM, Pv.ifM, Pv.setM, Pv.setOM, Pv.retM, Pv.retO, Pv.exprM, Pv.raiseM, Pv.binM, Pv.boolM, Pv.andM, Pv.orM, Pv.notM, Pv.andV, Pv.orV, Pv.notV, Pv.chainM, Pv.isiM, Pv.getS, Pv.ixOwn, Pv.peekM, Pv.peek, Pv.callM, Pv.callR, Pv.argD, Pv.apart, Pv.putMuts, Pv.consA, Pv.consS, Pv.nilA, Pv.consM, Pv.tupM, Pv.lstM, Pv.parM, Pv.lift, Pv.live, Pv.sd0, Pv.slotOf, Pv.resOf, Pv.mutsAt, Pv.Out.bind, Pv.Out.st, Pv.SOut.then, Pv.cI, Pv.cB, Pv.cN, Pv.cS, Pv.nilL, Pv.gI, Pv.yes, Pv.isKd, Pv.okI, Pv.ownAt, Pv.fldOwn, Pv.fldM, Pv.gFld, Pv.setFldM, Pv.setIxM, Pv.makeM, Pv.makeR, Pv.max2M, Pv.min2M, Pv.int2M, Pv.gAdd, Pv.gMul, Pv.gIx, Pv.gLen, Pv.atD, Pv.forM, Pv.forL, Pv.tupIM, Pv.listM, Pv.gNm, Pv.tyD, L2.atI, L2.ixN, List.lookup, tryM, SOut.out, sig_coins_maker, e3]

theorem v_refused {n : Nat} {s c : D} (h : St n s) (hn : n < 900) (hc : Coin c) : ∃ s', m__law_refused [s, c] = .ret (.bl true) [s'] ∧ St (n + 2) s' := by
  obtain ⟨a, b, rfl, k1, k2, k3, k4⟩ := hc
  obtain ⟨r1, s1, e1, a1, b1, h1⟩ := v_pull (m := 14) h (by omega) (by decide) (by decide)
  obtain ⟨d, hd, hp⟩ := pick (l := bads) a1 (by simpa [bads] using b1)
  obtain ⟨r2, s2, e2, a2, b2, h2⟩ := v_pull (m := 8) h1 (by omega) (by decide) (by decide)
  obtain ⟨f, hf, hq⟩ := pick (l := nums) a2 (by simpa [nums] using b2)
  obtain ⟨q1, q2⟩ := bad_ok d hd
  obtain ⟨q3, q4⟩ := num_ok f hf
  have u1 := v_ref_share d (.int 3) q1
  have u2 := v_ref_share d f q1
  have u3 := v_ref_pair d (.int 0) q1
  have u4 := v_ref_num _ f (v_need_coin a b k1 k2 k3 k4) q3
  have u5 := v_ref_none a b k1 k2 k3 k4
  simp only [bads] at hp
  simp only [nums] at hq
  refine ⟨s2, ?_, h2⟩
  unfold m__law_refused g__law_refused sig__law_refused
  simp [Pv.seqM, Pv.ifM, Pv.setM, Pv.setOM, Pv.retM, Pv.retO, Pv.exprM, Pv.raiseM, Pv.binM, Pv.boolM, Pv.andM, Pv.orM, Pv.notM, Pv.andV, Pv.orV, Pv.notV, Pv.chainM, Pv.isiM, Pv.getS, Pv.ixOwn, Pv.peekM, Pv.peek, Pv.callM, Pv.callR, Pv.argD, Pv.apart, Pv.putMuts, Pv.consA, Pv.consS, Pv.nilA, Pv.consM, Pv.tupM, Pv.lstM, Pv.parM, Pv.lift, Pv.live, Pv.sd0, Pv.slotOf, Pv.resOf, Pv.mutsAt, Pv.Out.bind, Pv.Out.st, Pv.SOut.then, Pv.cI, Pv.cB, Pv.cN, Pv.cS, Pv.nilL, Pv.gI, Pv.yes, Pv.isKd, Pv.okI, Pv.ownAt, Pv.fldOwn, Pv.fldM, Pv.gFld, Pv.setFldM, Pv.setIxM, Pv.makeM, Pv.makeR, Pv.max2M, Pv.min2M, Pv.int2M, Pv.gAdd, Pv.gMul, Pv.gIx, Pv.gLen, Pv.forM, Pv.forL, Pv.tupIM, Pv.listM, Pv.gNm, Pv.tyD, Pv.unM, Pv.gU, Pv.dic0M, sizeLine_eq, sig__law_pull, sig__law_refusal, e1, hp, e2, hq, u1, u2, u3, u4, u5, q2, q4, gIsN, Pv.isN]

/-! ### the law -/
def lB1 : SM := (seqM (setM 5 (callM sig__law_coin m__law_coin (consS 2 nilA)))
  (seqM (setM 6 (binM gAdd (cI 1) (callM sig__law_pull m__law_pull (consS 2 (consA (cI 20) nilA)))))
  (seqM (exprM (appM 3 (tupM 4 (consM (callM sig_split_maker m_split_maker nilA) (consM (cS "split") (consM (getS 5) (consM (getS 6) nilL)))))))
  (seqM (exprM (appM 3 (tupM 4 (consM (callM sig_pairs_maker m_pairs_maker (consA (getS 5) nilA)) (consM (cS "pairs") (consM (getS 5) (consM (getS 6) nilL)))))))
  (exprM (appM 3 (tupM 4 (consM (callM sig_coins_maker m_coins_maker (consA (getS 5) (consA (getS 6) nilA))) (consM (cS "coins") (consM (getS 5) (consM (getS 6) nilL)))))))))))
def lB2 : SM := (seqM (asgM (gTp (gsCons (gNm 7) (gsCons (gNm 8) (gsCons (gNm 5) (gsCons (gNm 6) gsNil))))) (ixOwn 3 (callM sig__law_pull m__law_pull (consS 2 (consA (cI 6) nilA)))))
  (ifM (notM (boolM (callM sig__law_right m__law_right (consA (getS 7) (consA (getS 8) (consA (getS 5) (consA (getS 6) (consA (binM gAdd (cI 1) (callM sig__law_pull m__law_pull (consS 2 (consA (cI 20) nilA)))) nilA))))))))
  (retM (cB false))
  (fun s => .next s)))
def lLast : SM := (ifM (notM (boolM (callM sig__law_refused m__law_refused (consS 2 (consA (getS 5) nilA)))))
  (retM (cB false))
  (fun s => .next s))
def lOut : SM := seqM (setOM 2 (callM sig__law_begun m__law_begun (consA (callM sig__law_cell m__law_cell (consA (getS 0) (consA (getS 1) nilA))) nilA))) (seqM (setOM 3 (lstM 0 nilL)) (seqM (forM (rangeM1 (cI 2)) (gNm 4) lB1) (seqM (forM (rangeM1 (cI 12)) (gNm 4) lB2) lLast)))
theorem g_law_eq : g_law = seqM (forM (rangeM1 (max2M (cI 2) (min2M (cI 12) (peekM 0 gLen)))) (gNm 1) lOut) (retM (cB true)) := rfl
def Good (e : D) : Prop := ∃ (mk w c : D) (f : Int), e = .tup [mk, w, c, .int f] ∧ Coin c ∧ ∀ n : Int, 1 ≤ n ∧ n ≤ 20 → m__law_right [mk, w, c, .int f, .int n] = .ret (.bl true) []
theorem step1 (A K x4 x5 x6 x7 x8 : Slot) (st : D) (L : List D) (n : Nat) (h : St n st) (hn : n < 800) (hL : L.length ≤ 100) : ∃ st' c f e1 e2 e3, lB1 [A, K, .own st, .own (.lst L), x4, x5, x6, x7, x8] = .next [A, K, .own st', .own (.lst (L ++ [e1, e2, e3])), x4, .val c, .val f, x7, x8] ∧ St (n + 4) st' ∧ Good e1 ∧ Good e2 ∧ Good e3 ∧ Coin c := by
  obtain ⟨c, s1, p1, hc, h1⟩ := v_coin h (by omega)
  obtain ⟨r, s2, p2, a2, b2, h2⟩ := v_pull (m := 20) h1 (by omega) (by decide) (by decide)
  obtain ⟨a, b, rfl, k1, k2, k3, k4⟩ := id hc
  have u2 := v_pairs_maker a b k1 k2 k3 k4
  have u3 := v_coins_maker (1 + r) a b (by omega) k1 k2 k3 k4
  have l1 : L.length < 16777216 := by omega
  have l2 : L.length + 1 < 16777216 := by omega
  have l3 : L.length + 1 + 1 < 16777216 := by omega
  refine ⟨s2, .tup [.int a, .int b], .int (1 + r), .tup [.clo 0 [], .str "split", .tup [.int a, .int b], .int (1 + r)], .tup [.clo 1 [.ins 4 [(2, .int 2), (4, .tup [.int a, .int b])]], .str "pairs", .tup [.int a, .int b], .int (1 + r)],
    .tup [.clo 2 [.ins 5 [(2, .int 1), (4, .tup [.int a, .int b]), (5, .int (1 + r))]], .str "coins", .tup [.int a, .int b], .int (1 + r)], ?_, h2, ⟨_, _, _, _, rfl, hc, fun m hm => v_right0 _ _ _ hm⟩, ⟨_, _, _, _, rfl, hc, fun m hm => v_right1 m _ a b hm k1 k2 k3 k4⟩, ⟨_, _, _, _, rfl, hc, fun m hm => v_right2 m _ a b hm (by omega) k1 k2 k3 k4⟩, hc⟩
  unfold lB1
  simp [Pv.seqM, Pv.ifM, Pv.setM, Pv.setOM, Pv.retM, Pv.retO, Pv.exprM, Pv.raiseM, Pv.binM, Pv.boolM, Pv.andM, Pv.orM, Pv.notM, Pv.andV, Pv.orV, Pv.notV, Pv.chainM, Pv.isiM, Pv.getS, Pv.ixOwn, Pv.peekM, Pv.peek, Pv.callM, Pv.callR, Pv.argD, Pv.apart, Pv.putMuts, Pv.consA, Pv.consS, Pv.nilA, Pv.consM, Pv.tupM, Pv.lstM, Pv.parM, Pv.lift, Pv.live, Pv.sd0, Pv.slotOf, Pv.resOf, Pv.mutsAt, Pv.Out.bind, Pv.Out.st, Pv.SOut.then, Pv.cI, Pv.cB, Pv.cN, Pv.cS, Pv.nilL, Pv.gI, Pv.yes, Pv.isKd, Pv.okI, Pv.ownAt, Pv.fldOwn, Pv.fldM, Pv.gFld, Pv.setFldM, Pv.setIxM, Pv.makeM, Pv.makeR, Pv.max2M, Pv.min2M, Pv.int2M, Pv.gAdd, Pv.gMul, Pv.gIx, Pv.gLen, Pv.forM, Pv.forL, Pv.tupIM, Pv.listM, Pv.gNm, Pv.tyD, appM, sizeLine_eq, sig__law_coin, sig__law_pull, sig_split_maker, sig_pairs_maker, sig_coins_maker, p1, p2, v_split_maker, u2, u3, l1, l2, l3]

theorem step2 (A K x4 x5 x6 x7 x8 : Slot) (st : D) (L : List D) (n : Nat) (h : St n st) (hn : n < 800) (hL : L.length = 6) (hg : ∀ e ∈ L, Good e) : ∃ st' c f y7 y8, lB2 [A, K, .own st, .own (.lst L), x4, x5, x6, x7, x8] = .next [A, K, .own st', .own (.lst L), x4, .val c, f, y7, y8] ∧ St (n + 2) st' ∧ Coin c := by
  obtain ⟨r, s1, p1, a1, b1, h1⟩ := v_pull (m := 6) h (by omega) (by decide) (by decide)
  obtain ⟨e, he, hp⟩ := pick (l := L) a1 (by rw [hL]; exact b1)
  obtain ⟨mk, w, c, f, rfl, hc, hr⟩ := hg e he
  obtain ⟨q, s2, p2, a2, b2, h2⟩ := v_pull (m := 20) h1 (by omega) (by decide) (by decide)
  have hr := hr (1 + q) (by omega)
  refine ⟨s2, c, .val (.int f), .val mk, .val w, ?_, h2, hc⟩
  unfold lB2
  simp [Pv.seqM, Pv.ifM, Pv.setM, Pv.setOM, Pv.retM, Pv.retO, Pv.exprM, Pv.raiseM, Pv.binM, Pv.boolM, Pv.andM, Pv.orM, Pv.notM, Pv.andV, Pv.orV, Pv.notV, Pv.chainM, Pv.isiM, Pv.getS, Pv.ixOwn, Pv.peekM, Pv.peek, Pv.callM, Pv.callR, Pv.argD, Pv.apart, Pv.putMuts, Pv.consA, Pv.consS, Pv.nilA, Pv.consM, Pv.tupM, Pv.lstM, Pv.parM, Pv.lift, Pv.live, Pv.sd0, Pv.slotOf, Pv.resOf, Pv.mutsAt, Pv.Out.bind, Pv.Out.st, Pv.SOut.then, Pv.cI, Pv.cB, Pv.cN, Pv.cS, Pv.nilL, Pv.gI, Pv.yes, Pv.isKd, Pv.okI, Pv.ownAt, Pv.fldOwn, Pv.fldM, Pv.gFld, Pv.setFldM, Pv.setIxM, Pv.makeM, Pv.makeR, Pv.max2M, Pv.min2M, Pv.int2M, Pv.gAdd, Pv.gMul, Pv.gIx, Pv.gLen, Pv.forM, Pv.forL, Pv.tupIM, Pv.listM, Pv.gNm, Pv.tyD, asgM, gTp, gsCons, gsNil, sig__law_pull, sig__law_right, p1, hp, p2, hr]
theorem loop2 (A K x6 x7 x8 : Slot) (L : List D) (hL : L.length = 6) (hg : ∀ e ∈ L, Good e) : ∀ (ds : List D) (n : Nat) (st : D) (x4 x6 x7 x8 : Slot) (c : D), St n st → n + 2 * ds.length < 800 → Coin c → ∃ st' c' y4 y6 y7 y8, forL (gNm 4) lB2 ds [A, K, .own st, .own (.lst L), x4, .val c, x6, x7, x8] = .next [A, K, .own st', .own (.lst L), y4, .val c', y6, y7, y8] ∧ St (n + 2 * ds.length) st' ∧ Coin c'
  | [], n, st, x4, x6, x7, x8, c, h, _, hc => ⟨st, c, x4, x6, x7, x8, rfl, h, hc⟩
  | d :: ds, n, st, x4, x6, x7, x8, c, h, hn, hc => by
    rw [List.length_cons] at hn
    obtain ⟨s1, c1, f1, y7, y8, e1, h1, hc1⟩ := step2 A K (.val d) (.val c) x6 x7 x8 st L n h (by omega) hL hg
    obtain ⟨s2, c2, z4, z6, z7, z8, e2, h2, hc2⟩ := loop2 A K x6 x7 x8 L hL hg ds (n + 2) s1 (.val d) f1 y7 y8 c1 h1 (by omega) hc1
    refine ⟨s2, c2, z4, z6, z7, z8, ?_, ?_, hc2⟩
    · unfold forL
      show (match lB2 [A, K, .own st, .own (.lst L), .val d, .val c, x6, x7, x8] with
        | .next s2 => forL (gNm 4) lB2 ds s2
        | .cont s2 => forL (gNm 4) lB2 ds s2
        | .brk s2 => .next s2
        | o => o) = _
      rw [e1]
      exact e2
    · rw [List.length_cons, show n + 2 * (ds.length + 1) = n + 2 + 2 * ds.length by omega]
      exact h2
theorem seqM_next {g h : SM} {s s' : SD} (e : g s = .next s') : seqM g h s = h s' := by
  unfold Pv.seqM
  rw [e]
  rfl
/-- one cell -/
theorem one (ns : List Int) (k : Nat) (hk : k < 100) (hl : ns.length ≤ 63) (x2 x3 x4 x5 x6 x7 x8 : Slot) : ∃ y2 y3 y4 y5 y6 y7 y8, lOut [.val (.arr (ns.map .int)), .val (.int k), x2, x3, x4, x5, x6, x7, x8] = .next [.val (.arr (ns.map .int)), .val (.int k), y2, y3, y4, y5, y6, y7, y8] := by
  obtain ⟨i, ei⟩ := v_cell ns k hk hl
  obtain ⟨s0, es, h0⟩ := v_begun i
  obtain ⟨s1, c1, f1, a1, a2, a3, e1, h1, g1, g2, g3, hc1⟩ := step1 (.val (.arr (ns.map .int))) (.val (.int k)) (.val (.int 0)) x5 x6 x7 x8 s0 [] 0 h0 (by decide) (by simp)
  obtain ⟨s2, c2, f2, b1, b2, b3, e2, h2, g4, g5, g6, hc2⟩ := step1 (.val (.arr (ns.map .int))) (.val (.int k)) (.val (.int 1)) (.val c1) (.val f1) x7 x8 s1 [a1, a2, a3] _ h1 (by decide) (by simp)
  obtain ⟨s3, c3, y4, y6, y7, y8, e3, h3, hc3⟩ := loop2 (.val (.arr (ns.map .int))) (.val (.int k)) .non .non .non [a1, a2, a3, b1, b2, b3] rfl (by
    intro e he
    simp only [List.mem_cons, List.not_mem_nil, or_false] at he
    rcases he with rfl | rfl | rfl | rfl | rfl | rfl <;> assumption) (rangeD 0 12) _ s2 (.val (.int 1)) (.val f2) x7 x8 c2 h2 (by rw [rangeD_len]; decide) hc2
  obtain ⟨s4, e4, h4⟩ := v_refused h3 (by rw [rangeD_len]; decide) hc3
  refine ⟨.own s4, .own (.lst [a1, a2, a3, b1, b2, b3]), y4, .val c3, y6, y7, y8, ?_⟩
  unfold lOut
  have t1 : setOM 2 (callM sig__law_begun m__law_begun (consA (callM sig__law_cell m__law_cell (consA (getS 0) (consA (getS 1) nilA))) nilA)) [.val (.arr (ns.map .int)), .val (.int k), x2, x3, x4, x5, x6, x7, x8] = .next [.val (.arr (ns.map .int)), .val (.int k), .own s0, x3, x4, x5, x6, x7, x8] := by
    simp [Pv.seqM, Pv.ifM, Pv.setM, Pv.setOM, Pv.retM, Pv.retO, Pv.exprM, Pv.raiseM, Pv.binM, Pv.boolM, Pv.andM, Pv.orM, Pv.notM, Pv.andV, Pv.orV, Pv.notV, Pv.chainM, Pv.isiM, Pv.getS, Pv.ixOwn, Pv.peekM, Pv.peek, Pv.callM, Pv.callR, Pv.argD, Pv.apart, Pv.putMuts, Pv.consA, Pv.consS, Pv.nilA, Pv.consM, Pv.tupM, Pv.lstM, Pv.parM, Pv.lift, Pv.live, Pv.sd0, Pv.slotOf, Pv.resOf, Pv.mutsAt, Pv.Out.bind, Pv.Out.st, Pv.SOut.then, Pv.cI, Pv.cB, Pv.cN, Pv.cS, Pv.nilL, Pv.gI, Pv.yes, Pv.isKd, Pv.okI, Pv.ownAt, Pv.fldOwn, Pv.fldM, Pv.gFld, Pv.setFldM, Pv.setIxM, Pv.makeM, Pv.makeR, Pv.max2M, Pv.min2M, Pv.int2M, Pv.gAdd, Pv.gMul, Pv.gIx, Pv.gLen, Pv.forM, Pv.forL, Pv.tupIM, Pv.listM, Pv.gNm, Pv.tyD, sig__law_begun, sig__law_cell, ei, es]
  have t2 : setOM 3 (lstM 0 nilL) [.val (.arr (ns.map .int)), .val (.int k), .own s0, x3, x4, x5, x6, x7, x8] = .next [.val (.arr (ns.map .int)), .val (.int k), .own s0, .own (.lst []), x4, x5, x6, x7, x8] := by
    simp [Pv.seqM, Pv.ifM, Pv.setM, Pv.setOM, Pv.retM, Pv.retO, Pv.exprM, Pv.raiseM, Pv.binM, Pv.boolM, Pv.andM, Pv.orM, Pv.notM, Pv.andV, Pv.orV, Pv.notV, Pv.chainM, Pv.isiM, Pv.getS, Pv.ixOwn, Pv.peekM, Pv.peek, Pv.callM, Pv.callR, Pv.argD, Pv.apart, Pv.putMuts, Pv.consA, Pv.consS, Pv.nilA, Pv.consM, Pv.tupM, Pv.lstM, Pv.parM, Pv.lift, Pv.live, Pv.sd0, Pv.slotOf, Pv.resOf, Pv.mutsAt, Pv.Out.bind, Pv.Out.st, Pv.SOut.then, Pv.cI, Pv.cB, Pv.cN, Pv.cS, Pv.nilL, Pv.gI, Pv.yes, Pv.isKd, Pv.okI, Pv.ownAt, Pv.fldOwn, Pv.fldM, Pv.gFld, Pv.setFldM, Pv.setIxM, Pv.makeM, Pv.makeR, Pv.max2M, Pv.min2M, Pv.int2M, Pv.gAdd, Pv.gMul, Pv.gIx, Pv.gLen, Pv.forM, Pv.forL, Pv.tupIM, Pv.listM, Pv.gNm, Pv.tyD]
  have t3 : forM (rangeM1 (cI 2)) (gNm 4) lB1 [.val (.arr (ns.map .int)), .val (.int k), .own s0, .own (.lst []), x4, x5, x6, x7, x8] = .next [.val (.arr (ns.map .int)), .val (.int k), .own s2, .own (.lst [a1, a2, a3, b1, b2, b3]), .val (.int 1), .val c2, .val f2, x7, x8] := by
    show forL (gNm 4) lB1 [.int 0, .int 1] [.val (.arr (ns.map .int)), .val (.int k), .own s0, .own (.lst []), x4, x5, x6, x7, x8] = _
    unfold forL
    show (match lB1 [.val (.arr (ns.map .int)), .val (.int k), .own s0, .own (.lst []), .val (.int 0), x5, x6, x7, x8] with
      | .next s2 => forL (gNm 4) lB1 [.int 1] s2
      | .cont s2 => forL (gNm 4) lB1 [.int 1] s2
      | .brk s2 => .next s2
      | o => o) = _
    rw [e1]
    show forL (gNm 4) lB1 [.int 1] [.val (.arr (ns.map .int)), .val (.int k), .own s1, .own (.lst [a1, a2, a3]), .val (.int 0), .val c1, .val f1, x7, x8] = _
    unfold forL
    show (match lB1 [.val (.arr (ns.map .int)), .val (.int k), .own s1, .own (.lst [a1, a2, a3]), .val (.int 1), .val c1, .val f1, x7, x8] with
      | .next s2 => forL (gNm 4) lB1 [] s2
      | .cont s2 => forL (gNm 4) lB1 [] s2
      | .brk s2 => .next s2
      | o => o) = _
    rw [e2]
    rfl
  have t4 : forM (rangeM1 (cI 12)) (gNm 4) lB2 [.val (.arr (ns.map .int)), .val (.int k), .own s2, .own (.lst [a1, a2, a3, b1, b2, b3]), .val (.int 1), .val c2, .val f2, x7, x8] = .next [.val (.arr (ns.map .int)), .val (.int k), .own s3, .own (.lst [a1, a2, a3, b1, b2, b3]), y4, .val c3, y6, y7, y8] := by
    show forL (gNm 4) lB2 (rangeD 0 12) _ = _
    exact e3
  have t5 : lLast [.val (.arr (ns.map .int)), .val (.int k), .own s3, .own (.lst [a1, a2, a3, b1, b2, b3]), y4, .val c3, y6, y7, y8] = .next [.val (.arr (ns.map .int)), .val (.int k), .own s4, .own (.lst [a1, a2, a3, b1, b2, b3]), y4, .val c3, y6, y7, y8] := by
    unfold lLast
    simp [Pv.seqM, Pv.ifM, Pv.setM, Pv.setOM, Pv.retM, Pv.retO, Pv.exprM, Pv.raiseM, Pv.binM, Pv.boolM, Pv.andM, Pv.orM, Pv.notM, Pv.andV, Pv.orV, Pv.notV, Pv.chainM, Pv.isiM, Pv.getS, Pv.ixOwn, Pv.peekM, Pv.peek, Pv.callM, Pv.callR, Pv.argD, Pv.apart, Pv.putMuts, Pv.consA, Pv.consS, Pv.nilA, Pv.consM, Pv.tupM, Pv.lstM, Pv.parM, Pv.lift, Pv.live, Pv.sd0, Pv.slotOf, Pv.resOf, Pv.mutsAt, Pv.Out.bind, Pv.Out.st, Pv.SOut.then, Pv.cI, Pv.cB, Pv.cN, Pv.cS, Pv.nilL, Pv.gI, Pv.yes, Pv.isKd, Pv.okI, Pv.ownAt, Pv.fldOwn, Pv.fldM, Pv.gFld, Pv.setFldM, Pv.setIxM, Pv.makeM, Pv.makeR, Pv.max2M, Pv.min2M, Pv.int2M, Pv.gAdd, Pv.gMul, Pv.gIx, Pv.gLen, Pv.forM, Pv.forL, Pv.tupIM, Pv.listM, Pv.gNm, Pv.tyD, sig__law_refused, e4]
  rw [seqM_next t1, seqM_next t2, seqM_next t3, seqM_next t4]
  exact t5
theorem cells (ns : List Int) (hl : ns.length ≤ 63) : ∀ (ds : List D), (∀ d ∈ ds, ∃ k : Nat, d = .int k ∧ k < 100) → ∀ (x1 x2 x3 x4 x5 x6 x7 x8 : Slot), ∃ y1 y2 y3 y4 y5 y6 y7 y8, forL (gNm 1) lOut ds [.val (.arr (ns.map .int)), x1, x2, x3, x4, x5, x6, x7, x8] = .next [.val (.arr (ns.map .int)), y1, y2, y3, y4, y5, y6, y7, y8]
  | [], _, x1, x2, x3, x4, x5, x6, x7, x8 => ⟨x1, x2, x3, x4, x5, x6, x7, x8, rfl⟩
  | d :: ds, h, x1, x2, x3, x4, x5, x6, x7, x8 => by
    obtain ⟨k, rfl, hk⟩ := h d List.mem_cons_self
    obtain ⟨z2, z3, z4, z5, z6, z7, z8, e⟩ := one ns k hk hl x2 x3 x4 x5 x6 x7 x8
    obtain ⟨y1, y2, y3, y4, y5, y6, y7, y8, e2⟩ := cells ns hl ds (fun d hd => h d (List.mem_cons_of_mem _ hd)) (.val (.int k)) z2 z3 z4 z5 z6 z7 z8
    refine ⟨y1, y2, y3, y4, y5, y6, y7, y8, ?_⟩
    unfold forL
    show (match lOut [.val (.arr (ns.map .int)), .val (.int k), x2, x3, x4, x5, x6, x7, x8] with
      | .next s2 => forL (gNm 1) lOut ds s2
      | .cont s2 => forL (gNm 1) lOut ds s2
      | .brk s2 => .next s2
      | o => o) = _
    rw [e]
    exact e2
theorem law_true (ns : List Int) (hl : ns.length ≤ 63) : m_law [.arr (ns.map .int)] = .ret (.bl true) [] := by
  unfold m_law
  rw [g_law_eq]
  obtain ⟨N, hN, hn⟩ : ∃ N : Nat, (forM (rangeM1 (max2M (cI 2) (min2M (cI 12) (peekM 0 gLen)))) (gNm 1) lOut [.val (.arr (ns.map .int)), .non, .non, .non, .non, .non, .non, .non, .non]) = forL (gNm 1) lOut (rangeD 0 N) [.val (.arr (ns.map .int)), .non, .non, .non, .non, .non, .non, .non, .non] ∧ N ≤ 12 := by
    by_cases h1 : ns.length < 12
    · by_cases h2 : ns.length > 2
      · refine ⟨ns.length, ?_, by omega⟩
        have a1 : (ns.length : Int) < 12 := by omega
        have a2 : (ns.length : Int) > 2 := by omega
        have a3 : (ns.length : Int) ≤ 16777216 := by omega
        have a4 : small62 (ns.length : Int) = true := decide_eq_true ⟨by omega, by omega⟩
        simp [Pv.seqM, Pv.ifM, Pv.setM, Pv.setOM, Pv.retM, Pv.retO, Pv.exprM, Pv.raiseM, Pv.binM, Pv.boolM, Pv.andM, Pv.orM, Pv.notM, Pv.andV, Pv.orV, Pv.notV, Pv.chainM, Pv.isiM, Pv.getS, Pv.ixOwn, Pv.peekM, Pv.peek, Pv.callM, Pv.callR, Pv.argD, Pv.apart, Pv.putMuts, Pv.consA, Pv.consS, Pv.nilA, Pv.consM, Pv.tupM, Pv.lstM, Pv.parM, Pv.lift, Pv.live, Pv.sd0, Pv.slotOf, Pv.resOf, Pv.mutsAt, Pv.Out.bind, Pv.Out.st, Pv.SOut.then, Pv.cI, Pv.cB, Pv.cN, Pv.cS, Pv.nilL, Pv.gI, Pv.yes, Pv.isKd, Pv.okI, Pv.ownAt, Pv.fldOwn, Pv.fldM, Pv.gFld, Pv.setFldM, Pv.setIxM, Pv.makeM, Pv.makeR, Pv.max2M, Pv.min2M, Pv.int2M, Pv.gAdd, Pv.gMul, Pv.gIx, Pv.gLen, Pv.forM, Pv.forL, Pv.tupIM, Pv.listM, Pv.gNm, Pv.tyD, rangeM1, a4, a1, a2, a3, h1, h2]
      · refine ⟨2, ?_, by omega⟩
        have a1 : (ns.length : Int) < 12 := by omega
        have a2 : ¬ (ns.length : Int) > 2 := by omega
        simp [Pv.seqM, Pv.ifM, Pv.setM, Pv.setOM, Pv.retM, Pv.retO, Pv.exprM, Pv.raiseM, Pv.binM, Pv.boolM, Pv.andM, Pv.orM, Pv.notM, Pv.andV, Pv.orV, Pv.notV, Pv.chainM, Pv.isiM, Pv.getS, Pv.ixOwn, Pv.peekM, Pv.peek, Pv.callM, Pv.callR, Pv.argD, Pv.apart, Pv.putMuts, Pv.consA, Pv.consS, Pv.nilA, Pv.consM, Pv.tupM, Pv.lstM, Pv.parM, Pv.lift, Pv.live, Pv.sd0, Pv.slotOf, Pv.resOf, Pv.mutsAt, Pv.Out.bind, Pv.Out.st, Pv.SOut.then, Pv.cI, Pv.cB, Pv.cN, Pv.cS, Pv.nilL, Pv.gI, Pv.yes, Pv.isKd, Pv.okI, Pv.ownAt, Pv.fldOwn, Pv.fldM, Pv.gFld, Pv.setFldM, Pv.setIxM, Pv.makeM, Pv.makeR, Pv.max2M, Pv.min2M, Pv.int2M, Pv.gAdd, Pv.gMul, Pv.gIx, Pv.gLen, Pv.forM, Pv.forL, Pv.tupIM, Pv.listM, Pv.gNm, Pv.tyD, rangeM1, small62, a1, a2, h1, h2]
    · refine ⟨12, ?_, by omega⟩
      have a1 : ¬ (ns.length : Int) < 12 := by omega
      simp [Pv.seqM, Pv.ifM, Pv.setM, Pv.setOM, Pv.retM, Pv.retO, Pv.exprM, Pv.raiseM, Pv.binM, Pv.boolM, Pv.andM, Pv.orM, Pv.notM, Pv.andV, Pv.orV, Pv.notV, Pv.chainM, Pv.isiM, Pv.getS, Pv.ixOwn, Pv.peekM, Pv.peek, Pv.callM, Pv.callR, Pv.argD, Pv.apart, Pv.putMuts, Pv.consA, Pv.consS, Pv.nilA, Pv.consM, Pv.tupM, Pv.lstM, Pv.parM, Pv.lift, Pv.live, Pv.sd0, Pv.slotOf, Pv.resOf, Pv.mutsAt, Pv.Out.bind, Pv.Out.st, Pv.SOut.then, Pv.cI, Pv.cB, Pv.cN, Pv.cS, Pv.nilL, Pv.gI, Pv.yes, Pv.isKd, Pv.okI, Pv.ownAt, Pv.fldOwn, Pv.fldM, Pv.gFld, Pv.setFldM, Pv.setIxM, Pv.makeM, Pv.makeR, Pv.max2M, Pv.min2M, Pv.int2M, Pv.gAdd, Pv.gMul, Pv.gIx, Pv.gLen, Pv.forM, Pv.forL, Pv.tupIM, Pv.listM, Pv.gNm, Pv.tyD, rangeM1, small62, a1, h1]
  obtain ⟨y1, y2, y3, y4, y5, y6, y7, y8, e⟩ := cells ns hl (rangeD 0 N) (fun d hd => by
    unfold rangeD at hd
    obtain ⟨i, hi, rfl⟩ := List.mem_map.mp hd
    refine ⟨i, by simp, ?_⟩
    have := List.mem_range.mp hi
    omega) .non .non .non .non .non .non .non .non
  show resOf sig_law [] ((forM (rangeM1 (max2M (cI 2) (min2M (cI 12) (peekM 0 gLen)))) (gNm 1) lOut [.val (.arr (ns.map .int)), .non, .non, .non, .non, .non, .non, .non, .non]).then (retM (cB true))) = _
  rw [hN, e]
  simp [Pv.seqM, Pv.ifM, Pv.setM, Pv.setOM, Pv.retM, Pv.retO, Pv.exprM, Pv.raiseM, Pv.binM, Pv.boolM, Pv.andM, Pv.orM, Pv.notM, Pv.andV, Pv.orV, Pv.notV, Pv.chainM, Pv.isiM, Pv.getS, Pv.ixOwn, Pv.peekM, Pv.peek, Pv.callM, Pv.callR, Pv.argD, Pv.apart, Pv.putMuts, Pv.consA, Pv.consS, Pv.nilA, Pv.consM, Pv.tupM, Pv.lstM, Pv.parM, Pv.lift, Pv.live, Pv.sd0, Pv.slotOf, Pv.resOf, Pv.mutsAt, Pv.Out.bind, Pv.Out.st, Pv.SOut.then, Pv.cI, Pv.cB, Pv.cN, Pv.cS, Pv.nilL, Pv.gI, Pv.yes, Pv.isKd, Pv.okI, Pv.ownAt, Pv.fldOwn, Pv.fldM, Pv.gFld, Pv.setFldM, Pv.setIxM, Pv.makeM, Pv.makeR, Pv.max2M, Pv.min2M, Pv.int2M, Pv.gAdd, Pv.gMul, Pv.gIx, Pv.gLen, Pv.forM, Pv.forL, Pv.tupIM, Pv.listM, Pv.gNm, Pv.tyD, sig_law]
end K62

set_option Elab.async false
set_option linter.all false
set_option maxRecDepth 100000
set_option maxHeartbeats 0
namespace K62
open PySem L2 Pv
def dd_0 : He.DefD := ⟨("NoShare", some "__init__"), "__init__", "NoShare.__init__", defArgs st_NoShare_init, defBody st_NoShare_init, defScope st_NoShare_init, [], []⟩
def dd_1 : He.DefD := ⟨("NoNumber", some "__init__"), "__init__", "NoNumber.__init__", defArgs st_NoNumber_init, defBody st_NoNumber_init, defScope st_NoNumber_init, [], []⟩
def dd_2 : He.DefD := ⟨("is_whole", none), "is_whole", "is_whole", defArgs st_is_whole, defBody st_is_whole, defScope st_is_whole, [], []⟩
def dd_3 : He.DefD := ⟨("common", none), "common", "common", defArgs st_common, defBody st_common, defScope st_common, [], []⟩
def dd_4 : He.DefD := ⟨("are_parts", none), "are_parts", "are_parts", defArgs st_are_parts, defBody st_are_parts, defScope st_are_parts, [], []⟩
def dd_5 : He.DefD := ⟨("is_share", none), "is_share", "is_share", defArgs st_is_share, defBody st_is_share, defScope st_is_share, [], []⟩
def dd_6 : He.DefD := ⟨("need_number", none), "need_number", "need_number", defArgs st_need_number, defBody st_need_number, defScope st_need_number, [], []⟩
def dd_7 : He.DefD := ⟨("need_coin", none), "need_coin", "need_coin", defArgs st_need_coin, defBody st_need_coin, defScope st_need_coin, [], []⟩
def dd_8 : He.DefD := ⟨("Rule", some "__init__"), "__init__", "Rule.__init__", defArgs st_Rule___init__, defBody st_Rule___init__, defScope st_Rule___init__, [], []⟩
def dd_9 : He.DefD := ⟨("Split", some "__init__"), "__init__", "Split.__init__", defArgs st_Split___init__, defBody st_Split___init__, defScope st_Split___init__, [], []⟩
def dd_10 : He.DefD := ⟨("Pairs", some "__init__"), "__init__", "Pairs.__init__", defArgs st_Pairs___init__, defBody st_Pairs___init__, defScope st_Pairs___init__, [], []⟩
def dd_11 : He.DefD := ⟨("Coins", some "__init__"), "__init__", "Coins.__init__", defArgs st_Coins___init__, defBody st_Coins___init__, defScope st_Coins___init__, [], []⟩
def dd_12 : He.DefD := ⟨("Split", some "told"), "told", "Split.told", defArgs st_Split_told, defBody st_Split_told, defScope st_Split_told, [], []⟩
def dd_13 : He.DefD := ⟨("Pairs", some "told"), "told", "Pairs.told", defArgs st_Pairs_told, defBody st_Pairs_told, defScope st_Pairs_told, [], []⟩
def dd_14 : He.DefD := ⟨("Coins", some "told"), "told", "Coins.told", defArgs st_Coins_told, defBody st_Coins_told, defScope st_Coins_told, [], []⟩
def dd_15 : He.DefD := ⟨("Split", some "folk"), "folk", "Rule.folk", defArgs st_Rule_folk, defBody st_Rule_folk, defScope st_Rule_folk, [], []⟩
def dd_16 : He.DefD := ⟨("Pairs", some "folk"), "folk", "Rule.folk", defArgs st_Rule_folk, defBody st_Rule_folk, defScope st_Rule_folk, [], []⟩
def dd_17 : He.DefD := ⟨("Coins", some "folk"), "folk", "Rule.folk", defArgs st_Rule_folk, defBody st_Rule_folk, defScope st_Rule_folk, [], []⟩
def dd_18 : He.DefD := ⟨("split_maker", none), "split_maker", "split_maker", defArgs st_split_maker, defBody st_split_maker, defScope st_split_maker, [], []⟩
def dd_19 : He.DefD := ⟨("pairs_maker", none), "pairs_maker", "pairs_maker", defArgs st_pairs_maker, defBody st_pairs_maker, defScope st_pairs_maker, [], []⟩
def dd_20 : He.DefD := ⟨("coins_maker", none), "coins_maker", "coins_maker", defArgs st_coins_maker, defBody st_coins_maker, defScope st_coins_maker, [], []⟩
def dd_21 : He.DefD := ⟨("_law_cell", none), "_law_cell", "_law_cell", defArgs st__law_cell, defBody st__law_cell, defScope st__law_cell, [], []⟩
def dd_22 : He.DefD := ⟨("_law_mix", none), "_law_mix", "_law_mix", defArgs st__law_mix, defBody st__law_mix, defScope st__law_mix, [], []⟩
def dd_23 : He.DefD := ⟨("_law_begun", none), "_law_begun", "_law_begun", defArgs st__law_begun, defBody st__law_begun, defScope st__law_begun, [], []⟩
def dd_24 : He.DefD := ⟨("_law_pull", none), "_law_pull", "_law_pull", defArgs st__law_pull, defBody st__law_pull, defScope st__law_pull, [], []⟩
def dd_25 : He.DefD := ⟨("_law_share", none), "_law_share", "_law_share", defArgs st__law_share, defBody st__law_share, defScope st__law_share, [], []⟩
def dd_26 : He.DefD := ⟨("_law_coin", none), "_law_coin", "_law_coin", defArgs st__law_coin, defBody st__law_coin, defScope st__law_coin, [], []⟩
def dd_27 : He.DefD := ⟨("_law_due", none), "_law_due", "_law_due", defArgs st__law_due, defBody st__law_due, defScope st__law_due, [], []⟩
def dd_28 : He.DefD := ⟨("_law_right", none), "_law_right", "_law_right", defArgs st__law_right, defBody st__law_right, defScope st__law_right, [], []⟩
def dd_29 : He.DefD := ⟨("_law_refusal", none), "_law_refusal", "_law_refusal", defArgs st__law_refusal, defBody st__law_refusal, defScope st__law_refusal, [], []⟩
def dd_30 : He.DefD := ⟨("_law_refused", none), "_law_refused", "_law_refused", defArgs st__law_refused, defBody st__law_refused, defScope st__law_refused, [], []⟩
def dd_31 : He.DefD := ⟨("law", none), "law", "law", defArgs st_law, defBody st_law, defScope st_law, [], []⟩
def fn : List He.DefD := [dd_0, dd_1, dd_2, dd_3, dd_4, dd_5, dd_6, dd_7, dd_8, dd_9, dd_10, dd_11, dd_12, dd_13, dd_14, dd_15, dd_16, dd_17, dd_18, dd_19, dd_20, dd_21, dd_22, dd_23, dd_24, dd_25, dd_26, dd_27, dd_28, dd_29, dd_30, dd_31]
def fa0 : List He.Fa := [.glo "DealError", .glo "NoShare", .glo "NoNumber", .free "isinstance", .free "int", .free "bool", .glo "is_whole", .glo "common", .glo "are_parts", .free "tuple", .free "len", .glo "is_share", .glo "need_number", .int "MOST_BOTTOM" 100, .glo "need_coin", .cls "Split", .noat "Split" "size", .cls "Pairs", .noat "Pairs" "size", .cls "Coins", .noat "Coins" "size", .glo "Rule", .int "MOST_FOLK" 20, .noat "Split" "ones", .noat "Pairs" "ones", .noat "Coins" "ones", .int "MOST_PAIRS" 10, .noat "Split" "coin", .noat "Pairs" "coin", .noat "Coins" "coin", .noat "Split" "far", .noat "Pairs" "far", .noat "Coins" "far", .glo "Split", .mkr "Split"]
def fa1 : List He.Fa := [.glo "Pairs", .mkr "Pairs", .glo "Coins", .mkr "Coins", .meth "Split" "told", .meth "Pairs" "told", .meth "Coins" "told", .meth "Split" "folk", .meth "Pairs" "folk", .meth "Coins" "folk", .free "divmod", .glo "split_maker", .glo "pairs_maker", .glo "coins_maker", .glo "_law_cell", .glo "_law_mix", .free "max", .glo "_law_begun", .glo "_law_pull", .glo "_law_share", .glo "_law_coin", .glo "_law_due", .glo "_law_right", .glo "NoRule", .glo "_law_refusal", .glo "_law_refused", .free "range", .free "min", .glo "law"]
def fa : List He.Fa := fa0 ++ fa1
def exl0 (K : PySem.W.Frag) : List Bool := [creadB K (He.ga K "DealError"), fclsB K (He.ga K "DealError") "__init__" (.builtin "ValueError.__init__"), oexB K (He.ga K "NoShare"), decide (PySem.W.findIn K (.ref (He.ga K "NoShare")) "__init__" = some (some (.ref (He.ma K (He.ga K "NoShare") "__init__")))), decide (PySem.W.typeIn K (.ref (He.ma K (He.ga K "NoShare") "__init__")) = some (.type "function")), decide (PySem.W.findIn K (.ref (He.ga K "NoShare")) "found" = some none), oexB K (He.ga K "NoNumber"), decide (PySem.W.findIn K (.ref (He.ga K "NoNumber")) "__init__" = some (some (.ref (He.ma K (He.ga K "NoNumber") "__init__")))), decide (PySem.W.typeIn K (.ref (He.ma K (He.ga K "NoNumber") "__init__")) = some (.type "function")), decide (PySem.W.findIn K (.ref (He.ga K "NoNumber")) "found" = some none), creadB K (He.ga K "Rule"), fclsB K (He.ga K "Rule") "__init__" (.ref (He.ma K (He.ga K "Rule") "__init__")), excIB K (He.ga K "NoShare"), decide (PySem.W.kitOne K (.ref (He.ga K "NoShare")) (kdU (TT K) (.cls 0)) = some true), decide (PySem.W.kitAny K (.ref (He.ga K "NoShare")) (List.map (kdU (TT K)) [(.cls 1), (.cls 2)]) = some false), xfB K (He.ga K "NoShare"), decide (PySem.W.kitOne K (.ref (He.ga K "NoShare")) (kdU (TT K) (.cls 1)) = some false), decide (PySem.W.kitOne K (.ref (He.ga K "NoShare")) (kdU (TT K) (.cls 2)) = some false), excIB K (He.ga K "NoNumber"), decide (PySem.W.kitOne K (.ref (He.ga K "NoNumber")) (kdU (TT K) (.cls 0)) = some false), decide (PySem.W.kitAny K (.ref (He.ga K "NoNumber")) (List.map (kdU (TT K)) [(.cls 1), (.cls 2)]) = some true), xfB K (He.ga K "NoNumber"), decide (PySem.W.kitOne K (.ref (He.ga K "NoNumber")) (kdU (TT K) (.cls 1)) = some true), decide (PySem.W.kitOne K (.ref (He.ga K "NoNumber")) (kdU (TT K) (.cls 2)) = some false), excIB K (He.ga K "NoRule"), decide (PySem.W.kitOne K (.ref (He.ga K "NoRule")) (kdU (TT K) (.cls 0)) = some false), decide (PySem.W.kitAny K (.ref (He.ga K "NoRule")) (List.map (kdU (TT K)) [(.cls 1), (.cls 2)]) = some true), xfB K (He.ga K "NoRule"), decide (PySem.W.findIn K (.ref (He.ga K "NoRule")) "found" = some none), decide (PySem.W.kitOne K (.ref (He.ga K "NoRule")) (kdU (TT K) (.cls 1)) = some false), decide (PySem.W.kitOne K (.ref (He.ga K "NoRule")) (kdU (TT K) (.cls 2)) = some true), decide (PySem.W.exmOne K (.ref (He.ga K "NoShare")) (.ref (He.ga K "DealError")) = some true), decide (PySem.W.exmOne K (.ref (He.ga K "NoNumber")) (.ref (He.ga K "DealError")) = some true), decide (PySem.W.exmOne K (.ref (He.ga K "NoRule")) (.ref (He.ga K "DealError")) = some true), decide (PySem.W.exmOne K (.ref (He.ga K "Split")) (.ref (He.ga K "DealError")) = some false)]
def exl1 (K : PySem.W.Frag) : List Bool := [decide (PySem.W.exmOne K (.ref (He.ga K "Pairs")) (.ref (He.ga K "DealError")) = some false), decide (PySem.W.exmOne K (.ref (He.ga K "Coins")) (.ref (He.ga K "DealError")) = some false), decide ((He.cT K ("pairs_maker", none)).2 ≠ (He.cT K ("split_maker", none)).2), decide ((He.cT K ("coins_maker", none)).2 ≠ (He.cT K ("split_maker", none)).2), decide ((He.cT K ("split_maker", none)).2 ≠ (He.cT K ("pairs_maker", none)).2), decide ((He.cT K ("coins_maker", none)).2 ≠ (He.cT K ("pairs_maker", none)).2), decide ((He.cT K ("split_maker", none)).2 ≠ (He.cT K ("coins_maker", none)).2), decide ((He.cT K ("pairs_maker", none)).2 ≠ (He.cT K ("coins_maker", none)).2)]
def exl (K : PySem.W.Frag) : List Bool := exl0 K ++ exl1 K
def ex (K : PySem.W.Frag) : Bool := (exl K).all fun b => b
def tf : List He.Defn := [("split_maker", none), ("pairs_maker", none), ("coins_maker", none)]
def csT (K : PySem.W.Frag) : List (Addr × Addr) := [He.cT K ("split_maker", none), He.cT K ("pairs_maker", none), He.cT K ("coins_maker", none)]
section
variable {P : Program} {w : World} {K : PySem.W.Frag} {mg : Str → Option Value} {base h : Heap}
theorem facts_of (X : K.In h) (G : h.Ns mainGlobals mg) (c : He.SaysX fa fn [] tf ex w h K) (TB : ∀ p ∈ csT K, LamX.TabB base mg p.1 p.2) : Facts P w K mg base := by
  have h_g_DealError : mg "DealError" = some (.ref (He.ga K "DealError")) := He.glo_ok X G (c.t.d.fact 0 (f := .glo "DealError") rfl)
  have h_g_NoShare : mg "NoShare" = some (.ref (He.ga K "NoShare")) := He.glo_ok X G (c.t.d.fact 1 (f := .glo "NoShare") rfl)
  have h_cr_DealError : ClX.CRead K (He.ga K "DealError") (.type "type") := creadB_ok (exAt c.more 0 rfl)
  have h_cv_DealError : PySem.W.findCls K (.ref (He.ga K "DealError")) (.type "type") "__init__" = some (.val (.builtin "ValueError.__init__")) := fclsB_ok (exAt c.more 1 rfl)
  have h_d_NoShare_init : ∃ fd, FunD K "__init__" "NoShare.__init__" (defArgs st_NoShare_init) (defBody st_NoShare_init) (defScope st_NoShare_init) [] [] (He.ma K (He.ga K "NoShare") "__init__") fd := c.t.d.def_ 0 (d := dd_0) rfl
  have h_ox_NoShare : OexC K (He.ga K "NoShare") := oexB_ok (exAt c.more 2 rfl)
  have h_fi_NoShare : PySem.W.findIn K (.ref (He.ga K "NoShare")) "__init__" = some (some (.ref (He.ma K (He.ga K "NoShare") "__init__"))) := of_decide_eq_true (exAt c.more 3 rfl)
  have h_ti_NoShare : PySem.W.typeIn K (.ref (He.ma K (He.ga K "NoShare") "__init__")) = some (.type "function") := of_decide_eq_true (exAt c.more 4 rfl)
  have h_nf_NoShare : PySem.W.findIn K (.ref (He.ga K "NoShare")) "found" = some none := of_decide_eq_true (exAt c.more 5 rfl)
  have h_g_NoNumber : mg "NoNumber" = some (.ref (He.ga K "NoNumber")) := He.glo_ok X G (c.t.d.fact 2 (f := .glo "NoNumber") rfl)
  have h_d_NoNumber_init : ∃ fd, FunD K "__init__" "NoNumber.__init__" (defArgs st_NoNumber_init) (defBody st_NoNumber_init) (defScope st_NoNumber_init) [] [] (He.ma K (He.ga K "NoNumber") "__init__") fd := c.t.d.def_ 1 (d := dd_1) rfl
  have h_ox_NoNumber : OexC K (He.ga K "NoNumber") := oexB_ok (exAt c.more 6 rfl)
  have h_fi_NoNumber : PySem.W.findIn K (.ref (He.ga K "NoNumber")) "__init__" = some (some (.ref (He.ma K (He.ga K "NoNumber") "__init__"))) := of_decide_eq_true (exAt c.more 7 rfl)
  have h_ti_NoNumber : PySem.W.typeIn K (.ref (He.ma K (He.ga K "NoNumber") "__init__")) = some (.type "function") := of_decide_eq_true (exAt c.more 8 rfl)
  have h_nf_NoNumber : PySem.W.findIn K (.ref (He.ga K "NoNumber")) "found" = some none := of_decide_eq_true (exAt c.more 9 rfl)
  have h_b_isinstance : mg "isinstance" = none := He.free_ok X G (c.t.d.fact 3 (f := .free "isinstance") rfl)
  have h_b_int : mg "int" = none := He.free_ok X G (c.t.d.fact 4 (f := .free "int") rfl)
  have h_b_bool : mg "bool" = none := He.free_ok X G (c.t.d.fact 5 (f := .free "bool") rfl)
  have h_d_is_whole : ∃ fd, FunD K "is_whole" "is_whole" (defArgs st_is_whole) (defBody st_is_whole) (defScope st_is_whole) [] [] (He.ga K "is_whole") fd := c.t.d.def_ 2 (d := dd_2) rfl
  have h_g_is_whole : mg "is_whole" = some (.ref (He.ga K "is_whole")) := He.glo_ok X G (c.t.d.fact 6 (f := .glo "is_whole") rfl)
  have h_d_common : ∃ fd, FunD K "common" "common" (defArgs st_common) (defBody st_common) (defScope st_common) [] [] (He.ga K "common") fd := c.t.d.def_ 3 (d := dd_3) rfl
  have h_g_common : mg "common" = some (.ref (He.ga K "common")) := He.glo_ok X G (c.t.d.fact 7 (f := .glo "common") rfl)
  have h_d_are_parts : ∃ fd, FunD K "are_parts" "are_parts" (defArgs st_are_parts) (defBody st_are_parts) (defScope st_are_parts) [] [] (He.ga K "are_parts") fd := c.t.d.def_ 4 (d := dd_4) rfl
  have h_g_are_parts : mg "are_parts" = some (.ref (He.ga K "are_parts")) := He.glo_ok X G (c.t.d.fact 8 (f := .glo "are_parts") rfl)
  have h_b_tuple : mg "tuple" = none := He.free_ok X G (c.t.d.fact 9 (f := .free "tuple") rfl)
  have h_b_len : mg "len" = none := He.free_ok X G (c.t.d.fact 10 (f := .free "len") rfl)
  have h_d_is_share : ∃ fd, FunD K "is_share" "is_share" (defArgs st_is_share) (defBody st_is_share) (defScope st_is_share) [] [] (He.ga K "is_share") fd := c.t.d.def_ 5 (d := dd_5) rfl
  have h_g_is_share : mg "is_share" = some (.ref (He.ga K "is_share")) := He.glo_ok X G (c.t.d.fact 11 (f := .glo "is_share") rfl)
  have h_d_need_number : ∃ fd, FunD K "need_number" "need_number" (defArgs st_need_number) (defBody st_need_number) (defScope st_need_number) [] [] (He.ga K "need_number") fd := c.t.d.def_ 6 (d := dd_6) rfl
  have h_g_need_number : mg "need_number" = some (.ref (He.ga K "need_number")) := He.glo_ok X G (c.t.d.fact 12 (f := .glo "need_number") rfl)
  have h_n_MOST_BOTTOM : ∃ t, mg "MOST_BOTTOM" = some (.int 100 t) := He.int_ok X G (c.t.d.fact 13 (f := .int "MOST_BOTTOM" 100) rfl)
  have h_d_need_coin : ∃ fd, FunD K "need_coin" "need_coin" (defArgs st_need_coin) (defBody st_need_coin) (defScope st_need_coin) [] [] (He.ga K "need_coin") fd := c.t.d.def_ 7 (d := dd_7) rfl
  have h_g_need_coin : mg "need_coin" = some (.ref (He.ga K "need_coin")) := He.glo_ok X G (c.t.d.fact 14 (f := .glo "need_coin") rfl)
  have h_cls_Split : Cls K (He.ga K "Split") := He.cls_ok (c.t.d.fact 15 (f := .cls "Split") rfl)
  have h_na_Split_size : NoAttr K (He.ga K "Split") "size" := He.noat_ok (c.t.d.fact 16 (f := .noat "Split" "size") rfl)
  have h_cls_Pairs : Cls K (He.ga K "Pairs") := He.cls_ok (c.t.d.fact 17 (f := .cls "Pairs") rfl)
  have h_na_Pairs_size : NoAttr K (He.ga K "Pairs") "size" := He.noat_ok (c.t.d.fact 18 (f := .noat "Pairs" "size") rfl)
  have h_cls_Coins : Cls K (He.ga K "Coins") := He.cls_ok (c.t.d.fact 19 (f := .cls "Coins") rfl)
  have h_na_Coins_size : NoAttr K (He.ga K "Coins") "size" := He.noat_ok (c.t.d.fact 20 (f := .noat "Coins" "size") rfl)
  have h_g_Rule : mg "Rule" = some (.ref (He.ga K "Rule")) := He.glo_ok X G (c.t.d.fact 21 (f := .glo "Rule") rfl)
  have h_cr_Rule : ClX.CRead K (He.ga K "Rule") (.type "type") := creadB_ok (exAt c.more 10 rfl)
  have h_cv_Rule___init__ : PySem.W.findCls K (.ref (He.ga K "Rule")) (.type "type") "__init__" = some (.val (.ref (He.ma K (He.ga K "Rule") "__init__"))) := fclsB_ok (exAt c.more 11 rfl)
  have h_d_Rule___init__ : ∃ fd, FunD K "__init__" "Rule.__init__" (defArgs st_Rule___init__) (defBody st_Rule___init__) (defScope st_Rule___init__) [] [] (He.ma K (He.ga K "Rule") "__init__") fd := c.t.d.def_ 8 (d := dd_8) rfl
  have h_n_MOST_FOLK : ∃ t, mg "MOST_FOLK" = some (.int 20 t) := He.int_ok X G (c.t.d.fact 22 (f := .int "MOST_FOLK" 20) rfl)
  have h_na_Split_ones : NoAttr K (He.ga K "Split") "ones" := He.noat_ok (c.t.d.fact 23 (f := .noat "Split" "ones") rfl)
  have h_na_Pairs_ones : NoAttr K (He.ga K "Pairs") "ones" := He.noat_ok (c.t.d.fact 24 (f := .noat "Pairs" "ones") rfl)
  have h_na_Coins_ones : NoAttr K (He.ga K "Coins") "ones" := He.noat_ok (c.t.d.fact 25 (f := .noat "Coins" "ones") rfl)
  have h_n_MOST_PAIRS : ∃ t, mg "MOST_PAIRS" = some (.int 10 t) := He.int_ok X G (c.t.d.fact 26 (f := .int "MOST_PAIRS" 10) rfl)
  have h_na_Split_coin : NoAttr K (He.ga K "Split") "coin" := He.noat_ok (c.t.d.fact 27 (f := .noat "Split" "coin") rfl)
  have h_na_Pairs_coin : NoAttr K (He.ga K "Pairs") "coin" := He.noat_ok (c.t.d.fact 28 (f := .noat "Pairs" "coin") rfl)
  have h_na_Coins_coin : NoAttr K (He.ga K "Coins") "coin" := He.noat_ok (c.t.d.fact 29 (f := .noat "Coins" "coin") rfl)
  have h_na_Split_far : NoAttr K (He.ga K "Split") "far" := He.noat_ok (c.t.d.fact 30 (f := .noat "Split" "far") rfl)
  have h_na_Pairs_far : NoAttr K (He.ga K "Pairs") "far" := He.noat_ok (c.t.d.fact 31 (f := .noat "Pairs" "far") rfl)
  have h_na_Coins_far : NoAttr K (He.ga K "Coins") "far" := He.noat_ok (c.t.d.fact 32 (f := .noat "Coins" "far") rfl)
  have h_g_Split : mg "Split" = some (.ref (He.ga K "Split")) := He.glo_ok X G (c.t.d.fact 33 (f := .glo "Split") rfl)
  have h_mk_Split : Mk K (He.ga K "Split") (He.ma K (He.ga K "Split") "__init__") := He.mkr_ok (c.t.d.fact 34 (f := .mkr "Split") rfl)
  have h_d_Split___init__ : ∃ fd, FunD K "__init__" "Split.__init__" (defArgs st_Split___init__) (defBody st_Split___init__) (defScope st_Split___init__) [] [] (He.ma K (He.ga K "Split") "__init__") fd := c.t.d.def_ 9 (d := dd_9) rfl
  have h_g_Pairs : mg "Pairs" = some (.ref (He.ga K "Pairs")) := He.glo_ok X G (c.t.d.fact 35 (f := .glo "Pairs") rfl)
  have h_mk_Pairs : Mk K (He.ga K "Pairs") (He.ma K (He.ga K "Pairs") "__init__") := He.mkr_ok (c.t.d.fact 36 (f := .mkr "Pairs") rfl)
  have h_d_Pairs___init__ : ∃ fd, FunD K "__init__" "Pairs.__init__" (defArgs st_Pairs___init__) (defBody st_Pairs___init__) (defScope st_Pairs___init__) [] [] (He.ma K (He.ga K "Pairs") "__init__") fd := c.t.d.def_ 10 (d := dd_10) rfl
  have h_g_Coins : mg "Coins" = some (.ref (He.ga K "Coins")) := He.glo_ok X G (c.t.d.fact 37 (f := .glo "Coins") rfl)
  have h_mk_Coins : Mk K (He.ga K "Coins") (He.ma K (He.ga K "Coins") "__init__") := He.mkr_ok (c.t.d.fact 38 (f := .mkr "Coins") rfl)
  have h_d_Coins___init__ : ∃ fd, FunD K "__init__" "Coins.__init__" (defArgs st_Coins___init__) (defBody st_Coins___init__) (defScope st_Coins___init__) [] [] (He.ma K (He.ga K "Coins") "__init__") fd := c.t.d.def_ 11 (d := dd_11) rfl
  have h_me_Split_told : Meth K (He.ga K "Split") "told" (He.ma K (He.ga K "Split") "told") := He.meth_ok (c.t.d.fact 39 (f := .meth "Split" "told") rfl)
  have h_d_Split_told : ∃ fd, FunD K "told" "Split.told" (defArgs st_Split_told) (defBody st_Split_told) (defScope st_Split_told) [] [] (He.ma K (He.ga K "Split") "told") fd := c.t.d.def_ 12 (d := dd_12) rfl
  have h_me_Pairs_told : Meth K (He.ga K "Pairs") "told" (He.ma K (He.ga K "Pairs") "told") := He.meth_ok (c.t.d.fact 40 (f := .meth "Pairs" "told") rfl)
  have h_d_Pairs_told : ∃ fd, FunD K "told" "Pairs.told" (defArgs st_Pairs_told) (defBody st_Pairs_told) (defScope st_Pairs_told) [] [] (He.ma K (He.ga K "Pairs") "told") fd := c.t.d.def_ 13 (d := dd_13) rfl
  have h_me_Coins_told : Meth K (He.ga K "Coins") "told" (He.ma K (He.ga K "Coins") "told") := He.meth_ok (c.t.d.fact 41 (f := .meth "Coins" "told") rfl)
  have h_d_Coins_told : ∃ fd, FunD K "told" "Coins.told" (defArgs st_Coins_told) (defBody st_Coins_told) (defScope st_Coins_told) [] [] (He.ma K (He.ga K "Coins") "told") fd := c.t.d.def_ 14 (d := dd_14) rfl
  have h_me_Split_folk : Meth K (He.ga K "Split") "folk" (He.ma K (He.ga K "Split") "folk") := He.meth_ok (c.t.d.fact 42 (f := .meth "Split" "folk") rfl)
  have h_d_Split_folk : ∃ fd, FunD K "folk" "Rule.folk" (defArgs st_Rule_folk) (defBody st_Rule_folk) (defScope st_Rule_folk) [] [] (He.ma K (He.ga K "Split") "folk") fd := c.t.d.def_ 15 (d := dd_15) rfl
  have h_me_Pairs_folk : Meth K (He.ga K "Pairs") "folk" (He.ma K (He.ga K "Pairs") "folk") := He.meth_ok (c.t.d.fact 43 (f := .meth "Pairs" "folk") rfl)
  have h_d_Pairs_folk : ∃ fd, FunD K "folk" "Rule.folk" (defArgs st_Rule_folk) (defBody st_Rule_folk) (defScope st_Rule_folk) [] [] (He.ma K (He.ga K "Pairs") "folk") fd := c.t.d.def_ 16 (d := dd_16) rfl
  have h_me_Coins_folk : Meth K (He.ga K "Coins") "folk" (He.ma K (He.ga K "Coins") "folk") := He.meth_ok (c.t.d.fact 44 (f := .meth "Coins" "folk") rfl)
  have h_d_Coins_folk : ∃ fd, FunD K "folk" "Rule.folk" (defArgs st_Rule_folk) (defBody st_Rule_folk) (defScope st_Rule_folk) [] [] (He.ma K (He.ga K "Coins") "folk") fd := c.t.d.def_ 17 (d := dd_17) rfl
  have h_b_divmod : mg "divmod" = none := He.free_ok X G (c.t.d.fact 45 (f := .free "divmod") rfl)
  have h_d_split_maker : ∃ fd, FunD K "split_maker" "split_maker" (defArgs st_split_maker) (defBody st_split_maker) (defScope st_split_maker) [] [] (He.ga K "split_maker") fd := c.t.d.def_ 18 (d := dd_18) rfl
  have h_k_split_maker : ∀ oc od fd osl, K.lookup (He.ga K "split_maker") = some ⟨oc, od, .func fd, osl⟩ → fd.code = .ref (He.cT K ("split_maker", none)).1 := code_ref (p := ("split_maker", none)) (c.t.d.def_ 18 (d := dd_18) rfl)
  have h_t_split_maker : LamX.TabB base mg (He.cT K ("split_maker", none)).1 (He.cT K ("split_maker", none)).2 := TB _ (by simp [csT])
  have h_g_split_maker : mg "split_maker" = some (.ref (He.ga K "split_maker")) := He.glo_ok X G (c.t.d.fact 46 (f := .glo "split_maker") rfl)
  have h_d_pairs_maker : ∃ fd, FunD K "pairs_maker" "pairs_maker" (defArgs st_pairs_maker) (defBody st_pairs_maker) (defScope st_pairs_maker) [] [] (He.ga K "pairs_maker") fd := c.t.d.def_ 19 (d := dd_19) rfl
  have h_k_pairs_maker : ∀ oc od fd osl, K.lookup (He.ga K "pairs_maker") = some ⟨oc, od, .func fd, osl⟩ → fd.code = .ref (He.cT K ("pairs_maker", none)).1 := code_ref (p := ("pairs_maker", none)) (c.t.d.def_ 19 (d := dd_19) rfl)
  have h_t_pairs_maker : LamX.TabB base mg (He.cT K ("pairs_maker", none)).1 (He.cT K ("pairs_maker", none)).2 := TB _ (by simp [csT])
  have h_g_pairs_maker : mg "pairs_maker" = some (.ref (He.ga K "pairs_maker")) := He.glo_ok X G (c.t.d.fact 47 (f := .glo "pairs_maker") rfl)
  have h_d_coins_maker : ∃ fd, FunD K "coins_maker" "coins_maker" (defArgs st_coins_maker) (defBody st_coins_maker) (defScope st_coins_maker) [] [] (He.ga K "coins_maker") fd := c.t.d.def_ 20 (d := dd_20) rfl
  have h_k_coins_maker : ∀ oc od fd osl, K.lookup (He.ga K "coins_maker") = some ⟨oc, od, .func fd, osl⟩ → fd.code = .ref (He.cT K ("coins_maker", none)).1 := code_ref (p := ("coins_maker", none)) (c.t.d.def_ 20 (d := dd_20) rfl)
  have h_t_coins_maker : LamX.TabB base mg (He.cT K ("coins_maker", none)).1 (He.cT K ("coins_maker", none)).2 := TB _ (by simp [csT])
  have h_g_coins_maker : mg "coins_maker" = some (.ref (He.ga K "coins_maker")) := He.glo_ok X G (c.t.d.fact 48 (f := .glo "coins_maker") rfl)
  have h_d__law_cell : ∃ fd, FunD K "_law_cell" "_law_cell" (defArgs st__law_cell) (defBody st__law_cell) (defScope st__law_cell) [] [] (He.ga K "_law_cell") fd := c.t.d.def_ 21 (d := dd_21) rfl
  have h_g__law_cell : mg "_law_cell" = some (.ref (He.ga K "_law_cell")) := He.glo_ok X G (c.t.d.fact 49 (f := .glo "_law_cell") rfl)
  have h_d__law_mix : ∃ fd, FunD K "_law_mix" "_law_mix" (defArgs st__law_mix) (defBody st__law_mix) (defScope st__law_mix) [] [] (He.ga K "_law_mix") fd := c.t.d.def_ 22 (d := dd_22) rfl
  have h_g__law_mix : mg "_law_mix" = some (.ref (He.ga K "_law_mix")) := He.glo_ok X G (c.t.d.fact 50 (f := .glo "_law_mix") rfl)
  have h_b_max : mg "max" = none := He.free_ok X G (c.t.d.fact 51 (f := .free "max") rfl)
  have h_d__law_begun : ∃ fd, FunD K "_law_begun" "_law_begun" (defArgs st__law_begun) (defBody st__law_begun) (defScope st__law_begun) [] [] (He.ga K "_law_begun") fd := c.t.d.def_ 23 (d := dd_23) rfl
  have h_g__law_begun : mg "_law_begun" = some (.ref (He.ga K "_law_begun")) := He.glo_ok X G (c.t.d.fact 52 (f := .glo "_law_begun") rfl)
  have h_d__law_pull : ∃ fd, FunD K "_law_pull" "_law_pull" (defArgs st__law_pull) (defBody st__law_pull) (defScope st__law_pull) [] [] (He.ga K "_law_pull") fd := c.t.d.def_ 24 (d := dd_24) rfl
  have h_g__law_pull : mg "_law_pull" = some (.ref (He.ga K "_law_pull")) := He.glo_ok X G (c.t.d.fact 53 (f := .glo "_law_pull") rfl)
  have h_d__law_share : ∃ fd, FunD K "_law_share" "_law_share" (defArgs st__law_share) (defBody st__law_share) (defScope st__law_share) [] [] (He.ga K "_law_share") fd := c.t.d.def_ 25 (d := dd_25) rfl
  have h_g__law_share : mg "_law_share" = some (.ref (He.ga K "_law_share")) := He.glo_ok X G (c.t.d.fact 54 (f := .glo "_law_share") rfl)
  have h_d__law_coin : ∃ fd, FunD K "_law_coin" "_law_coin" (defArgs st__law_coin) (defBody st__law_coin) (defScope st__law_coin) [] [] (He.ga K "_law_coin") fd := c.t.d.def_ 26 (d := dd_26) rfl
  have h_g__law_coin : mg "_law_coin" = some (.ref (He.ga K "_law_coin")) := He.glo_ok X G (c.t.d.fact 55 (f := .glo "_law_coin") rfl)
  have h_d__law_due : ∃ fd, FunD K "_law_due" "_law_due" (defArgs st__law_due) (defBody st__law_due) (defScope st__law_due) [] [] (He.ga K "_law_due") fd := c.t.d.def_ 27 (d := dd_27) rfl
  have h_g__law_due : mg "_law_due" = some (.ref (He.ga K "_law_due")) := He.glo_ok X G (c.t.d.fact 56 (f := .glo "_law_due") rfl)
  have h_d__law_right : ∃ fd, FunD K "_law_right" "_law_right" (defArgs st__law_right) (defBody st__law_right) (defScope st__law_right) [] [] (He.ga K "_law_right") fd := c.t.d.def_ 28 (d := dd_28) rfl
  have h_g__law_right : mg "_law_right" = some (.ref (He.ga K "_law_right")) := He.glo_ok X G (c.t.d.fact 57 (f := .glo "_law_right") rfl)
  have h_xi_NoShare_NoShare : ∀ C, (TT K).cl[0]? = some C → ExcI K C ∧ PySem.W.kitOne K (.ref C) (kdU (TT K) (.cls 0)) = some true := by
    intro C hC
    obtain rfl := Option.some.inj (show some (He.ga K "NoShare") = some C from hC)
    exact ⟨excIB_ok (exAt c.more 12 rfl), of_decide_eq_true (exAt c.more 13 rfl)⟩
  have h_xi_NoShare_NoNumber_NoRule : ∀ C, (TT K).cl[0]? = some C → ExcI K C ∧ PySem.W.kitAny K (.ref C) (List.map (kdU (TT K)) [(.cls 1), (.cls 2)]) = some false := by
    intro C hC
    obtain rfl := Option.some.inj (show some (He.ga K "NoShare") = some C from hC)
    exact ⟨excIB_ok (exAt c.more 12 rfl), of_decide_eq_true (exAt c.more 14 rfl)⟩
  have h_g_NoRule : mg "NoRule" = some (.ref (He.ga K "NoRule")) := He.glo_ok X G (c.t.d.fact 58 (f := .glo "NoRule") rfl)
  have h_xf_NoShare_found : ∀ C, (TT K).cl[0]? = some C → XfC K C ∧ PySem.W.findIn K (.ref C) "found" = some none := by
    intro C hC
    obtain rfl := Option.some.inj (show some (He.ga K "NoShare") = some C from hC)
    exact ⟨xfB_ok (exAt c.more 15 rfl), of_decide_eq_true (exAt c.more 5 rfl)⟩
  have h_xi_NoShare_NoNumber : ∀ C, (TT K).cl[0]? = some C → ExcI K C ∧ PySem.W.kitOne K (.ref C) (kdU (TT K) (.cls 1)) = some false := by
    intro C hC
    obtain rfl := Option.some.inj (show some (He.ga K "NoShare") = some C from hC)
    exact ⟨excIB_ok (exAt c.more 12 rfl), of_decide_eq_true (exAt c.more 16 rfl)⟩
  have h_xi_NoShare_NoRule : ∀ C, (TT K).cl[0]? = some C → ExcI K C ∧ PySem.W.kitOne K (.ref C) (kdU (TT K) (.cls 2)) = some false := by
    intro C hC
    obtain rfl := Option.some.inj (show some (He.ga K "NoShare") = some C from hC)
    exact ⟨excIB_ok (exAt c.more 12 rfl), of_decide_eq_true (exAt c.more 17 rfl)⟩
  have h_xi_NoNumber_NoShare : ∀ C, (TT K).cl[1]? = some C → ExcI K C ∧ PySem.W.kitOne K (.ref C) (kdU (TT K) (.cls 0)) = some false := by
    intro C hC
    obtain rfl := Option.some.inj (show some (He.ga K "NoNumber") = some C from hC)
    exact ⟨excIB_ok (exAt c.more 18 rfl), of_decide_eq_true (exAt c.more 19 rfl)⟩
  have h_xi_NoNumber_NoNumber_NoRule : ∀ C, (TT K).cl[1]? = some C → ExcI K C ∧ PySem.W.kitAny K (.ref C) (List.map (kdU (TT K)) [(.cls 1), (.cls 2)]) = some true := by
    intro C hC
    obtain rfl := Option.some.inj (show some (He.ga K "NoNumber") = some C from hC)
    exact ⟨excIB_ok (exAt c.more 18 rfl), of_decide_eq_true (exAt c.more 20 rfl)⟩
  have h_xf_NoNumber_found : ∀ C, (TT K).cl[1]? = some C → XfC K C ∧ PySem.W.findIn K (.ref C) "found" = some none := by
    intro C hC
    obtain rfl := Option.some.inj (show some (He.ga K "NoNumber") = some C from hC)
    exact ⟨xfB_ok (exAt c.more 21 rfl), of_decide_eq_true (exAt c.more 9 rfl)⟩
  have h_xi_NoNumber_NoNumber : ∀ C, (TT K).cl[1]? = some C → ExcI K C ∧ PySem.W.kitOne K (.ref C) (kdU (TT K) (.cls 1)) = some true := by
    intro C hC
    obtain rfl := Option.some.inj (show some (He.ga K "NoNumber") = some C from hC)
    exact ⟨excIB_ok (exAt c.more 18 rfl), of_decide_eq_true (exAt c.more 22 rfl)⟩
  have h_xi_NoNumber_NoRule : ∀ C, (TT K).cl[1]? = some C → ExcI K C ∧ PySem.W.kitOne K (.ref C) (kdU (TT K) (.cls 2)) = some false := by
    intro C hC
    obtain rfl := Option.some.inj (show some (He.ga K "NoNumber") = some C from hC)
    exact ⟨excIB_ok (exAt c.more 18 rfl), of_decide_eq_true (exAt c.more 23 rfl)⟩
  have h_xi_NoRule_NoShare : ∀ C, (TT K).cl[2]? = some C → ExcI K C ∧ PySem.W.kitOne K (.ref C) (kdU (TT K) (.cls 0)) = some false := by
    intro C hC
    obtain rfl := Option.some.inj (show some (He.ga K "NoRule") = some C from hC)
    exact ⟨excIB_ok (exAt c.more 24 rfl), of_decide_eq_true (exAt c.more 25 rfl)⟩
  have h_xi_NoRule_NoNumber_NoRule : ∀ C, (TT K).cl[2]? = some C → ExcI K C ∧ PySem.W.kitAny K (.ref C) (List.map (kdU (TT K)) [(.cls 1), (.cls 2)]) = some true := by
    intro C hC
    obtain rfl := Option.some.inj (show some (He.ga K "NoRule") = some C from hC)
    exact ⟨excIB_ok (exAt c.more 24 rfl), of_decide_eq_true (exAt c.more 26 rfl)⟩
  have h_xf_NoRule_found : ∀ C, (TT K).cl[2]? = some C → XfC K C ∧ PySem.W.findIn K (.ref C) "found" = some none := by
    intro C hC
    obtain rfl := Option.some.inj (show some (He.ga K "NoRule") = some C from hC)
    exact ⟨xfB_ok (exAt c.more 27 rfl), of_decide_eq_true (exAt c.more 28 rfl)⟩
  have h_xi_NoRule_NoNumber : ∀ C, (TT K).cl[2]? = some C → ExcI K C ∧ PySem.W.kitOne K (.ref C) (kdU (TT K) (.cls 1)) = some false := by
    intro C hC
    obtain rfl := Option.some.inj (show some (He.ga K "NoRule") = some C from hC)
    exact ⟨excIB_ok (exAt c.more 24 rfl), of_decide_eq_true (exAt c.more 29 rfl)⟩
  have h_xi_NoRule_NoRule : ∀ C, (TT K).cl[2]? = some C → ExcI K C ∧ PySem.W.kitOne K (.ref C) (kdU (TT K) (.cls 2)) = some true := by
    intro C hC
    obtain rfl := Option.some.inj (show some (He.ga K "NoRule") = some C from hC)
    exact ⟨excIB_ok (exAt c.more 24 rfl), of_decide_eq_true (exAt c.more 30 rfl)⟩
  have h_hx_DealError : ∀ (c : Nat) (C : Addr), (TT K).cl[c]? = some C → PySem.W.exmOne K (.ref C) (.ref (He.ga K "DealError")) = some ((fun c => [0, 1, 2].contains c) c) := by
    intro cc C hC
    match cc, hC with
    | 0, hC => exact (Option.some.inj (show some (He.ga K "NoShare") = some C from hC)) ▸ of_decide_eq_true (exAt c.more 31 rfl)
    | 1, hC => exact (Option.some.inj (show some (He.ga K "NoNumber") = some C from hC)) ▸ of_decide_eq_true (exAt c.more 32 rfl)
    | 2, hC => exact (Option.some.inj (show some (He.ga K "NoRule") = some C from hC)) ▸ of_decide_eq_true (exAt c.more 33 rfl)
    | 3, hC => exact (Option.some.inj (show some (He.ga K "Split") = some C from hC)) ▸ of_decide_eq_true (exAt c.more 34 rfl)
    | 4, hC => exact (Option.some.inj (show some (He.ga K "Pairs") = some C from hC)) ▸ of_decide_eq_true (exAt c.more 35 rfl)
    | 5, hC => exact (Option.some.inj (show some (He.ga K "Coins") = some C from hC)) ▸ of_decide_eq_true (exAt c.more 36 rfl)
    | n + 6, hC => exact absurd hC (by simp [TT])
  have h_d__law_refusal : ∃ fd, FunD K "_law_refusal" "_law_refusal" (defArgs st__law_refusal) (defBody st__law_refusal) (defScope st__law_refusal) [] [] (He.ga K "_law_refusal") fd := c.t.d.def_ 29 (d := dd_29) rfl
  have h_g__law_refusal : mg "_law_refusal" = some (.ref (He.ga K "_law_refusal")) := He.glo_ok X G (c.t.d.fact 59 (f := .glo "_law_refusal") rfl)
  have h_d__law_refused : ∃ fd, FunD K "_law_refused" "_law_refused" (defArgs st__law_refused) (defBody st__law_refused) (defScope st__law_refused) [] [] (He.ga K "_law_refused") fd := c.t.d.def_ 30 (d := dd_30) rfl
  have h_g__law_refused : mg "_law_refused" = some (.ref (He.ga K "_law_refused")) := He.glo_ok X G (c.t.d.fact 60 (f := .glo "_law_refused") rfl)
  have h_b_range : mg "range" = none := He.free_ok X G (c.t.d.fact 61 (f := .free "range") rfl)
  have h_b_min : mg "min" = none := He.free_ok X G (c.t.d.fact 62 (f := .free "min") rfl)
  have h_d_law : ∃ fd, FunD K "law" "law" (defArgs st_law) (defBody st_law) (defScope st_law) [] [] (He.ga K "law") fd := c.t.d.def_ 31 (d := dd_31) rfl
  have h_g_law : mg "law" = some (.ref (He.ga K "law")) := He.glo_ok X G (c.t.d.fact 63 (f := .glo "law") rfl)
  have h_hu_split_maker : ∀ p ∈ (TT K).tb, p.1 = (He.cT K ("split_maker", none)).2 → p.2 = nm_split_maker := by
    intro p hp e
    simp only [TT, List.mem_cons, List.not_mem_nil, or_false] at hp
    rcases hp with rfl | rfl | rfl
    · rfl
    · exact absurd e (of_decide_eq_true (exAt c.more 37 rfl))
    · exact absurd e (of_decide_eq_true (exAt c.more 38 rfl))
  have h_hu_pairs_maker : ∀ p ∈ (TT K).tb, p.1 = (He.cT K ("pairs_maker", none)).2 → p.2 = nm_pairs_maker := by
    intro p hp e
    simp only [TT, List.mem_cons, List.not_mem_nil, or_false] at hp
    rcases hp with rfl | rfl | rfl
    · exact absurd e (of_decide_eq_true (exAt c.more 39 rfl))
    · rfl
    · exact absurd e (of_decide_eq_true (exAt c.more 40 rfl))
  have h_hu_coins_maker : ∀ p ∈ (TT K).tb, p.1 = (He.cT K ("coins_maker", none)).2 → p.2 = nm_coins_maker := by
    intro p hp e
    simp only [TT, List.mem_cons, List.not_mem_nil, or_false] at hp
    rcases hp with rfl | rfl | rfl
    · exact absurd e (of_decide_eq_true (exAt c.more 41 rfl))
    · exact absurd e (of_decide_eq_true (exAt c.more 42 rfl))
    · rfl
  have h_fo_size : ∀ cc ∈ csI, ∀ C, (TT K).cl[cc]? = some C → Cls K C ∧ NoAttr K C "size" := by
    intro cc h C hC
    simp only [csI, List.mem_cons, List.not_mem_nil, or_false] at h
    rcases h with rfl | rfl | rfl
    · obtain rfl := Option.some.inj (show some (He.ga K "Split") = some C from hC)
      exact ⟨h_cls_Split, h_na_Split_size⟩
    · obtain rfl := Option.some.inj (show some (He.ga K "Pairs") = some C from hC)
      exact ⟨h_cls_Pairs, h_na_Pairs_size⟩
    · obtain rfl := Option.some.inj (show some (He.ga K "Coins") = some C from hC)
      exact ⟨h_cls_Coins, h_na_Coins_size⟩
  have h_fo_ones : ∀ cc ∈ csI, ∀ C, (TT K).cl[cc]? = some C → Cls K C ∧ NoAttr K C "ones" := by
    intro cc h C hC
    simp only [csI, List.mem_cons, List.not_mem_nil, or_false] at h
    rcases h with rfl | rfl | rfl
    · obtain rfl := Option.some.inj (show some (He.ga K "Split") = some C from hC)
      exact ⟨h_cls_Split, h_na_Split_ones⟩
    · obtain rfl := Option.some.inj (show some (He.ga K "Pairs") = some C from hC)
      exact ⟨h_cls_Pairs, h_na_Pairs_ones⟩
    · obtain rfl := Option.some.inj (show some (He.ga K "Coins") = some C from hC)
      exact ⟨h_cls_Coins, h_na_Coins_ones⟩
  have h_fo_coin : ∀ cc ∈ csI, ∀ C, (TT K).cl[cc]? = some C → Cls K C ∧ NoAttr K C "coin" := by
    intro cc h C hC
    simp only [csI, List.mem_cons, List.not_mem_nil, or_false] at h
    rcases h with rfl | rfl | rfl
    · obtain rfl := Option.some.inj (show some (He.ga K "Split") = some C from hC)
      exact ⟨h_cls_Split, h_na_Split_coin⟩
    · obtain rfl := Option.some.inj (show some (He.ga K "Pairs") = some C from hC)
      exact ⟨h_cls_Pairs, h_na_Pairs_coin⟩
    · obtain rfl := Option.some.inj (show some (He.ga K "Coins") = some C from hC)
      exact ⟨h_cls_Coins, h_na_Coins_coin⟩
  have h_fo_far : ∀ cc ∈ csI, ∀ C, (TT K).cl[cc]? = some C → Cls K C ∧ NoAttr K C "far" := by
    intro cc h C hC
    simp only [csI, List.mem_cons, List.not_mem_nil, or_false] at h
    rcases h with rfl | rfl | rfl
    · obtain rfl := Option.some.inj (show some (He.ga K "Split") = some C from hC)
      exact ⟨h_cls_Split, h_na_Split_far⟩
    · obtain rfl := Option.some.inj (show some (He.ga K "Pairs") = some C from hC)
      exact ⟨h_cls_Pairs, h_na_Pairs_far⟩
    · obtain rfl := Option.some.inj (show some (He.ga K "Coins") = some C from hC)
      exact ⟨h_cls_Coins, h_na_Coins_far⟩
  exact ⟨h_g_DealError, h_g_NoShare, h_cr_DealError, h_cv_DealError, h_d_NoShare_init, h_ox_NoShare, h_fi_NoShare, h_ti_NoShare, h_nf_NoShare, h_g_NoNumber, h_d_NoNumber_init, h_ox_NoNumber, h_fi_NoNumber, h_ti_NoNumber, h_nf_NoNumber, h_b_isinstance, h_b_int, h_b_bool, h_d_is_whole, h_g_is_whole, h_d_common, h_g_common, h_d_are_parts, h_g_are_parts, h_b_tuple, h_b_len, h_d_is_share, h_g_is_share, h_d_need_number, h_g_need_number, h_n_MOST_BOTTOM, h_d_need_coin, h_g_need_coin, h_cls_Split, h_na_Split_size, h_cls_Pairs, h_na_Pairs_size, h_cls_Coins, h_na_Coins_size, h_fo_size, h_g_Rule, h_cr_Rule, h_cv_Rule___init__, h_d_Rule___init__, h_n_MOST_FOLK, h_na_Split_ones, h_na_Pairs_ones, h_na_Coins_ones, h_fo_ones, h_n_MOST_PAIRS, h_na_Split_coin, h_na_Pairs_coin, h_na_Coins_coin, h_fo_coin, h_na_Split_far, h_na_Pairs_far, h_na_Coins_far, h_fo_far, h_g_Split, h_mk_Split, h_d_Split___init__, h_g_Pairs, h_mk_Pairs, h_d_Pairs___init__, h_g_Coins, h_mk_Coins, h_d_Coins___init__, h_me_Split_told, h_d_Split_told, h_me_Pairs_told, h_d_Pairs_told, h_me_Coins_told, h_d_Coins_told, h_me_Split_folk, h_d_Split_folk, h_me_Pairs_folk, h_d_Pairs_folk, h_me_Coins_folk, h_d_Coins_folk, h_b_divmod, h_d_split_maker, h_k_split_maker, h_t_split_maker, h_g_split_maker, h_d_pairs_maker, h_k_pairs_maker, h_t_pairs_maker, h_g_pairs_maker, h_d_coins_maker, h_k_coins_maker, h_t_coins_maker, h_g_coins_maker, h_d__law_cell, h_g__law_cell, h_d__law_mix, h_g__law_mix, h_b_max, h_d__law_begun, h_g__law_begun, h_d__law_pull, h_g__law_pull, h_d__law_share, h_g__law_share, h_d__law_coin, h_g__law_coin, h_d__law_due, h_g__law_due, h_d__law_right, h_g__law_right, h_xi_NoShare_NoShare, h_xi_NoShare_NoNumber_NoRule, h_g_NoRule, h_xf_NoShare_found, h_xi_NoShare_NoNumber, h_xi_NoShare_NoRule, h_xi_NoNumber_NoShare, h_xi_NoNumber_NoNumber_NoRule, h_xf_NoNumber_found, h_xi_NoNumber_NoNumber, h_xi_NoNumber_NoRule, h_xi_NoRule_NoShare, h_xi_NoRule_NoNumber_NoRule, h_xf_NoRule_found, h_xi_NoRule_NoNumber, h_xi_NoRule_NoRule, h_hx_DealError, h_d__law_refusal, h_g__law_refusal, h_d__law_refused, h_g__law_refused, h_b_range, h_b_min, h_d_law, h_g_law, h_hu_split_maker, h_hu_pairs_maker, h_hu_coins_maker⟩
end
abbrev R : PySem.W.OpenRow := PySem.W.OpenLaw.row PySem.Challenge.rw_trialdeal_k62_makers
abbrev hk : PySem.W.Hook := hookY 6 fa fn tf ex
def ob (s : PySem.W.SharedT) : He.AlX := obsY 6 fa fn tf ex (HandSHeadRun.getT s)
theorem ob_eq (s : PySem.W.SharedT) : ob s = hk.obs s.abs := obsY_eq (HandSHeadRun.getT_eq s)
def loose0 : List Str := ["_wall", "DealError", "NoShare", "NoNumber", "NoRule", "is_whole", "common", "are_parts", "is_share", "MOST_FOLK", "MOST_PAIRS", "MOST_BOTTOM", "need_number", "need_coin", "Rule"]
def loose1 : List Str := ["Split", "Pairs", "Coins", "split_maker", "pairs_maker", "coins_maker", "_law_cell", "_law_mix", "_law_begun", "_law_pull", "_law_share", "_law_plus", "_law_is_share", "_law_coin", "_law_due"]
def loose2 : List Str := ["_law_right", "_law_refusal", "_law_refused"]
abbrev loose : List Str := loose0 ++ loose1 ++ loose2
theorem run (w : World) : HandSHeadRun.RunEq R (PySem.W.view R.prog [39]) hk ob 6000 loose w := by
  intro os
  kernel_rfl
end K62

set_option Elab.async false
set_option linter.all false
set_option maxRecDepth 100000
set_option maxHeartbeats 0
namespace K62
open PySem L2 Pv
theorem law_at {w : World} {h : Heap} {K : PySem.W.Frag} {mg : Str → Option Value} {f : Addr} (X : K.In h) (G : h.Ns mainGlobals mg) (hf : mg ("law" : Str) = some (.ref f)) (c : He.SaysX fa fn [] tf ex w h K)
    (ht : ∀ ns : List Int, ns.length ≤ 63 → m_law [.arr (ns.map .int)] = .ret (.bl true) []) : LamX.LawAtS PySem.Challenge.rw_trialdeal_k62_makers w K (L2.CX (PySem.Challenge.rw_trialdeal_k62_makers).prog w) 12 63 "_law_script" mg f h := by
  obtain ⟨fd, F⟩ := c.t.d.defs (d := ⟨("law", none), "law", "law", defArgs st_law, defBody st_law, defScope st_law, [], []⟩) (by unfold fn; simp only [List.mem_cons]; repeat (first | exact .inl rfl | refine .inr ?_))
  have e : f = He.ga K "law" := by
    have q := hf.symm.trans (He.glo_ok X G (c.t.d.facts (f := .glo "law") (by unfold fa fa0 fa1; simp)))
    injection q with q
    injection q
  subst e
  have bA := F.bindsA (ps := ["_law_script"]) (fun _ _ _ _ _ _ us hl => match us, hl with | [_], _ => rfl)
  refine ⟨fd, csT K, spF (TT K) K sig_law m_law, fun p hp => ?_, fun p hp => ?_, fun p hp => ?_, fun s u => bA s [u] rfl, fun H a ns hl _ hH hS => sp_law rfl (ht ns hl) hS fun p hp => ?_, fun base X2 G2 TB => ?_⟩
  · obtain ⟨d, hd, rfl⟩ := List.mem_map.mp (show p ∈ tf.map (He.cT K) from hp)
    exact c.empty d hd
  · obtain ⟨d, hd, rfl⟩ := List.mem_map.mp (show p ∈ tf.map (He.cT K) from hp)
    exact c.out d hd
  · obtain ⟨d, hd, rfl⟩ := List.mem_map.mp (show p ∈ tf.map (He.cT K) from hp)
    exact PySem.W.codeHd_of_K X (c.hd d hd)
  · obtain ⟨q, hq, e⟩ : ∃ q ∈ csT K, q.2 = p.1 := by
      simp only [TT, List.mem_cons, List.not_mem_nil, or_false] at hp
      rcases hp with rfl | rfl | rfl
      · exact ⟨_, List.mem_cons_self, rfl⟩
      · exact ⟨_, List.mem_cons_of_mem _ List.mem_cons_self, rfl⟩
      · exact ⟨_, List.mem_cons_of_mem _ (List.mem_cons_of_mem _ List.mem_cons_self), rfl⟩
    rw [← e]
    exact hH q hq
  · exact ((fn_law (facts_of X G c TB) F).1).mono (by decide)
end K62
open PySem PySem.W PySem.Calls PyProof.Rows
theorem PySem.Challenge.cw_trialdeal_k62_makers_holds : PySem.Challenge.rw_trialdeal_k62_makers.Holds := by
  w_on; o_law
  refine HandSHeadRun.head_any (r := OpenLaw.row PySem.Challenge.rw_trialdeal_k62_makers) (q := view (OpenLaw.row PySem.Challenge.rw_trialdeal_k62_makers).prog [39]) (H := K62.hk) (ob := K62.ob) (M := 6000) (loose := K62.loose) (d := HandSHeadRun.topDef (OpenLaw.row PySem.Challenge.rw_trialdeal_k62_makers).prog 39) (kwd := []) K62.ob_eq
    (by kernel_rfl) (fun s => by kernel_rfl) K62.run (by kernel_rfl) (by kernel_rfl) (by kernel_rfl) (by rfl) (by first | assumption | decide +kernel) (by decide +kernel) ⟨rfl, rfl, rfl, rfl, rfl, by decide +kernel⟩ ?hw ?hc
  case hw => w_witness2
  case hc =>
    refine Pv.walk_ofX (l := PySem.Challenge.rw_trialdeal_k62_makers) (n := 63) (k := 12) (x := "_law_script") rfl (by decide) (by kernel_rfl) ⟨rfl, by decide, by decide⟩ ?F
    intro w mg fa h Y G hmg0
    obtain ⟨K, KX, c⟩ := Y
    have hmg : mg ("law" : PySem.Str) = some (.ref fa) := by
      have e : (HandSHeadRun.topDef (OpenLaw.row PySem.Challenge.rw_trialdeal_k62_makers).prog 39).name = ("law" : PySem.Str) := by kernel_rfl
      rw [← e]
      exact hmg0
    exact ⟨K, KX, K62.law_at KX G hmg c K62.law_true⟩

