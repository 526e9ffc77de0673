import PyProof.Rows.All
import Wide.All
import OpenK.AllK
import Wide.FinOn
import HandS.ForMost
import HandS.Deep
import HandS.TupAny
import HandS.Style
import HandS.Flow
import KE.SortData
import KE.KDictKeyed
import KE.KeyNested
import HandS.Exc
import HandS.CallSlots
import HandS.RaiseMore
import HandS.IsInst
import HandS.Dict
import HandS.DictComp
import KE.KDictSum
import KE.KDictCopyH
import HandS.Iter
import HandS.Zip
import KE.KDictDisplayH
import HandS.Words
import HandS.Defaults
import HandS.Codes
import HandS.Head0
import HandS.Head1
import HandS.Head2
import HandS.HeadEnd
import HandS.HeadHook1
import HandS.HeadHook2
import HandS.ExcCtx
import HandS.HotCalls
import HandS.SuiteRaise
import HandS.WordsExc
import HandS.TryOnly
import HandS.ExcOwn
import KE.KExcSuper
import HandS.Conv
import KE.KStateDown
import HandS.Ends
import HandS.More
import PySem.Challenge.RW_allwhotalk_k02_dual_and_together
set_option Elab.async false
set_option linter.all false
set_option autoImplicit false
set_option maxRecDepth 100000
/-! Data trees, what stands for them in the abstract heap, and what a program's value semantics keeps. -/
namespace Ev
open PySem L2 PySem.Spec PyProof.Rows

inductive D where
  | non | bl (b : Bool) | int (i : Int) | str (x : Str)
  | tup (l : List D) | lst (l : List D) | dic (l : List (D × D)) | obj (c : Str) (fs : List (Str × D)) | scr (l : List Int)
deriving Inhabited

noncomputable instance : DecidableEq D := fun a b => Classical.propDecidable (a = b)

/-! ### data as the library's data -/
mutual
def D.py : D → PyData
  | .non => .none
  | .bl b => .bool b
  | .int i => .int i
  | .str x => .str x
  | .tup l => .tuple (D.pys l)
  | .lst l => .list (D.pys l)
  | .dic _ => .dict []
  | .obj _ _ => .dict []
  | .scr _ => .dict []
def D.pys : List D → List PyData
  | [] => []
  | d :: ds => D.py d :: D.pys ds
end
theorem D.pys_eq : ∀ l : List D, D.pys l = l.map D.py
  | [] => rfl
  | d :: ds => by rw [D.pys, D.pys_eq ds]; rfl
/-! no dict, no object anywhere -/
mutual
def D.dat : D → Bool
  | .tup l => D.dats l
  | .lst l => D.dats l
  | .dic _ => false
  | .obj _ _ => false
  | .scr _ => false
  | _ => true
def D.dats : List D → Bool
  | [] => true
  | d :: ds => D.dat d && D.dats ds
end
/-! keys: ints, texts, None, tuples of these -/
mutual
def D.key : D → Option NestedKey
  | .non => some .none
  | .int i => some (.num i)
  | .str x => some (.text x)
  | .tup l => (D.keys l).map .tup
  | _ => none
def D.keys : List D → Option (List NestedKey)
  | [] => some []
  | d :: ds => match D.key d, D.keys ds with
    | some k, some ks => some (k :: ks)
    | _, _ => none
end

/-! ### what stands for them -/
/-- a dict whose keys are tuples: keys, where they stand, values -/
def dtO (P : Program) (w : World) (a : Addr) (xs : List (NestedKey × Addr × V)) : HO := .ext fun h =>
  (a == sysModules) = false ∧ xs.length ≤ sizeLine ∧ ∃ ys : List (NestedKey × Addr × Value), Paired (fun (p : NestedKey × Addr × V) (q : NestedKey × Addr × Value) => p.1 = q.1 ∧ p.2.1 = q.2.1 ∧ RelV p.2.2 q.2.2) xs ys ∧
    ∃ o es ep, h.get? a = some o ∧ o.ExactDict ∧ o.data = .dict es ep ∧ es.toList = ys.map (entryOfKey (nestedKind P w)) ∧ (ys.map (·.1)).Nodup

/-- the fixed things of a run: the program, its world, the written part, the classes by name -/
structure Gl0 where
  P : Program
  w : World
  K : PySem.W.Frag
  cl : Str → Option Addr

mutual
inductive Rep (g : Gl0) (M : Hp) : V → D → Prop
  | non : Rep g M .non .non
  | bl (b : Bool) : Rep g M (.bl b) (.bl b)
  | int (i : Int) : Rep g M (.int i) (.int i)
  | str (x : Str) : PyData.strOk x = true ∧ x.length ≤ sizeLine → Rep g M (.str x) (.str x)
  | tup {a : Addr} {vs : List V} {ds : List D} : SqT g.K M a vs → Reps g M vs ds → ds.length ≤ sizeLine → Rep g M (.ref a) (.tup ds)
  | lst {a : Addr} {vs : List V} {ds : List D} : M a = some (.lst vs) → Reps g M vs ds → ds.length ≤ sizeLine → Rep g M (.ref a) (.lst ds)
  | scr {a : Addr} {ns : List Int} : SqL g.K M a (ns.map V.int) → Rep g M (.ref a) (.scr ns)
  | dik {a : Addr} {kvs : List (Key × V)} {ds : List (D × D)} : M a = some (.dK kvs) → RepK g M kvs ds → Rep g M (.ref a) (.dic ds)
  | dit {a : Addr} {xs : List (NestedKey × Addr × V)} {ds : List (D × D)} : M a = some (dtO g.P g.w a xs) → RepT g M xs ds → Rep g M (.ref a) (.dic ds)
  | obj {a C dx : Addr} {c : Str} {fs : List (Str × V)} {ds : List (Str × D)} : M a = some (.ins C dx fs) → g.cl c = some C → RepF g M fs ds → Rep g M (.ref a) (.obj c ds)
inductive Reps (g : Gl0) (M : Hp) : List V → List D → Prop
  | nil : Reps g M [] []
  | cons {v : V} {vs : List V} {d : D} {ds : List D} : Rep g M v d → Reps g M vs ds → Reps g M (v :: vs) (d :: ds)
inductive RepK (g : Gl0) (M : Hp) : List (Key × V) → List (D × D) → Prop
  | nil : RepK g M [] []
  | cons {k : Key} {v : V} {kd d : D} {kvs : List (Key × V)} {ds : List (D × D)} : Rep g M (kV k) kd → Rep g M v d → RepK g M kvs ds → RepK g M ((k, v) :: kvs) ((kd, d) :: ds)
inductive RepT (g : Gl0) (M : Hp) : List (NestedKey × Addr × V) → List (D × D) → Prop
  | nil : RepT g M [] []
  | cons {k : NestedKey} {b : Addr} {v : V} {kd d : D} {xs : List (NestedKey × Addr × V)} {ds : List (D × D)} : kd.key = some k → k.depth ≤ 8 → Rep g M (.ref b) kd → Rep g M v d → RepT g M xs ds → RepT g M ((k, b, v) :: xs) ((kd, d) :: ds)
inductive RepF (g : Gl0) (M : Hp) : List (Str × V) → List (Str × D) → Prop
  | nil : RepF g M [] []
  | cons {f : Str} {v : V} {d : D} {fs : List (Str × V)} {ds : List (Str × D)} : Rep g M v d → RepF g M fs ds → RepF g M ((f, v) :: fs) ((f, d) :: ds)
end

/-- one heap is a part of another -/
def Sub (M H : Hp) : Prop := ∀ a o, M a = some o → H a = some o
theorem Sub.refl {M : Hp} : Sub M M := fun _ _ e => e
theorem Sub.trans {M N H : Hp} (a : Sub M N) (b : Sub N H) : Sub M H := fun x o e => b x o (a x o e)
theorem Sub.upd {M : Hp} {p : Addr} {o : HO} (h : M p = none) : Sub M (upd M p o) := fun a u e => by
  rw [upd_ne (ne_of_none e h)]; exact e
theorem Sub.sqL {K : PySem.W.Frag} {M H : Hp} (s : Sub M H) {a : Addr} {vs : List V} (h : SqL K M a vs) : SqL K H a vs := by
  rcases h with (h | ⟨o, h⟩) | h
  · exact .inl (.inl (s _ _ h))
  · exact .inl (.inr ⟨o, s _ _ h⟩)
  · exact .inr h
theorem Sub.sqT {K : PySem.W.Frag} {M H : Hp} (s : Sub M H) {a : Addr} {vs : List V} (h : SqT K M a vs) : SqT K H a vs := by
  rcases h with (h | ⟨o, h⟩) | h
  · exact .inl (.inl (s _ _ h))
  · exact .inl (.inr ⟨o, s _ _ h⟩)
  · exact .inr h
mutual
theorem Rep.mono {g : Gl0} {M N : Hp} (s : Sub M N) : ∀ {v : V} {d : D}, Rep g M v d → Rep g N v d
  | _, _, .non => .non
  | _, _, .bl b => .bl b
  | _, _, .int i => .int i
  | _, _, .str x h => .str x h
  | _, _, .tup h r z => .tup (s.sqT h) (Reps.mono s r) z
  | _, _, .lst h r z => .lst (s _ _ h) (Reps.mono s r) z
  | _, _, .scr h => .scr (s.sqL h)
  | _, _, .dik h r => .dik (s _ _ h) (RepK.mono s r)
  | _, _, .dit h r => .dit (s _ _ h) (RepT.mono s r)
  | _, _, .obj h c r => .obj (s _ _ h) c (RepF.mono s r)
theorem Reps.mono {g : Gl0} {M N : Hp} (s : Sub M N) : ∀ {v : List V} {d : List D}, Reps g M v d → Reps g N v d
  | _, _, .nil => .nil
  | _, _, .cons a b => .cons (Rep.mono s a) (Reps.mono s b)
theorem RepK.mono {g : Gl0} {M N : Hp} (s : Sub M N) : ∀ {v : List (Key × V)} {d : List (D × D)}, RepK g M v d → RepK g N v d
  | _, _, .nil => .nil
  | _, _, .cons a b c => .cons (Rep.mono s a) (Rep.mono s b) (RepK.mono s c)
theorem RepT.mono {g : Gl0} {M N : Hp} (s : Sub M N) : ∀ {v : List (NestedKey × Addr × V)} {d : List (D × D)}, RepT g M v d → RepT g N v d
  | _, _, .nil => .nil
  | _, _, .cons k l a b c => .cons k l (Rep.mono s a) (Rep.mono s b) (RepT.mono s c)
theorem RepF.mono {g : Gl0} {M N : Hp} (s : Sub M N) : ∀ {v : List (Str × V)} {d : List (Str × D)}, RepF g M v d → RepF g N v d
  | _, _, .nil => .nil
  | _, _, .cons a b => .cons (Rep.mono s a) (RepF.mono s b)
end
/-- an object that may be changed, its parts standing in M -/
inductive RepO (g : Gl0) (M : Hp) : Addr → HO → D → Prop
  | lst {a : Addr} {vs : List V} {ds : List D} : Reps g M vs ds → ds.length ≤ sizeLine → RepO g M a (.lst vs) (.lst ds)
  | dik {a : Addr} {kvs : List (Key × V)} {ds : List (D × D)} : RepK g M kvs ds → RepO g M a (.dK kvs) (.dic ds)
  | dit {a : Addr} {xs : List (NestedKey × Addr × V)} {ds : List (D × D)} : RepT g M xs ds → RepO g M a (dtO g.P g.w a xs) (.dic ds)
  | obj {a C dx : Addr} {c : Str} {fs : List (Str × V)} {ds : List (Str × D)} : g.cl c = some C → RepF g M fs ds → RepO g M a (.ins C dx fs) (.obj c ds)
theorem RepO.mono {g : Gl0} {M N : Hp} (s : Sub M N) {a : Addr} {o : HO} {d : D} (h : RepO g M a o d) : RepO g N a o d := by
  cases h with
  | lst r z => exact .lst (r.mono s) z
  | dik r => exact .dik (r.mono s)
  | dit r => exact .dit (r.mono s)
  | obj c r => exact .obj c (r.mono s)
theorem RepO.rep {g : Gl0} {M : Hp} {a : Addr} {o : HO} {d : D} (h : RepO g M a o d) (e : M a = some o) : Rep g M (.ref a) d := by
  cases h with
  | lst r z => exact .lst e r z
  | dik r => exact .dik e r
  | dit r => exact .dit e r
  | obj c r => exact .obj e c r
/-- a value that is looked at: its own object may be one that is changed elsewhere, its parts stand in M -/
def PRep (g : Gl0) (M H : Hp) (x : V) (d : D) : Prop := Rep g M x d ∨ ∃ a o, x = .ref a ∧ H a = some o ∧ RepO g M a o d
inductive PReps (g : Gl0) (M H : Hp) : List V → List D → Prop
  | nil : PReps g M H [] []
  | cons {v : V} {vs : List V} {d : D} {ds : List D} : PRep g M H v d → PReps g M H vs ds → PReps g M H (v :: vs) (d :: ds)
theorem PRep.rep {g : Gl0} {M H : Hp} (s : Sub M H) {x : V} {d : D} (h : PRep g M H x d) : Rep g H x d := by
  rcases h with h | ⟨a, o, rfl, e, r⟩
  · exact h.mono s
  · exact (r.mono s).rep e
theorem PRep.lst {g : Gl0} {M H : Hp} (s : Sub M H) {x : V} {ds : List D} (h : PRep g M H x (.lst ds)) : ∃ a vs, x = .ref a ∧ H a = some (.lst vs) ∧ Reps g M vs ds ∧ ds.length ≤ sizeLine := by
  rcases h with h | ⟨a, o, rfl, e, r⟩
  · cases h with
    | lst h r z => exact ⟨_, _, rfl, s _ _ h, r, z⟩
  · cases r with
    | lst r z => exact ⟨_, _, rfl, e, r, z⟩
theorem PRep.tup {g : Gl0} {M H : Hp} (s : Sub M H) {x : V} {ds : List D} (h : PRep g M H x (.tup ds)) : ∃ a vs, x = .ref a ∧ SqT g.K H a vs ∧ Reps g M vs ds ∧ Rep g M x (.tup ds) ∧ ds.length ≤ sizeLine := by
  rcases h with h | ⟨a, o, rfl, e, r⟩
  · cases h with
    | tup h r z => exact ⟨_, _, rfl, s.sqT h, r, .tup h r z, z⟩
  · cases r
theorem PRep.scr {g : Gl0} {M H : Hp} (s : Sub M H) {x : V} {ns : List Int} (h : PRep g M H x (.scr ns)) : ∃ a, x = .ref a ∧ SqL g.K H a (ns.map V.int) := by
  rcases h with h | ⟨a, o, rfl, e, r⟩
  · cases h with
    | scr h => exact ⟨_, rfl, s.sqL h⟩
  · cases r
theorem PRep.int {g : Gl0} {M H : Hp} {x : V} {i : Int} (h : PRep g M H x (.int i)) : x = .int i := by
  rcases h with h | ⟨a, o, rfl, e, r⟩
  · cases h; rfl
  · cases r
theorem PRep.str {g : Gl0} {M H : Hp} {x : V} {i : Str} (h : PRep g M H x (.str i)) : x = .str i ∧ PyData.strOk i = true ∧ i.length ≤ sizeLine := by
  rcases h with h | ⟨a, o, rfl, e, r⟩
  · cases h; exact ⟨rfl, by assumption⟩
  · cases r
theorem PRep.bl {g : Gl0} {M H : Hp} {x : V} {i : Bool} (h : PRep g M H x (.bl i)) : x = .bl i := by
  rcases h with h | ⟨a, o, rfl, e, r⟩
  · cases h; rfl
  · cases r
theorem PRep.non {g : Gl0} {M H : Hp} {x : V} (h : PRep g M H x .non) : x = .non := by
  rcases h with h | ⟨a, o, rfl, e, r⟩
  · cases h; rfl
  · cases r
theorem PRep.obj {g : Gl0} {M H : Hp} (s : Sub M H) {x : V} {c : Str} {ds : List (Str × D)} (h : PRep g M H x (.obj c ds)) : ∃ a C dx fs, x = .ref a ∧ H a = some (.ins C dx fs) ∧ g.cl c = some C ∧ RepF g M fs ds := by
  rcases h with h | ⟨a, o, rfl, e, r⟩
  · cases h with
    | obj h c r => exact ⟨_, _, _, _, rfl, s _ _ h, c, r⟩
  · cases r with
    | obj c r => exact ⟨_, _, _, _, rfl, e, c, r⟩
theorem Reps.length {g : Gl0} {M : Hp} : ∀ {vs : List V} {ds : List D}, Reps g M vs ds → vs.length = ds.length
  | _, _, .nil => rfl
  | _, _, .cons _ t => congrArg (· + 1) (Reps.length t)
theorem Reps.get {g : Gl0} {M : Hp} : ∀ {vs : List V} {ds : List D} {i : Nat} {d : D}, Reps g M vs ds → ds[i]? = some d → ∃ v, vs[i]? = some v ∧ Rep g M v d
  | _, _, _, _, .nil, e => by simp at e
  | _, _, 0, _, .cons r _, e => by simp at e; subst e; exact ⟨_, rfl, r⟩
  | _, _, i + 1, d, .cons _ t, e => by
    obtain ⟨u, h1, h2⟩ := Reps.get (i := i) (d := d) t (by simpa using e)
    exact ⟨u, by simpa using h1, h2⟩
theorem Reps.getV {g : Gl0} {M : Hp} {vs : List V} {ds : List D} {i : Nat} {v : V} (r : Reps g M vs ds) (e : vs[i]? = some v) : ∃ d, ds[i]? = some d ∧ Rep g M v d := by
  have hl : i < ds.length := by rw [← r.length]; exact (List.getElem?_eq_some_iff.mp e).1
  obtain ⟨u, h1, h2⟩ := r.get (List.getElem?_eq_getElem hl)
  rw [e] at h1; cases h1
  exact ⟨_, List.getElem?_eq_getElem hl, h2⟩
theorem Reps.append {g : Gl0} {M : Hp} : ∀ {vs ws : List V} {ds es : List D}, Reps g M vs ds → Reps g M ws es → Reps g M (vs ++ ws) (ds ++ es)
  | _, _, _, _, .nil, s => s
  | _, _, _, _, .cons r t, s => .cons r (Reps.append t s)
theorem Reps.take {g : Gl0} {M : Hp} : ∀ {vs : List V} {ds : List D} (n : Nat), Reps g M vs ds → Reps g M (vs.take n) (ds.take n)
  | _, _, 0, _ => .nil
  | _, _, _ + 1, .nil => .nil
  | _, _, n + 1, .cons r t => .cons r (Reps.take n t)
theorem Reps.drop {g : Gl0} {M : Hp} : ∀ {vs : List V} {ds : List D} (n : Nat), Reps g M vs ds → Reps g M (vs.drop n) (ds.drop n)
  | _, _, 0, r => r
  | _, _, _ + 1, .nil => .nil
  | _, _, n + 1, .cons _ t => Reps.drop n t
theorem Reps.set {g : Gl0} {M : Hp} {v : V} {d : D} (q : Rep g M v d) : ∀ {vs : List V} {ds : List D} (n : Nat), Reps g M vs ds → Reps g M (vs.set n v) (ds.set n d)
  | _, _, _, .nil => .nil
  | _, _, 0, .cons _ t => .cons q t
  | _, _, n + 1, .cons r t => .cons r (Reps.set q n t)
theorem Reps.reverse {g : Gl0} {M : Hp} : ∀ {vs : List V} {ds : List D}, Reps g M vs ds → Reps g M vs.reverse ds.reverse
  | _, _, .nil => .nil
  | _, _, .cons r t => by
    rw [List.reverse_cons, List.reverse_cons]
    exact (Reps.reverse t).append (.cons r .nil)
theorem Reps.eraseIdx {g : Gl0} {M : Hp} : ∀ {vs : List V} {ds : List D} (n : Nat), Reps g M vs ds → Reps g M (vs.eraseIdx n) (ds.eraseIdx n)
  | _, _, _, .nil => .nil
  | _, _, 0, .cons _ t => t
  | _, _, n + 1, .cons r t => .cons r (Reps.eraseIdx n t)
theorem Reps.ints {g : Gl0} {M : Hp} : ∀ (ns : List Int), Reps g M (ns.map V.int) (ns.map D.int)
  | [] => .nil
  | n :: ns => .cons (.int n) (Reps.ints ns)
theorem Reps.ints_inv {g : Gl0} {M : Hp} : ∀ {ns : List Int} {vs : List V}, Reps g M vs (ns.map D.int) → vs = ns.map V.int
  | [], _, h => by cases h; rfl
  | n :: ns, _, h => by
    have h' : Reps g M _ (D.int n :: ns.map D.int) := h
    cases h' with
    | cons r t => cases r; rw [Reps.ints_inv t]; rfl
theorem Reps.bls_inv {g : Gl0} {M : Hp} : ∀ {ns : List Bool} {vs : List V}, Reps g M vs (ns.map D.bl) → vs = ns.map V.bl
  | [], _, h => by cases h; rfl
  | n :: ns, _, h => by
    have h' : Reps g M _ (D.bl n :: ns.map D.bl) := h
    cases h' with
    | cons r t => cases r; rw [Reps.bls_inv t]; rfl
theorem RepF.get {g : Gl0} {M : Hp} {f : Str} {d : D} : ∀ {fs : List (Str × V)} {ds : List (Str × D)}, RepF g M fs ds → ds.lookup f = some d → ∃ v, fs.lookup f = some v ∧ Rep g M v d
  | _, _, .nil, e => by simp at e
  | (f', v') :: fs, (_, d') :: ds, .cons r t, e => by
    rw [List.lookup_cons] at e ⊢
    cases h : f == f' with
    | true => rw [h] at e; cases e; exact ⟨_, rfl, r⟩
    | false => rw [h] at e; exact RepF.get t e
theorem RepF.keys {g : Gl0} {M : Hp} : ∀ {fs : List (Str × V)} {ds : List (Str × D)}, RepF g M fs ds → fs.map (·.1) = ds.map (·.1)
  | _, _, .nil => rfl
  | _, _, .cons _ t => by simp [RepF.keys t]
theorem RepF.none {g : Gl0} {M : Hp} {f : Str} : ∀ {fs : List (Str × V)} {ds : List (Str × D)}, RepF g M fs ds → ds.lookup f = none → fs.lookup f = none
  | _, _, .nil, _ => rfl
  | (f', v') :: fs, (_, d') :: ds, .cons r t, e => by
    rw [List.lookup_cons] at e ⊢
    cases h : f == f' with
    | true => rw [h] at e; cases e
    | false => rw [h] at e; exact RepF.none t e
/-! data of the library off what stands -/
mutual
theorem Rep.dp {g : Gl0} {M : Hp} : ∀ {v : V} {d : D}, Rep g M v d → d.dat = true → Dp g.K M v d.py
  | _, _, .non, _ => .non
  | _, _, .bl b, _ => .bl b
  | _, _, .int i, _ => .int i
  | _, _, .str x _, _ => .str x
  | _, _, .tup h r _, e => by rw [D.py]; exact .tup h (Reps.dp r (by simpa [D.dat] using e))
  | _, _, .lst h r _, e => by rw [D.py]; exact .lst (.of h) (Reps.dp r (by simpa [D.dat] using e))
  | _, _, .scr _, e => by simp [D.dat] at e
  | _, _, .dik _ _, e => by simp [D.dat] at e
  | _, _, .dit _ _, e => by simp [D.dat] at e
  | _, _, .obj _ _ _, e => by simp [D.dat] at e
theorem Reps.dp {g : Gl0} {M : Hp} : ∀ {v : List V} {d : List D}, Reps g M v d → D.dats d = true → DpAll g.K M v (D.pys d)
  | _, _, .nil, _ => .nil
  | _, _, .cons a b, e => by
    rw [D.dats, Bool.and_eq_true] at e
    rw [D.pys]
    exact .cons (Rep.dp a e.1) (Reps.dp b e.2)
end
mutual
theorem Rep.lay {g : Gl0} {M : Hp} : ∀ {v : V} {d : D}, Rep g M v d → d.dat = true → d.py.canLay0 = true
  | _, _, .non, _ => by simp [D.py, PyData.canLay0]
  | _, _, .bl b, _ => by simp [D.py, PyData.canLay0]
  | _, _, .int i, _ => by simp [D.py, PyData.canLay0]
  | _, _, .str x h, _ => by rw [D.py, PyData.canLay0]; exact h.1
  | _, _, .tup h r _, e => by rw [D.py, PyData.canLay0]; exact Reps.lay r (by simpa [D.dat] using e)
  | _, _, .lst h r _, e => by rw [D.py, PyData.canLay0]; exact Reps.lay r (by simpa [D.dat] using e)
  | _, _, .scr _, e => by simp [D.dat] at e
  | _, _, .dik _ _, e => by simp [D.dat] at e
  | _, _, .dit _ _, e => by simp [D.dat] at e
  | _, _, .obj _ _ _, e => by simp [D.dat] at e
theorem Reps.lay {g : Gl0} {M : Hp} : ∀ {v : List V} {d : List D}, Reps g M v d → D.dats d = true → PyData.canLayAll0 (D.pys d) = true
  | _, _, .nil, _ => by simp [D.pys, PyData.canLayAll0]
  | _, _, .cons a b, e => by
    rw [D.dats, Bool.and_eq_true] at e
    rw [D.pys, PyData.canLayAll0, Rep.lay a e.1, Reps.lay b e.2]
    rfl
end
end Ev
set_option Elab.async false
set_option linter.all false
set_option autoImplicit false
set_option maxRecDepth 100000
/-! The value semantics: slots, results, combinators. -/
namespace Ev
open PySem L2

/-- a value that comes out: new: its own object is new and held by nobody -/
structure Vl where
  d : D
  nw : Bool
abbrev fz (d : D) : Vl := ⟨d, false⟩
abbrev nw (d : D) : Vl := ⟨d, true⟩
structure Exn where
  cls : Str
  fs : List (Str × D)
/-- a slot: nothing; a shared value; an object of the run's own; the one that is lent to be changed; one that is lent to be looked at -/
inductive Slot where
  | unb | sh (d : D) | ow (d : D) | bx (d : D) | ro (d : D)
abbrev En := List Slot
inductive Out (α : Type) where
  | ok (a : α) (e : En) | exc (x : Exn) (e : En) | stuck
inductive Res (α : Type) where
  | ok (a : α) | exc (x : Exn) | stuck
def Out.bind {α β : Type} (o : Out α) (f : α → En → Out β) : Out β := match o with
  | .ok a e => f a e
  | .exc x e => .exc x e
  | .stuck => .stuck
abbrev Sx (α : Type) := En → Out α
@[simp] theorem Out.bind_ok {α β : Type} (a : α) (e : En) (f : α → En → Out β) : (Out.ok a e).bind f = f a e := rfl
@[simp] theorem Out.bind_exc {α β : Type} (x : Exn) (e : En) (f : α → En → Out β) : (Out.exc x e : Out α).bind f = .exc x e := rfl
@[simp] theorem Out.bind_stuck {α β : Type} (f : α → En → Out β) : (Out.stuck : Out α).bind f = .stuck := rfl

/-! ### operands -/
inductive Opd where
  | sl (i : Nat) | dt (d : D)
def Slot.look : Slot → Option D
  | .unb => none
  | .sh d => some d
  | .ow d => some d
  | .bx d => some d
  | .ro d => some d
def res (e : En) : Opd → Option D
  | .dt d => some d
  | .sl i => match e[i]? with
    | some s => s.look
    | none => none
def ress (e : En) : List Opd → Option (List D)
  | [] => some []
  | o :: os => match res e o, ress e os with
    | some d, some ds => some (d :: ds)
    | _, _ => none
def sStuck {α : Type} : Sx α := fun _ => .stuck
def sC (d : D) : Sx Vl := fun e => .ok (fz d) e
/-- a name's value, to be held elsewhere too -/
def sName (i : Nat) : Sx Vl := fun e => match e[i]? with
  | some (.sh d) => .ok (fz d) e
  | some (.ow d) => .ok (fz d) (e.set i (.sh d))
  | _ => .stuck
def oName (i : Nat) : Sx Opd := fun e => match e[i]? with
  | some s => (match s.look with
    | some _ => .ok (.sl i) e
    | none => .stuck)
  | none => .stuck
def oVal (m : Sx Vl) : Sx Opd := fun e => (m e).bind fun v e => .ok (.dt v.d) e
def sOps : List (Sx Opd) → Sx (List Opd)
  | [] => fun e => .ok [] e
  | m :: ms => fun e => (m e).bind fun o e => (sOps ms e).bind fun os e => .ok (o :: os) e
/-- what operands are worth -/
def sArgs (ms : List (Sx Opd)) : Sx (List D) := fun e => (sOps ms e).bind fun os e => match ress e os with
  | some ds => .ok ds e
  | none => .stuck
def sPrim (p : List D → Option Vl) (ms : List (Sx Opd)) : Sx Vl := fun e => (sArgs ms e).bind fun ds e => match p ds with
  | some v => .ok v e
  | none => .stuck
/-! ### truth, tests -/
def truth : D → Option Bool
  | .non => some false
  | .bl b => some b
  | .int i => some (i != 0)
  | .str x => some (x.length != 0)
  | .tup l => some (!l.isEmpty)
  | .lst l => some (!l.isEmpty)
  | .dic _ => none
  | _ => none
def tVal (m : Sx Opd) : Sx Bool := fun e => (sArgs [m] e).bind fun ds e => match ds with
  | [d] => (match truth d with
    | some b => .ok b e
    | none => .stuck)
  | _ => .stuck
def tNot (m : Sx Bool) : Sx Bool := fun e => (m e).bind fun b e => .ok (!b) e
def tAnd (m n : Sx Bool) : Sx Bool := fun e => (m e).bind fun b e => if b = true then n e else .ok false e
def tOr (m n : Sx Bool) : Sx Bool := fun e => (m e).bind fun b e => if b = true then .ok true e else n e
def sIf {α : Type} (t : Sx Bool) (a b : Sx α) : Sx α := fun e => (t e).bind fun k e => if k = true then a e else b e
/-- and, or as values: the left one True or False -/
def sAnd (m n : Sx Vl) : Sx Vl := fun e => (m e).bind fun v e => match v.d with
  | .bl true => n e
  | .bl false => .ok (fz (.bl false)) e
  | _ => .stuck
def sOr (m n : Sx Vl) : Sx Vl := fun e => (m e).bind fun v e => match v.d with
  | .bl true => .ok (fz (.bl true)) e
  | .bl false => n e
  | _ => .stuck

/-! ### the run's ghosts -/
structure Gh where
  H0 : Hp
  M0 : Hp
  bx : Option Addr
  ex : Addr → Prop
  ro : Addr → Prop
def Gh.B (G : Gh) (a : Addr) : Prop := G.bx = some a ∨ G.ex a
def Slot.own : Slot → Prop
  | .ow _ => True
  | .bx _ => True
  | _ => False
def SlotR (g : Gl0) (G : Gh) (M H : Hp) (x : Option V) : Slot → Prop
  | .unb => True
  | .sh d => ∃ v, x = some v ∧ Rep g M v d
  | .ow d => ∃ a o, x = some (.ref a) ∧ H a = some o ∧ RepO g M a o d ∧ M a = none ∧ (G.H0 a = none ∨ G.ex a)
  | .bx d => ∃ a o, x = some (.ref a) ∧ H a = some o ∧ RepO g M a o d ∧ M a = none ∧ G.bx = some a
  | .ro d => ∃ v, x = some v ∧ (Rep g M v d ∨ ∃ a o, v = .ref a ∧ H a = some o ∧ G.ro a ∧ RepO g M a o d)
/-- the slot i owns the object at a -/
def Owns (e : En) (σ : L2.St) (i : Nat) (a : Addr) : Prop := ∃ s, e[i]? = some s ∧ s.own ∧ σ[i]? = some (some (.ref a))
def OwnsW (e : En) (σ : L2.St) (i : Nat) (a : Addr) : Prop := ∃ d, e[i]? = some (Slot.ow d) ∧ σ[i]? = some (some (.ref a))
structure Rel (g : Gl0) (G : Gh) (e : En) (M : Hp) (σ : L2.St) (H : Hp) : Prop where
  sub : Sub M H
  keep : ∀ a o, G.H0 a = some o → ¬ G.B a → H a = some o
  live : ∀ a, G.H0 a ≠ none → H a ≠ none
  fresh : ∀ a, M a ≠ none → G.M0 a ≠ none ∨ G.H0 a = none ∨ G.ex a
  base : Sub G.M0 M
  slot : ∀ (i : Nat) (s : Slot) (x : Option V), e[i]? = some s → σ[i]? = some x → SlotR g G M H x s
  len : e.length = σ.length
  dist : ∀ (i j : Nat) (a : Addr), i ≠ j → Owns e σ i a → Owns e σ j a → False
  lent : ∀ a, G.ro a → H a ≠ none ∧ ¬ G.B a ∧ ∀ j, ¬ Owns e σ j a
  bl : ∀ a, G.B a → H a ≠ none
/-- the heap grows, nothing that stands is changed -/
structure Ext (M H M' H' : Hp) : Prop where
  keep : Sub H H'
  mono : Sub M M'
  sub : Sub M' H'
  fresh : ∀ a, M' a ≠ none → M a ≠ none ∨ H a = none
theorem Ext.refl {M H : Hp} (s : Sub M H) : Ext M H M H := ⟨.refl, .refl, s, fun _ h => .inl h⟩
theorem Ext.trans {M H M1 H1 M2 H2 : Hp} (a : Ext M H M1 H1) (b : Ext M1 H1 M2 H2) : Ext M H M2 H2 :=
  ⟨a.keep.trans b.keep, a.mono.trans b.mono, b.sub, fun x h => by
    rcases b.fresh x h with h | h
    · exact a.fresh x h
    · right
      cases q : H x with
      | none => rfl
      | some o => rw [a.keep _ _ q] at h; cases h⟩
theorem Ext.new {M H : Hp} (s : Sub M H) {p : Addr} {o : HO} (h : H p = none) : Ext M H M (upd H p o) := ⟨.upd h, .refl, s.trans (.upd h), fun _ h => .inl h⟩
theorem Sub.none {M H : Hp} (s : Sub M H) {p : Addr} (h : H p = none) : M p = none := by
  cases q : M p with
  | none => rfl
  | some o => rw [s _ _ q] at h; cases h
theorem Ext.newM {M H : Hp} (s : Sub M H) {p : Addr} {o : HO} (h : H p = none) : Ext M H (upd M p o) (upd H p o) :=
  ⟨.upd h, .upd (s.none h), fun a u e => by
    by_cases q : a = p
    · subst q; rw [upd_same] at e ⊢; exact e
    · rw [upd_ne q] at e ⊢; exact s _ _ e, fun a e => by
    by_cases q : a = p
    · subst q; exact .inr h
    · rw [upd_ne q] at e; exact .inl e⟩
section
variable {g : Gl0} {G : Gh} {e e' : En} {M M' H H' : Hp} {σ σ' : L2.St}
theorem Ext.none (x : Ext M H M' H') {a : Addr} {o : HO} (h : H a = some o) (n : M a = none) : M' a = none := by
  cases w : M' a with
  | none => rfl
  | some u =>
    rcases x.fresh a (by rw [w]; exact Option.some_ne_none u) with y | y
    · exact absurd n y
    · rw [h] at y; cases y
theorem SlotR.ext (x : Ext M H M' H') {v : Option V} {s : Slot} (h : SlotR g G M H v s) : SlotR g G M' H' v s := by
  cases s with
  | unb => trivial
  | sh d => obtain ⟨u, e, r⟩ := h; exact ⟨u, e, r.mono x.mono⟩
  | ow d =>
    obtain ⟨a, o, e, q, r, n, z⟩ := h
    exact ⟨a, o, e, x.keep _ _ q, r.mono x.mono, x.none q n, z⟩
  | bx d =>
    obtain ⟨a, o, e, q, r, n, z⟩ := h
    exact ⟨a, o, e, x.keep _ _ q, r.mono x.mono, x.none q n, z⟩
  | ro d =>
    obtain ⟨u, e, r⟩ := h
    refine ⟨u, e, ?_⟩
    rcases r with r | ⟨a, o, z, q, b, r⟩
    · exact .inl (r.mono x.mono)
    · exact .inr ⟨a, o, z, x.keep _ _ q, b, r.mono x.mono⟩
theorem Rel.h0none (r : Rel g G e M σ H) {p : Addr} (h : H p = none) : G.H0 p = none := by
  cases q : G.H0 p with
  | none => rfl
  | some o => exact absurd h (r.live p (by rw [q]; exact Option.some_ne_none o))
theorem Rel.ext (r : Rel g G e M σ H) (x : Ext M H M' H') : Rel g G e M' σ H' where
  sub := x.sub
  keep := fun a o h b => x.keep _ _ (r.keep a o h b)
  live := fun a h => by
    cases q : H a with
    | none => exact absurd q (r.live a h)
    | some o => rw [x.keep _ _ q]; exact Option.some_ne_none o
  fresh := fun a h => by
    rcases x.fresh a h with h | h
    · exact r.fresh a h
    · exact .inr (.inl (r.h0none h))
  base := r.base.trans x.mono
  slot := fun i s v h1 h2 => (r.slot i s v h1 h2).ext x
  len := r.len
  dist := r.dist
  lent := fun a h => by
    refine ⟨fun q => ?_, (r.lent a h).2⟩
    cases q2 : H a with
    | none => exact (r.lent a h).1 q2
    | some o => rw [x.keep _ _ q2] at q; cases q
  bl := fun a h => by
    cases q : H a with
    | none => exact absurd q (r.bl a h)
    | some o => rw [x.keep _ _ q]; exact Option.some_ne_none o
theorem Rel.at (r : Rel g G e M σ H) {i : Nat} {s : Slot} (h : e[i]? = some s) : ∃ x, σ[i]? = some x ∧ SlotR g G M H x s := by
  have hl : i < σ.length := by rw [← r.len]; exact (List.getElem?_eq_some_iff.mp h).1
  exact ⟨_, List.getElem?_eq_getElem hl, r.slot i s _ h (List.getElem?_eq_getElem hl)⟩
theorem Rel.owned (r : Rel g G e M σ H) {i : Nat} {a : Addr} (h : Owns e σ i a) : M a = none ∧ (G.H0 a = none ∨ G.ex a ∨ G.bx = some a) ∧ ∃ o, H a = some o := by
  obtain ⟨s, h1, h2, h3⟩ := h
  have q := r.slot i s _ h1 h3
  cases s with
  | ow d =>
    obtain ⟨a', o', e', q', _, n', z'⟩ := q
    cases e'
    exact ⟨n', z'.imp id .inl, o', q'⟩
  | bx d =>
    obtain ⟨a', o', e', q', _, n', z'⟩ := q
    cases e'
    exact ⟨n', .inr (.inr z'), o', q'⟩
  | _ => exact h2.elim
/-- a value that came out -/
def VR (g : Gl0) (G : Gh) (e : En) (M : Hp) (σ : L2.St) (H : Hp) (x : V) (v : Vl) : Prop :=
  match v.nw with
  | false => Rep g M x v.d
  | true => ∃ p o, x = .ref p ∧ H p = some o ∧ RepO g M p o v.d ∧ M p = none ∧ G.H0 p = none ∧ ¬ G.B p ∧ ¬ G.ro p ∧ ∀ i, ¬ Owns e σ i p
theorem Rel.upM (r : Rel g G e M σ H) {p : Addr} {o : HO} (hp : H p = some o) (mp : M p = none) (h0 : G.H0 p = none) (ne : ∀ i, ¬ Owns e σ i p) : Rel g G e (upd M p o) σ H := by
  have sM : Sub M (upd M p o) := .upd mp
  have sH : Sub (upd M p o) H := fun a u q => by
    by_cases z : a = p
    · subst z; rw [upd_same] at q; cases q; exact hp
    · rw [upd_ne z] at q; exact r.sub _ _ q
  refine ⟨sH, r.keep, r.live, fun a q => ?_, r.base.trans sM, fun i s v h1 h2 => ?_, r.len, r.dist, r.lent, r.bl⟩
  · by_cases z : a = p
    · subst z; exact .inr (.inl h0)
    · rw [upd_ne z] at q; exact r.fresh a q
  · have q := r.slot i s v h1 h2
    cases s with
    | unb => trivial
    | sh d => obtain ⟨u, e, r⟩ := q; exact ⟨u, e, r.mono sM⟩
    | ow d =>
      obtain ⟨a, o', e1, q, r, n, z⟩ := q
      refine ⟨a, o', e1, q, r.mono sM, ?_, z⟩
      rw [upd_ne]
      · exact n
      · rintro rfl
        exact ne i ⟨_, h1, trivial, by rw [h2, e1]⟩
    | bx d =>
      obtain ⟨a, o', e1, q, r, n, z⟩ := q
      refine ⟨a, o', e1, q, r.mono sM, ?_, z⟩
      rw [upd_ne]
      · exact n
      · rintro rfl
        exact ne i ⟨_, h1, trivial, by rw [h2, e1]⟩
    | ro d =>
      obtain ⟨u, e1, r⟩ := q
      refine ⟨u, e1, ?_⟩
      rcases r with r | ⟨a, o, z, q, b, r⟩
      · exact .inl (r.mono sM)
      · exact .inr ⟨a, o, z, q, b, r.mono sM⟩
/-- .. held by all from now on -/
theorem Rel.freeze (r : Rel g G e M σ H) {x : V} {v : Vl} (h : VR g G e M σ H x v) : ∃ M', Sub M M' ∧ Rel g G e M' σ H ∧ Rep g M' x v.d := by
  obtain ⟨d, b⟩ := v
  cases b with
  | false => exact ⟨M, .refl, r, h⟩
  | true =>
    obtain ⟨p, o, rfl, hp, ro, mp, h0, nb, nr, ne⟩ := h
    have sM : Sub M (upd M p o) := .upd mp
    exact ⟨upd M p o, sM, r.upM hp mp h0 ne, (ro.mono sM).rep upd_same⟩
/-- the same run, seen from here -/
def Gh.here (G : Gh) (e : En) (M : Hp) (σ : L2.St) (H : Hp) : Gh := ⟨H, M, G.bx, fun a => G.ex a ∨ ∃ i, OwnsW e σ i a, G.ro⟩
theorem Rel.ownsW (r : Rel g G e M σ H) {i : Nat} {a : Addr} (h : Owns e σ i a) : OwnsW e σ i a ∨ G.bx = some a := by
  obtain ⟨s, h1, h2, h3⟩ := h
  have q := r.slot i s _ h1 h3
  cases s with
  | ow d => exact .inl ⟨d, h1, h3⟩
  | bx d =>
    obtain ⟨a', o', e', q', _, n', z'⟩ := q
    cases e'
    exact .inr z'
  | _ => exact h2.elim
theorem OwnsW.owns {i : Nat} {a : Addr} (h : OwnsW e σ i a) : Owns e σ i a := let ⟨d, h1, h2⟩ := h; ⟨_, h1, trivial, h2⟩
theorem Rel.hereB (r : Rel g G e M σ H) {a : Addr} : (G.here e M σ H).B a ↔ G.B a ∨ ∃ i, Owns e σ i a := by
  constructor
  · rintro (h | h | ⟨i, h⟩)
    · exact .inl (.inl h)
    · exact .inl (.inr h)
    · exact .inr ⟨i, h.owns⟩
  · rintro ((h | h) | ⟨i, h⟩)
    · exact .inl h
    · exact .inr (.inl h)
    · rcases r.ownsW h with h | h
      · exact .inr (.inr ⟨i, h⟩)
      · exact .inl h
theorem Rel.here (r : Rel g G e M σ H) : Rel g (G.here e M σ H) e M σ H where
  sub := r.sub
  keep := fun a o h _ => h
  live := fun a h => h
  fresh := fun a h => .inl h
  base := .refl
  slot := fun i s x h1 h2 => by
    have q := r.slot i s x h1 h2
    cases s with
    | unb => trivial
    | sh d => exact q
    | ow d =>
      obtain ⟨a, o, e1, q, rr, n, z⟩ := q
      exact ⟨a, o, e1, q, rr, n, .inr (.inr ⟨i, _, h1, by rw [h2, e1]⟩)⟩
    | bx d => exact q
    | ro d => exact q
  len := r.len
  dist := r.dist
  lent := fun a h => by
    refine ⟨(r.lent a h).1, fun y => ?_, (r.lent a h).2.2⟩
    rcases r.hereB.mp y with y | ⟨j, y⟩
    · exact (r.lent a h).2.1 y
    · exact (r.lent a h).2.2 j y
  bl := fun a h => by
    rcases r.hereB.mp h with y | ⟨j, y⟩
    · exact r.bl a y
    · obtain ⟨_, _, o, h⟩ := r.owned y
      rw [h]; exact Option.some_ne_none o
theorem Rel.back (r : Rel g G e M σ H) (r' : Rel g (G.here e M σ H) e' M' σ' H') : Rel g G e' M' σ' H' where
  sub := r'.sub
  keep := fun a o h b => r'.keep a o (r.keep a o h b) fun z => by
    rcases r.hereB.mp z with z | ⟨j, z⟩
    · exact b z
    · obtain ⟨_, w, _⟩ := r.owned z
      rcases w with w | w | w
      · rw [h] at w; cases w
      · exact b (.inr w)
      · exact b (.inl w)
  live := fun a h => r'.live a (r.live a h)
  fresh := fun a h => by
    rcases r'.fresh a h with h | h | h | ⟨i, d, h1, h2⟩
    · exact r.fresh a h
    · exact .inr (.inl (r.h0none h))
    · exact .inr (.inr h)
    · obtain ⟨a', o', e', q', _, n', z'⟩ := r.slot i _ _ h1 h2
      cases e'
      exact .inr z'
  base := r.base.trans r'.base
  slot := fun i s x h1 h2 => by
    have q := r'.slot i s x h1 h2
    cases s with
    | unb => trivial
    | sh d => exact q
    | ow d =>
      obtain ⟨a, o, e1, q, rr, n, z⟩ := q
      refine ⟨a, o, e1, q, rr, n, ?_⟩
      rcases z with z | z | ⟨j, d', h1, h2⟩
      · exact .inl (r.h0none z)
      · exact .inr z
      · obtain ⟨a', o', e', q', _, n', z'⟩ := r.slot j _ _ h1 h2
        cases e'
        exact z'
    | bx d => exact q
    | ro d => exact q
  len := r'.len
  dist := r'.dist
  lent := fun a h => ⟨(r'.lent a h).1, fun y => (r'.lent a h).2.1 (r.hereB.mpr (.inl y)), (r'.lent a h).2.2⟩
  bl := fun a h => r'.bl a (r.hereB.mpr (.inl h))
theorem VR.back (r : Rel g G e M σ H) {x : V} {v : Vl} (h : VR g (G.here e M σ H) e' M' σ' H' x v) : VR g G e' M' σ' H' x v := by
  obtain ⟨d, b⟩ := v
  cases b with
  | false => exact h
  | true =>
    obtain ⟨p, o, rfl, hp, ro, mp, h0, nb, nr, ne⟩ := h
    exact ⟨p, o, rfl, hp, ro, mp, r.h0none h0, fun y => nb (r.hereB.mpr (.inl y)), nr, ne⟩
/-- a new value stays so while other things run -/
theorem VR.stay (r : Rel g G e M σ H) {p : Addr} {d : D} (h : VR g G e M σ H (.ref p) (nw d)) (r' : Rel g (G.here e M σ H) e' M' σ' H') (sM : Sub M M') : VR g G e' M' σ' H' (.ref p) (nw d) := by
  obtain ⟨q, o, e1, hp, ro, mp, h0, nb, nr, ne⟩ := h
  cases e1
  have nB : ¬ (G.here e M σ H).B p := fun y => by
    rcases r.hereB.mp y with y | ⟨j, y⟩
    · exact nb y
    · exact ne j y
  have hp' : H' p = some o := r'.keep p o hp nB
  refine ⟨p, o, rfl, hp', ro.mono sM, ?_, h0, nb, nr, fun i y => ?_⟩
  · cases w : M' p with
    | none => rfl
    | some u =>
      rcases r'.fresh p (by rw [w]; exact Option.some_ne_none u) with y | y | y
      · exact absurd mp y
      · have y' : H p = none := y
        rw [hp] at y'; cases y'
      · exact absurd (.inr y) nB
  · rcases (r'.owned y).2.1 with z | z | z
    · have z' : H p = none := z
      rw [hp] at z'; cases z'
    · exact nB (.inr z)
    · exact nB (.inl z)
/-- an operand's value -/
def OpdR (g : Gl0) (M : Hp) (σ : L2.St) (x : V) : Opd → Prop
  | .sl i => σ[i]? = some (some x)
  | .dt d => Rep g M x d
theorem Rel.res (r : Rel g G e M σ H) {o : Opd} {d : D} {x : V} (h : res e o = some d) (q : OpdR g M σ x o) : PRep g M H x d := by
  cases o with
  | dt d' => cases h; exact .inl q
  | sl i =>
    have h' : (match e[i]? with | some s => s.look | none => none) = some d := h
    cases hs : e[i]? with
    | none => rw [hs] at h'; cases h'
    | some s =>
      rw [hs] at h'
      have w := r.slot i s _ hs q
      cases s with
      | unb => cases h'
      | sh d' => cases h'; obtain ⟨v, e1, rr⟩ := w; cases e1; exact .inl rr
      | ow d' => cases h'; obtain ⟨a, o, e1, q1, rr, _⟩ := w; cases e1; exact .inr ⟨a, o, rfl, q1, rr⟩
      | bx d' => cases h'; obtain ⟨a, o, e1, q1, rr, _⟩ := w; cases e1; exact .inr ⟨a, o, rfl, q1, rr⟩
      | ro d' =>
        cases h'
        obtain ⟨v, e1, rr⟩ := w
        cases e1
        rcases rr with rr | ⟨a, o, z, q1, _, rr⟩
        · exact .inl rr
        · exact .inr ⟨a, o, z, q1, rr⟩
inductive OpdRs (g : Gl0) (M : Hp) (σ : L2.St) : List V → List Opd → Prop
  | nil : OpdRs g M σ [] []
  | cons {x : V} {xs : List V} {o : Opd} {os : List Opd} : OpdR g M σ x o → OpdRs g M σ xs os → OpdRs g M σ (x :: xs) (o :: os)
theorem OpdR.mono {x : V} {o : Opd} (s : Sub M M') (h : OpdR g M σ x o) : OpdR g M' σ x o := by
  cases o with
  | sl i => exact h
  | dt d => exact Rep.mono s h
theorem OpdRs.mono (s : Sub M M') : ∀ {xs : List V} {os : List Opd}, OpdRs g M σ xs os → OpdRs g M' σ xs os
  | _, _, .nil => .nil
  | _, _, .cons a b => .cons (a.mono s) (OpdRs.mono s b)
theorem Rel.ress (r : Rel g G e M σ H) : ∀ {xs : List V} {os : List Opd} {ds : List D}, Ev.ress e os = some ds → OpdRs g M σ xs os → PReps g M H xs ds
  | _, [], ds, h, q => by
    cases q
    cases h
    exact .nil
  | _, o :: os, ds, h, q => by
    cases q with
    | cons q1 q2 =>
      have h' : (match Ev.res e o, Ev.ress e os with | some d, some ds => some (d :: ds) | _, _ => none) = some ds := h
      cases h1 : Ev.res e o with
      | none => rw [h1] at h'; cases h'
      | some d =>
        cases h2 : Ev.ress e os with
        | none => rw [h1, h2] at h'; cases h'
        | some ds' =>
          rw [h1, h2] at h'
          cases h'
          exact .cons (r.res h1 q1) (r.ress h2 q2)
end
end Ev
set_option Elab.async false
set_option linter.all false
set_option autoImplicit false
set_option maxRecDepth 100000
/-! Stores to slots, readings by the value semantics, one behind another. -/
namespace Ev
open PySem L2
section
variable {g : Gl0} {G : Gh} {e e' : En} {M M' H H' : Hp} {σ σ' : L2.St}
theorem owns_set {i j : Nat} {s' : Slot} {x' : Option V} {a : Addr} (hl : e.length = σ.length) (h : Owns (e.set i s') (σ.set i x') j a) : (j = i ∧ s'.own ∧ x' = some (.ref a)) ∨ (j ≠ i ∧ Owns e σ j a) := by
  obtain ⟨s, h1, h2, h3⟩ := h
  by_cases hj : j = i
  · subst hj
    have hlt : j < e.length := by
      have := (List.getElem?_eq_some_iff.mp h1).1
      simpa using this
    rw [List.getElem?_set_self hlt] at h1
    rw [List.getElem?_set_self (by omega)] at h3
    cases h1; cases h3
    exact .inl ⟨rfl, h2, rfl⟩
  · rw [List.getElem?_set_ne (fun z => hj z.symm)] at h1 h3
    exact .inr ⟨hj, s, h1, h2, h3⟩
theorem owns_setE {i j : Nat} {s s' : Slot} {a : Addr} (hs : e[i]? = some s) (h : Owns (e.set i s') σ j a) (ho : s'.own → s.own) : Owns e σ j a := by
  obtain ⟨t, h1, h2, h3⟩ := h
  by_cases hj : j = i
  · subst hj
    have hlt : j < e.length := (List.getElem?_eq_some_iff.mp hs).1
    rw [List.getElem?_set_self hlt] at h1
    cases h1
    exact ⟨s, hs, ho h2, h3⟩
  · rw [List.getElem?_set_ne (fun z => hj z.symm)] at h1
    exact ⟨t, h1, h2, h3⟩
/-- the slot that holds a value that came out -/
def Vl.slot (v : Vl) : Slot := if v.nw = true then .ow v.d else .sh v.d
/-- a slot gets another content, the heap being as it was -/
theorem Rel.put (r : Rel g G e M σ H) (i : Nat) (s' : Slot) (x' : Option V) (h1 : SlotR g G M H x' s')
    (h2 : s'.own → ∀ a, x' = some (.ref a) → ¬ G.ro a ∧ ∀ j, j ≠ i → ¬ Owns e σ j a) : Rel g G (e.set i s') M (σ.set i x') H where
  sub := r.sub
  keep := r.keep
  live := r.live
  fresh := r.fresh
  base := r.base
  slot := fun j s x q1 q2 => by
    by_cases hj : j = i
    · subst hj
      have hlt : j < e.length := by
        have := (List.getElem?_eq_some_iff.mp q1).1
        simpa using this
      rw [List.getElem?_set_self hlt] at q1
      rw [List.getElem?_set_self (by have := r.len; omega)] at q2
      cases q1; cases q2
      exact h1
    · rw [List.getElem?_set_ne (fun z => hj z.symm)] at q1 q2
      exact r.slot j s x q1 q2
  len := by simp [r.len]
  dist := fun j k a hjk q1 q2 => by
    rcases owns_set r.len q1 with ⟨rfl, o1, e1⟩ | ⟨n1, o1⟩ <;> rcases owns_set r.len q2 with ⟨rfl, o2, e2⟩ | ⟨n2, o2⟩
    · exact hjk rfl
    · exact (h2 o1 a e1).2 k n2 o2
    · exact (h2 o2 a e2).2 j n1 o1
    · exact r.dist j k a hjk o1 o2
  lent := fun a h => ⟨(r.lent a h).1, (r.lent a h).2.1, fun j q => by
    rcases owns_set r.len q with ⟨rfl, o1, e1⟩ | ⟨n1, o1⟩
    · exact (h2 o1 a e1).1 h
    · exact (r.lent a h).2.2 j o1⟩
  bl := r.bl
theorem Rel.setV (r : Rel g G e M σ H) {i : Nat} {x : V} {v : Vl} (h : VR g G e M σ H x v) : Rel g G (e.set i v.slot) M (σ.set i (some x)) H := by
  obtain ⟨d, b⟩ := v
  cases b with
  | false => exact r.put i (.sh d) (some x) ⟨x, rfl, h⟩ (fun z => z.elim)
  | true =>
    obtain ⟨p, o, rfl, hp, ro, mp, h0, nb, nr, ne⟩ := h
    exact r.put i (.ow d) _ ⟨p, o, rfl, hp, ro, mp, .inl h0⟩ (fun _ a z => by cases z; exact ⟨nr, fun j _ => ne j⟩)
theorem Rel.setSh (r : Rel g G e M σ H) {i : Nat} {x : V} {d : D} (h : Rep g M x d) : Rel g G (e.set i (.sh d)) M (σ.set i (some x)) H :=
  r.setV (v := fz d) h
theorem Rel.setUnb (r : Rel g G e M σ H) (i : Nat) (x : Option V) : Rel g G (e.set i .unb) M (σ.set i x) H :=
  r.put i .unb x trivial (fun z => z.elim)
theorem set_get {α : Type} {l : List α} {i : Nat} {a : α} (h : l[i]? = some a) : l.set i a = l := by
  apply List.ext_getElem?
  intro j
  by_cases hj : i = j
  · subst hj; rw [List.getElem?_set_self (List.getElem?_eq_some_iff.mp h).1, h]
  · rw [List.getElem?_set_ne hj]
/-- the slot's name is held elsewhere from now on -/
theorem Rel.share (r : Rel g G e M σ H) {i : Nat} {d : D} (h : e[i]? = some (.ow d)) : ∃ M' x, Sub M M' ∧ σ[i]? = some (some x) ∧ Rel g G (e.set i (.sh d)) M' σ H ∧ Rep g M' x d := by
  obtain ⟨x, h1, a, o, rfl, ha, ro, ma, z⟩ := r.at h
  have own : Owns e σ i a := ⟨_, h, trivial, h1⟩
  have sM : Sub M (upd M a o) := .upd ma
  have sH : Sub (upd M a o) H := fun b u q => by
    by_cases w : b = a
    · subst w; rw [upd_same] at q; cases q; exact ha
    · rw [upd_ne w] at q; exact r.sub _ _ q
  have rep : Rep g (upd M a o) (.ref a) d := (ro.mono sM).rep upd_same
  have hlt : i < e.length := (List.getElem?_eq_some_iff.mp h).1
  have r1 : Rel g G (e.set i (.sh d)) M (σ.set i (some (.ref a))) H → True := fun _ => trivial
  have old : ∀ {j : Nat} {b : Addr}, Owns (e.set i (.sh d)) σ j b → j ≠ i ∧ Owns e σ j b := fun {j b} q => by
    have q' : Owns (e.set i (.sh d)) (σ.set i (some (.ref a))) j b := by rw [set_get h1]; exact q
    rcases owns_set r.len q' with ⟨_, z, _⟩ | z
    · exact z.elim
    · exact z
  refine ⟨upd M a o, .ref a, sM, h1, ⟨sH, r.keep, r.live, fun b q => ?_, r.base.trans sM, fun j s x q1 q2 => ?_, by simp [r.len], fun j k b hjk o1 o2 => r.dist j k b hjk (old o1).2 (old o2).2, fun b h => ⟨(r.lent b h).1, (r.lent b h).2.1, fun j q => (r.lent b h).2.2 j (old q).2⟩, r.bl⟩, rep⟩
  · by_cases w : b = a
    · subst w; exact .inr z
    · rw [upd_ne w] at q; exact r.fresh b q
  · by_cases hj : j = i
    · subst hj
      rw [List.getElem?_set_self hlt] at q1
      cases q1
      rw [h1] at q2; cases q2
      exact ⟨_, rfl, rep⟩
    · rw [List.getElem?_set_ne (fun z => hj z.symm)] at q1
      have q := r.slot j s x q1 q2
      have na : ∀ b, s.own → x = some (.ref b) → b ≠ a := fun b so xe w => by
        subst w
        exact r.dist j i b hj ⟨s, q1, so, by rw [q2, xe]⟩ own
      cases s with
      | unb => trivial
      | sh d => obtain ⟨u, e, r⟩ := q; exact ⟨u, e, r.mono sM⟩
      | ow d =>
        obtain ⟨b, o', e1, q, r, n, z⟩ := q
        exact ⟨b, o', e1, q, r.mono sM, by rw [upd_ne (na b trivial e1)]; exact n, z⟩
      | bx d =>
        obtain ⟨b, o', e1, q, r, n, z⟩ := q
        exact ⟨b, o', e1, q, r.mono sM, by rw [upd_ne (na b trivial e1)]; exact n, z⟩
      | ro d =>
        obtain ⟨u, e1, r⟩ := q
        refine ⟨u, e1, ?_⟩
        rcases r with r | ⟨a, o, z, q, b, r⟩
        · exact .inl (r.mono sM)
        · exact .inr ⟨a, o, z, q, b, r.mono sM⟩
/-- the object of a slot is changed -/
theorem Rel.mut (r : Rel g G e M σ H) {i : Nat} {s s' : Slot} {a : Addr} {o' : HO} {d' : D} (h : e[i]? = some s) (ha : σ[i]? = some (some (.ref a))) (hs : (∃ d, s = .ow d ∧ s' = .ow d') ∨ (∃ d, s = .bx d ∧ s' = .bx d')) (ro : RepO g M a o' d') :
    Rel g G (e.set i s') M σ (upd H a o') := by
  have so : s.own := by rcases hs with ⟨d, rfl, _⟩ | ⟨d, rfl, _⟩ <;> trivial
  have own : Owns e σ i a := ⟨s, h, so, ha⟩
  have hlt : i < e.length := (List.getElem?_eq_some_iff.mp h).1
  obtain ⟨ma, za, o0, h0⟩ := r.owned own
  have old : ∀ {j : Nat} {b : Addr}, Owns (e.set i s') σ j b → Owns e σ j b := fun {j b} q => owns_setE h q fun _ => so
  have ne : ∀ b o, M b = some o → b ≠ a := fun b o q z => by subst z; rw [ma] at q; cases q
  refine ⟨fun b o q => by rw [upd_ne (ne b o q)]; exact r.sub b o q, fun b o q nb => ?_, fun b q => ?_, r.fresh, r.base, fun j t x q1 q2 => ?_, by simp [r.len], fun j k b hjk o1 o2 => r.dist j k b hjk (old o1) (old o2), fun b h => ⟨?_, (r.lent b h).2.1, fun j q => (r.lent b h).2.2 j (old q)⟩, fun b q => ?_⟩
  · rw [upd_ne]
    · exact r.keep b o q nb
    · rintro rfl
      rcases za with z | z | z
      · rw [q] at z; cases z
      · exact nb (.inr z)
      · exact nb (.inl z)
  · by_cases w : b = a
    · subst w; rw [upd_same]; exact Option.some_ne_none _
    · rw [upd_ne w]; exact r.live b q
  · by_cases hj : j = i
    · subst hj
      rw [List.getElem?_set_self hlt] at q1
      cases q1
      rw [ha] at q2; cases q2
      have q := r.slot j s _ h ha
      rcases hs with ⟨d, rfl, rfl⟩ | ⟨d, rfl, rfl⟩
      · obtain ⟨b, o, e1, _, _, n, z⟩ := q
        cases e1
        exact ⟨a, o', rfl, upd_same, ro, n, z⟩
      · obtain ⟨b, o, e1, _, _, n, z⟩ := q
        cases e1
        exact ⟨a, o', rfl, upd_same, ro, n, z⟩
    · rw [List.getElem?_set_ne (fun z => hj z.symm)] at q1
      have q := r.slot j t x q1 q2
      cases t with
      | unb => trivial
      | sh d => exact q
      | ow d =>
        obtain ⟨b, o, e1, q, rr, n, z⟩ := q
        refine ⟨b, o, e1, ?_, rr, n, z⟩
        rw [upd_ne]
        · exact q
        · rintro rfl; exact r.dist j i b hj ⟨_, q1, trivial, by rw [q2, e1]⟩ own
      | bx d =>
        obtain ⟨b, o, e1, q, rr, n, z⟩ := q
        refine ⟨b, o, e1, ?_, rr, n, z⟩
        rw [upd_ne]
        · exact q
        · rintro rfl; exact r.dist j i b hj ⟨_, q1, trivial, by rw [q2, e1]⟩ own
      | ro d =>
        obtain ⟨u, e1, q⟩ := q
        refine ⟨u, e1, ?_⟩
        rcases q with q | ⟨b, o, z, q, nb, rr⟩
        · exact .inl q
        · refine .inr ⟨b, o, z, ?_, nb, rr⟩
          rw [upd_ne]
          · exact q
          · rintro rfl
            exact (r.lent b nb).2.2 i own
  · by_cases w : b = a
    · subst w; exact absurd own ((r.lent b h).2.2 i)
    · rw [upd_ne w]; exact (r.lent b h).1
  · by_cases w : b = a
    · subst w; rw [upd_same]; exact Option.some_ne_none _
    · rw [upd_ne w]; exact r.bl b q
end
/-- an exception: its class, its own dict -/
def ExR (g : Gl0) (M : Hp) (cls : Value) (d : Option Addr) (x : Exn) : Prop := ∃ C dd fs, cls = .ref C ∧ g.cl x.cls = some C ∧ d = some dd ∧ M dd = some (.xd fs) ∧ RepF g M fs x.fs
section
variable {α β γ δ : Type}
abbrev RR (α β : Type) := Gh → En → Hp → L2.St → Hp → β → α → Prop
def tPost (g : Gl0) (W : WX) (R : RR α β) (G : Gh) (σ : L2.St) (Q : β → Hp → Prop) : Out α → Prop
  | .ok a e' => ∀ b M' H', Rel g G e' M' σ H' → R G e' M' σ H' b a → Q b H'
  | .exc x e' => ∀ cls d M' H', Rel g G e' M' σ H' → ExR g M' cls d x → W cls d σ H'
  | .stuck => False
def tG (g : Gl0) (W : WX) (R : RR α β) (f : Sx α) : L2.St → Hp → (β → Hp → Prop) → Prop := fun σ H Q => ∃ G e M, Rel g G e M σ H ∧ tPost g W R G σ Q (f e)
def tE (g : Gl0) (W : WX) (f : Sx Vl) : TE := tG g W (VR g) f
def tO (g : Gl0) (W : WX) (f : Sx Opd) : TE := tG g W (fun _ _ M σ _ x o => OpdR g M σ x o) f
def tT (g : Gl0) (W : WX) (f : Sx Bool) : TT := tG g W (fun _ _ _ _ _ b a => b = a) f
def tAs (g : Gl0) (W : WX) (f : Sx (List Opd)) : TA := tG g W (fun _ _ M σ _ x o => OpdRs g M σ x o) f
variable {g : Gl0} {W : WX} {G : Gh} {e : En} {M H : Hp} {σ : L2.St} {R1 : RR α β} {R2 : RR γ δ} {Q : δ → Hp → Prop} {Q1 : β → Hp → Prop}
theorem tG_bind {m : Sx α} {f : α → En → Out γ} (r : Rel g G e M σ H) (h : tPost g W R2 G σ Q ((m e).bind f))
    (k : ∀ a e1 b1 M1 H1, m e = .ok a e1 → Rel g (G.here e M σ H) e1 M1 σ H1 → R1 (G.here e M σ H) e1 M1 σ H1 b1 a → tPost g W R2 G σ Q (f a e1) → Q1 b1 H1) : tG g W R1 m σ H Q1 := by
  refine ⟨G.here e M σ H, e, M, r.here, ?_⟩
  cases q : m e with
  | ok a e1 =>
    rw [q] at h
    exact fun b M1 H1 r1 x1 => k a e1 b M1 H1 q r1 x1 h
  | exc x e1 =>
    rw [q] at h
    exact fun cls d M1 H1 r1 x1 => h cls d M1 H1 (r.back r1) x1
  | stuck => rw [q] at h; exact h
/-- .. and at the end -/
theorem tG_last {m : Sx α} {f : α → En → Out γ} (r : Rel g G e M σ H) (h : tPost g W R2 G σ Q ((m e).bind f))
    (k : ∀ a e1 b1 M1 H1, m e = .ok a e1 → Rel g G e1 M1 σ H1 → Sub M M1 → R1 (G.here e M σ H) e1 M1 σ H1 b1 a → tPost g W R2 G σ Q (f a e1) → Q1 b1 H1) : tG g W R1 m σ H Q1 :=
  tG_bind r h fun a e1 b1 M1 H1 q r1 x1 h1 => k a e1 b1 M1 H1 q (r.back r1) r1.base x1 h1
end
section
variable {X : Cx}
theorem PE_imp {e : Expr} {t t' : TE} (h : PE X e t) (k : ∀ σ H Q, t' σ H Q → t σ H Q) : PE X e t' := ⟨fun pins s σ H Q I w => h.run pins s σ H Q I (k σ H Q w)⟩
theorem PT_imp {e : Expr} {t t' : TT} (h : PT X e t) (k : ∀ σ H Q, t' σ H Q → t σ H Q) : PT X e t' := ⟨fun pins s σ H Q I w => h.run pins s σ H Q I (k σ H Q w)⟩
theorem PW_imp {e : Expr} {t t' : TT} (h : PW X e t) (k : ∀ σ H Q, t' σ H Q → t σ H Q) : PW X e t' := ⟨fun wh pins s σ H Q I w => h.run wh pins s σ H Q I (k σ H Q w)⟩
theorem PA_imp {e : List Expr} {t t' : TA} (h : PA X e t) (k : ∀ σ H Q, t' σ H Q → t σ H Q) : PA X e t' := ⟨fun pos pins s σ H Q I w => h.run pos pins s σ H Q I (k σ H Q w)⟩
theorem PS_imp {e : Stmt} {t t' : TS} (h : PS X e t) (k : ∀ D σ H, t' D σ H → t D σ H) : PS X e t' := ⟨fun pins s σ H D I w => h.run pins s σ H D I (k D σ H w)⟩
theorem PSs_imp {e : List Stmt} {t t' : TS} (h : PSs X e t) (k : ∀ D σ H, t' D σ H → t D σ H) : PSs X e t' := ⟨fun pins s σ H D I w => h.run pins s σ H D I (k D σ H w)⟩
theorem PE_never {e : Expr} {g : Gl0} {W : WX} : PE X e (tE g W sStuck) := ⟨fun pins s σ H Q I w => by obtain ⟨_, _, _, _, h⟩ := w; exact h.elim⟩
theorem PEo_never {e : Expr} {g : Gl0} {W : WX} : PE X e (tO g W sStuck) := ⟨fun pins s σ H Q I w => by obtain ⟨_, _, _, _, h⟩ := w; exact h.elim⟩
theorem PT_never {e : Expr} {g : Gl0} {W : WX} : PT X e (tT g W sStuck) := ⟨fun pins s σ H Q I w => by obtain ⟨_, _, _, _, h⟩ := w; exact h.elim⟩
variable {g : Gl0} {W : WX}
/-! ### names, constants -/
theorem ve_name {i : Nat} {x : Str} {pos : Pos} (hN : X.N[i]? = some x) (hv : Vis X.env.scope x) (hd : (x == ("__debug__" : Str)) = false) (hcd : (x == ("__classdict__" : Str)) = false) : PE X (.Name x pos) (tE g W (sName i)) := by
  refine PE_imp (pe_var hN hv hd hcd) fun σ H Q ⟨G, e, M, r, h⟩ => ?_
  unfold sName at h
  cases hs : e[i]? with
  | none => rw [hs] at h; exact h.elim
  | some s =>
    rw [hs] at h
    cases s with
    | sh d =>
      obtain ⟨x, h1, v, rfl, q⟩ := r.at hs
      exact ⟨v, h1, h v M H r q⟩
    | ow d =>
      obtain ⟨M', x, sM, h1, r1, q⟩ := r.share hs
      exact ⟨x, h1, h x M' H r1 q⟩
    | _ => exact h.elim
theorem vo_name {i : Nat} {x : Str} {pos : Pos} (hN : X.N[i]? = some x) (hv : Vis X.env.scope x) (hd : (x == ("__debug__" : Str)) = false) (hcd : (x == ("__classdict__" : Str)) = false) : PE X (.Name x pos) (tO g W (oName i)) := by
  refine PE_imp (pe_var hN hv hd hcd) fun σ H Q ⟨G, e, M, r, h⟩ => ?_
  unfold oName at h
  cases hs : e[i]? with
  | none => rw [hs] at h; exact h.elim
  | some s =>
    rw [hs] at h
    obtain ⟨x, h1, q⟩ := r.at hs
    cases s with
    | unb => exact h.elim
    | sh d => obtain ⟨v, rfl, _⟩ := q; exact ⟨v, h1, h v M H r h1⟩
    | ow d => obtain ⟨a, o, rfl, _⟩ := q; exact ⟨_, h1, h _ M H r h1⟩
    | bx d => obtain ⟨a, o, rfl, _⟩ := q; exact ⟨_, h1, h _ M H r h1⟩
    | ro d => obtain ⟨v, rfl, _⟩ := q; exact ⟨v, h1, h v M H r h1⟩
/-- an expression as an operand -/
theorem vo_val {e : Expr} {m : Sx Vl} (h : PE X e (tE g W m)) : PE X e (tO g W (oVal m)) := by
  refine PE_imp h fun σ H Q ⟨G, e, M, r, h⟩ => ?_
  refine tG_last r h fun v e1 x M1 H1 _ r1 _ x1 h1 => ?_
  obtain ⟨M2, s2, r2, q⟩ := r1.freeze (x1.back r)
  exact h1 x M2 H1 r2 q
/-! ### operands, from the left -/
theorem va_nil : PA X [] (tAs g W (sOps [])) := PA_imp pa_nil fun σ H Q ⟨G, e, M, r, h⟩ => h [] M H r .nil
theorem va_cons {e : Expr} {es : List Expr} {m : Sx Opd} {ms : List (Sx Opd)} (h : PE X e (tO g W m)) (hs : PA X es (tAs g W (sOps ms))) (hst : starEach (e :: es) X.env = (false, eval e X.env) :: starEach es X.env) : PA X (e :: es) (tAs g W (sOps (m :: ms))) := by
  refine PA_imp (pa_cons h hs hst) fun σ H Q ⟨G, e, M, r, h⟩ => ?_
  refine tG_last r h fun o e1 x M1 H1 _ r1 _ x1 h1 => ?_
  refine tG_bind r1 h1 fun os e2 xs M2 H2 _ r2 x2 h2 => ?_
  exact h2 (x :: xs) M2 H2 (r1.back r2) (.cons (x1.mono r2.base) x2)
end
end Ev
set_option Elab.async false
set_option linter.all false
set_option autoImplicit false
set_option maxRecDepth 100000
/-! Operations on values, as functions of data. -/
namespace Ev
open PySem L2
abbrev gl (X : Cx) (cl : Str → Option Addr) : Gl0 := ⟨X.prog, X.w, X.K, cl⟩
/-- what an operation leaves -/
def PX (g : Gl0) (M H M' H' : Hp) (x : V) (v : Vl) : Prop :=
  match v.nw with
  | false => Rep g M' x v.d
  | true => ∃ p o, x = .ref p ∧ H p = none ∧ H' p = some o ∧ RepO g M' p o v.d
theorem Rel.px {g : Gl0} {G : Gh} {e : En} {M M' H H' : Hp} {σ : L2.St} {x : V} {v : Vl} (r : Rel g G e M σ H) (w : Ext M H M' H') (h : PX g M H M' H' x v) (hm : v.nw = true → ∀ p, x = .ref p → M' p = none) : Rel g G e M' σ H' ∧ VR g G e M' σ H' x v := by
  refine ⟨r.ext w, ?_⟩
  obtain ⟨d, b⟩ := v
  cases b with
  | false => exact h
  | true =>
    obtain ⟨p, o, rfl, hp, hp', ro⟩ := h
    refine ⟨p, o, rfl, hp', ro, hm rfl p rfl, r.h0none hp, fun z => r.bl p z hp, fun z => (r.lent p z).1 hp, fun i q => ?_⟩
    · obtain ⟨_, _, o', h'⟩ := r.owned q
      rw [hp] at h'; cases h'
/-- by values -/
def rPs (g : Gl0) (p : List D → Option Vl) : List V → Hp → VK → Prop := fun xs H Q => ∃ M ds v, Sub M H ∧ PReps g M H xs ds ∧ p ds = some v ∧
  ∀ z M' H', Ext M H M' H' → PX g M H M' H' z v → (v.nw = true → ∀ q, z = .ref q → M' q = none) → Q z H'
def rP2 (g : Gl0) (p : List D → Option Vl) : R2 := fun x y H Q => rPs g p [x, y] H Q
section
variable {g : Gl0} {p : List D → Option Vl} {H : Hp} {Q : VK}
theorem rPs.fz {M : Hp} {d : D} {z : V} (k : ∀ z M' H', Ext M H M' H' → PX g M H M' H' z (fz d) → ((fz d).nw = true → ∀ q, z = .ref q → M' q = none) → Q z H') (s : Sub M H) (r : Rep g M z d) : Q z H :=
  k z M H (.refl s) r (fun z => by cases z)
theorem rPs.nwl {M : Hp} {ds : List D} {vs : List V} (k : ∀ z M' H', Ext M H M' H' → PX g M H M' H' z (nw (.lst ds)) → ((nw (.lst ds)).nw = true → ∀ q, z = .ref q → M' q = none) → Q z H') (s : Sub M H) (r : Reps g M vs ds) (hz : ds.length ≤ sizeLine) :
    ∀ p, H p = none → Q (.ref p) (upd H p (.lst vs)) := fun p hp => k _ M _ (.new s hp) ⟨p, _, rfl, hp, upd_same, .lst r hz⟩ (fun _ q e => by cases e; exact s.none hp)
theorem rPs.tup {M : Hp} {ds : List D} {vs : List V} (k : ∀ z M' H', Ext M H M' H' → PX g M H M' H' z (Ev.fz (.tup ds)) → ((Ev.fz (.tup ds)).nw = true → ∀ q, z = .ref q → M' q = none) → Q z H') (s : Sub M H) (r : Reps g M vs ds) (hz : ds.length ≤ sizeLine) :
    ∀ p, H p = none → Q (.ref p) (upd H p (.tup vs)) := fun p hp => k _ (upd M p (.tup vs)) _ (.newM s hp) (show Rep g (upd M p (.tup vs)) (.ref p) (.tup ds) from .tup (.of upd_same) (r.mono (.upd (s.none hp))) hz) (fun e => by cases e)
end
theorem preps1 {g : Gl0} {M H : Hp} {xs : List V} {d : D} (h : PReps g M H xs [d]) : ∃ x, xs = [x] ∧ PRep g M H x d := by
  cases h with
  | cons a b => cases b; exact ⟨_, rfl, a⟩
theorem preps2 {g : Gl0} {M H : Hp} {x y : V} {d e : D} (h : PReps g M H [x, y] [d, e]) : PRep g M H x d ∧ PRep g M H y e := by
  cases h with
  | cons a b =>
    cases b with
    | cons b c => exact ⟨a, b⟩
theorem preps_len {g : Gl0} {M H : Hp} : ∀ {xs : List V} {ds : List D}, PReps g M H xs ds → xs.length = ds.length
  | _, _, .nil => rfl
  | _, _, .cons _ t => congrArg (· + 1) (preps_len t)
theorem strOk_append {a b : Str} (ha : PyData.strOk a = true) (hb : PyData.strOk b = true) : PyData.strOk (a ++ b) = true := by
  show ((a.cps ++ b.cps).all _) = true
  rw [Array.all_append]
  have ha' : a.cps.all (fun x => decide (x < 0x110000)) = true := ha
  have hb' : b.cps.all (fun x => decide (x < 0x110000)) = true := hb
  rw [ha', hb']; rfl
theorem len_append (a b : Str) : (a ++ b).length = a.length + b.length := by
  show (a.cps ++ b.cps).size = _
  rw [Array.size_append]; rfl
/-! ### + -/
noncomputable def pAdd : List D → Option Vl
  | [.int i, .int j] => some (fz (.int (i + j)))
  | [.str a, .str b] => if a.length + b.length ≤ sizeLine then some (fz (.str (a ++ b))) else none
  | [.lst a, .lst b] => if a.length + b.length ≤ sizeLine then some (nw (.lst (a ++ b))) else none
  | [.tup a, .tup b] => if a.length + b.length ≤ sizeLine then some (fz (.tup (a ++ b))) else none
  | _ => none
section
variable {X : Cx} {cl : Str → Option Addr}
theorem op_addP : OpR X (binaryOp .Add) (rP2 (gl X cl) pAdd) := by
  intro pins s σ H x y v u Q I rx ry h
  obtain ⟨M, ds, w, sm, pr, hp, k⟩ := h
  unfold pAdd at hp
  split at hp
  · cases hp
    obtain ⟨a, b⟩ := preps2 pr
    exact op_add pins s σ H x y v u Q I rx ry ⟨_, _, a.int, b.int, rPs.fz k sm (.int _)⟩
  · split at hp
    · cases hp
      obtain ⟨a, b⟩ := preps2 pr
      obtain ⟨a, oa, _⟩ := a.str
      obtain ⟨b, ob, _⟩ := b.str
      exact op_add_str pins s σ H x y v u Q I rx ry ⟨_, _, a, b, by assumption, rPs.fz k sm (.str _ ⟨strOk_append oa ob, by rw [len_append]; assumption⟩)⟩
    · cases hp
  · split at hp
    · rename_i hl
      cases hp
      obtain ⟨a, b⟩ := preps2 pr
      obtain ⟨p, vs, rfl, hs, hr, _⟩ := a.lst sm
      obtain ⟨q, ws, rfl, hs', hr', _⟩ := b.lst sm
      exact op_cat pins s σ H _ _ v u Q I rx ry ⟨_, _, _, _, rfl, rfl, hs, hs', by rw [hr.length, hr'.length]; exact hl, rPs.nwl k sm (hr.append hr') (by rw [List.length_append]; exact hl)⟩
    · cases hp
  · split at hp
    · rename_i hl
      cases hp
      obtain ⟨a, b⟩ := preps2 pr
      obtain ⟨p, vs, rfl, hs, hr, ha, _⟩ := a.tup sm
      obtain ⟨q, ws, rfl, hs', hr', hb, _⟩ := b.tup sm
      refine op_catA pins s σ H _ _ v u Q I rx ry ⟨_, _, _, _, rfl, rfl, hs, hs', by rw [hr.length, hr'.length]; exact hl, fun z => ?_, fun _ z => ?_, fun _ _ => rPs.tup k sm (hr.append hr') (by rw [List.length_append]; exact hl)⟩
      · subst z
        cases hr
        exact rPs.fz k sm hb
      · subst z
        cases hr'
        rw [List.append_nil] at k
        exact rPs.fz k sm ha
    · cases hp
  · cases hp
end

/-! ### joining rules -/
def orP (p q : List D → Option Vl) : List D → Option Vl := fun ds => match p ds with
  | some v => some v
  | none => q ds
theorem orP_some {p q : List D → Option Vl} {ds : List D} {v : Vl} (h : orP p q ds = some v) : p ds = some v ∨ q ds = some v := by
  unfold orP at h
  cases hp : p ds with
  | none => rw [hp] at h; exact .inr h
  | some w => rw [hp] at h; exact .inl h
section
variable {X : Cx} {g : Gl0} {p q : List D → Option Vl}
theorem rPs_or {xs : List V} {H : Hp} {Q : VK} (h : rPs g (orP p q) xs H Q) : rPs g p xs H Q ∨ rPs g q xs H Q := by
  obtain ⟨M, ds, v, sm, pr, hp, k⟩ := h
  rcases orP_some hp with hp | hp
  · exact .inl ⟨M, ds, v, sm, pr, hp, k⟩
  · exact .inr ⟨M, ds, v, sm, pr, hp, k⟩
theorem opP_or {f : Value → Value → Sem Value} (a : OpR X f (rP2 g p)) (b : OpR X f (rP2 g q)) : OpR X f (rP2 g (orP p q)) := by
  intro pins s σ H x y v u Q I rx ry h
  rcases rPs_or h with h | h
  · exact a pins s σ H x y v u Q I rx ry h
  · exact b pins s σ H x y v u Q I rx ry h
theorem callP_or {f : Value} (a : CallR X f (rPs g p)) (b : CallR X f (rPs g q)) : CallR X f (rPs g (orP p q)) := by
  intro pins s σ H xs us Q I r h
  rcases rPs_or h with h | h
  · exact a pins s σ H xs us Q I r h
  · exact b pins s σ H xs us Q I r h
theorem ixP_or (a : IxR X (rP2 g p)) (b : IxR X (rP2 g q)) : IxR X (rP2 g (orP p q)) := by
  intro value slice pins s σ H x y v u Q I rx ry h hs
  rcases rPs_or h with h | h
  · exact a value slice pins s σ H x y v u Q I rx ry h hs
  · exact b value slice pins s σ H x y v u Q I rx ry h hs
end
/-! ### numbers -/
def pInt2 (f : Int → Int → Int) : List D → Option Vl
  | [.int i, .int j] => some (fz (.int (f i j)))
  | _ => none
open Classical in
noncomputable def pInt2C (C : Int → Int → Prop) (f : Int → Int → Int) : List D → Option Vl
  | [.int i, .int j] => if C i j then some (fz (.int (f i j))) else none
  | _ => none
noncomputable def pSub := pInt2 (fun i j => i - j)
noncomputable def pMul := pInt2C CMul (fun i j => i * j)
noncomputable def pFdiv := pInt2C CDivN (fun i j => i.fdiv j)
noncomputable def pMod := pInt2C (fun _ j => j ≠ 0) (fun i j => i.fmod j)
noncomputable def pPow := pInt2C CPow (fun i j => i ^ j.toNat)
def pNeg : D → Option Vl
  | .int i => some (fz (.int (-i)))
  | _ => none
section
variable {X : Cx} {cl : Str → Option Addr}
theorem opP_int {f : Value → Value → Sem Value} {h : Int → Int → Int} (a : OpR X f (rI0 fun i j => .int (h i j))) : OpR X f (rP2 (gl X cl) (pInt2 h)) := by
  intro pins s σ H x y v u Q I rx ry q
  obtain ⟨M, ds, w, sm, pr, hp, k⟩ := q
  unfold pInt2 at hp
  split at hp
  · cases hp
    obtain ⟨q1, q2⟩ := preps2 pr
    exact a pins s σ H x y v u Q I rx ry ⟨_, _, q1.int, q2.int, rPs.fz k sm (.int _)⟩
  · cases hp
theorem opP_intC {f : Value → Value → Sem Value} {C : Int → Int → Prop} {h : Int → Int → Int} (a : OpR X f (rI C fun i j => .int (h i j))) : OpR X f (rP2 (gl X cl) (pInt2C C h)) := by
  intro pins s σ H x y v u Q I rx ry q
  obtain ⟨M, ds, w, sm, pr, hp, k⟩ := q
  unfold pInt2C at hp
  split at hp
  · split at hp
    · cases hp
      obtain ⟨q1, q2⟩ := preps2 pr
      exact a pins s σ H x y v u Q I rx ry ⟨_, _, q1.int, q2.int, by assumption, rPs.fz k sm (.int _)⟩
    · cases hp
  · cases hp
theorem op_subP : OpR X (binaryOp .Sub) (rP2 (gl X cl) pSub) := opP_int op_sub
theorem op_mulP : OpR X (binaryOp .Mult) (rP2 (gl X cl) pMul) := opP_intC op_mul
theorem op_fdivP : OpR X (binaryOp .FloorDiv) (rP2 (gl X cl) pFdiv) := opP_intC op_fdivN
theorem op_modP : OpR X (binaryOp .Mod) (rP2 (gl X cl) pMod) := opP_intC op_modN
theorem op_powP : OpR X (binaryOp .Pow) (rP2 (gl X cl) pPow) := opP_intC op_pow
end
/-! ### order -/
def pCmp (f : Int → Int → Bool) (h : List Nat → List Nat → Bool) : List D → Option Vl
  | [.int i, .int j] => some (fz (.bl (f i j)))
  | [.str a, .str b] => some (fz (.bl (h a.cps.toList b.cps.toList)))
  | _ => none
def pLt := pCmp (fun i j => decide (i < j)) (fun a b => decide (a < b))
def pLe := pCmp (fun i j => decide (i ≤ j)) (fun a b => !decide (b < a))
def pGt := pCmp (fun i j => decide (j < i)) (fun a b => decide (b < a))
def pGe := pCmp (fun i j => decide (j ≤ i)) (fun a b => !decide (a < b))
section
variable {X : Cx} {cl : Str → Option Addr}
theorem opP_cmp {f : Value → Value → Sem Value} {h : Int → Int → Bool} {t : List Nat → List Nat → Bool} (a : OpR X f (rI0 fun i j => .bl (h i j))) (b : OpR X f (fun x y H Q => ∃ i j, x = .str i ∧ y = .str j ∧ Q (.bl (t i.cps.toList j.cps.toList)) H)) : OpR X f (rP2 (gl X cl) (pCmp h t)) := by
  intro pins s σ H x y v u Q I rx ry q
  obtain ⟨M, ds, w, sm, pr, hp, k⟩ := q
  unfold pCmp at hp
  split at hp
  · cases hp
    obtain ⟨q1, q2⟩ := preps2 pr
    exact a pins s σ H x y v u Q I rx ry ⟨_, _, q1.int, q2.int, rPs.fz k sm (.bl _)⟩
  · cases hp
    obtain ⟨q1, q2⟩ := preps2 pr
    exact b pins s σ H x y v u Q I rx ry ⟨_, _, q1.str.1, q2.str.1, rPs.fz k sm (.bl _)⟩
  · cases hp
theorem op_ltP : OpR X (compareOp .Lt) (rP2 (gl X cl) pLt) := opP_cmp op_lt op_lt_str
theorem op_leP : OpR X (compareOp .LtE) (rP2 (gl X cl) pLe) := opP_cmp op_le op_le_str
theorem op_gtP : OpR X (compareOp .Gt) (rP2 (gl X cl) pGt) := opP_cmp op_gt op_gt_str
theorem op_geP : OpR X (compareOp .GtE) (rP2 (gl X cl) pGe) := opP_cmp op_ge op_ge_str
end
/-! ### equality, membership -/
/-- data that may be compared by == -/
def D.cmp (d : D) : Bool := d.dat && decide (d.py.depth ≤ 60)
def pyEq (a b : D) : Bool := PyData.eqv a.py b.py
def pEq : List D → Option Vl
  | [a, b] => if (a.cmp && b.cmp) = true then some (fz (.bl (pyEq a b))) else none
  | _ => none
def pNe : List D → Option Vl
  | [a, b] => if (a.cmp && b.cmp) = true then some (fz (.bl (!pyEq a b))) else none
  | _ => none
def D.flat : D → Bool
  | .non => true
  | .bl _ => true
  | .int _ => true
  | .str _ => true
  | _ => false
def pIn : List D → Option Vl
  | [x, .lst ds] => if (x.cmp && (D.lst ds).cmp) = true then some (fz (.bl (ds.any fun z => pyEq z x))) else none
  | [x, .tup ds] => if (x.flat && ds.all D.flat) = true then some (fz (.bl (ds.any fun z => pyEq z x))) else none
  | [.str x, .str z] => (match x.cps.toList with
    | [c] => some (fz (.bl (decide (c ∈ z.cps.toList))))
    | _ => none)
  | _ => none
def notV (v : Vl) : Option Vl := match v.d with
  | .bl b => some (fz (.bl (!b)))
  | _ => none
def pNotIn : List D → Option Vl := fun ds => (pIn ds).bind notV
theorem shaped_of {g : Gl0} {M : Hp} {x : V} {d : D} (r : Rep g M x d) (h : d.cmp = true) : SeqAt.shaped d.py = true := by
  unfold D.cmp at h
  rw [Bool.and_eq_true] at h
  unfold SeqAt.shaped
  rw [r.lay h.1, Bool.true_and]
  have := of_decide_eq_true h.2
  exact decide_eq_true (by omega)
theorem any_pys (x : D) : ∀ ds : List D, (D.pys ds).any (fun z => PyData.eqv z x.py) = ds.any fun z => pyEq z x
  | [] => rfl
  | d :: ds => by rw [D.pys, List.any_cons, List.any_cons, any_pys x ds]; rfl
theorem flat_V {g : Gl0} {M : Hp} {x : V} {d : D} (r : Rep g M x d) (h : d.flat = true) : flatV x = true := by
  cases r <;> first | rfl | cases h
theorem flat_eqV {g : Gl0} {M : Hp} {x y : V} {d e : D} (r : Rep g M x d) (r' : Rep g M y e) (h : d.flat = true) (h' : e.flat = true) : eqV x y = pyEq d e := by
  cases r <;> cases r' <;> first | rfl | cases h | cases h'
section
variable {X : Cx} {cl : Str → Option Addr}
theorem op_eqP (hu : X.A.units + 64 < cLine) : OpR X (compareOp .Eq) (rP2 (gl X cl) pEq) := by
  intro pins s σ H x y v u Q I rx ry q
  obtain ⟨M, ds, w, sm, pr, hp, k⟩ := q
  unfold pEq at hp
  split at hp
  · split at hp
    · rename_i hc
      cases hp
      rw [Bool.and_eq_true] at hc
      obtain ⟨q1, q2⟩ := preps2 pr
      have r1 := q1.rep sm
      have r2 := q2.rep sm
      have c1 := (Bool.and_eq_true_iff.mp (show (_ && _) = true from hc.1)).1
      have c2 := (Bool.and_eq_true_iff.mp (show (_ && _) = true from hc.2)).1
      exact op_eqD hu pins s σ H x y v u Q I rx ry ⟨_, _, r1.dp c1, r2.dp c2, shaped_of r1 hc.1, shaped_of r2 hc.2, rPs.fz k sm (.bl _)⟩
    · cases hp
  · cases hp
theorem op_neP (hu : X.A.units + 64 < cLine) : OpR X (compareOp .NotEq) (rP2 (gl X cl) pNe) := by
  intro pins s σ H x y v u Q I rx ry q
  obtain ⟨M, ds, w, sm, pr, hp, k⟩ := q
  unfold pNe at hp
  split at hp
  · split at hp
    · rename_i hc
      cases hp
      rw [Bool.and_eq_true] at hc
      obtain ⟨q1, q2⟩ := preps2 pr
      have r1 := q1.rep sm
      have r2 := q2.rep sm
      have c1 := (Bool.and_eq_true_iff.mp (show (_ && _) = true from hc.1)).1
      have c2 := (Bool.and_eq_true_iff.mp (show (_ && _) = true from hc.2)).1
      exact op_neD hu pins s σ H x y v u Q I rx ry ⟨_, _, r1.dp c1, r2.dp c2, shaped_of r1 hc.1, shaped_of r2 hc.2, rPs.fz k sm (.bl _)⟩
    · cases hp
  · cases hp
end

theorem flats_all {g : Gl0} {M : Hp} : ∀ {vs : List V} {ds : List D}, Reps g M vs ds → ds.all D.flat = true → vs.all flatV = true
  | _, _, .nil, _ => rfl
  | _, _, .cons a b, h => by
    rw [List.all_cons, Bool.and_eq_true] at h
    rw [List.all_cons, flat_V a h.1, flats_all b h.2]; rfl
theorem flats_in {g : Gl0} {M : Hp} {x : V} {d : D} (r : Rep g M x d) (h : d.flat = true) : ∀ {vs : List V} {ds : List D}, Reps g M vs ds → ds.all D.flat = true → inV x vs = ds.any fun z => pyEq z d
  | _, _, .nil, _ => rfl
  | _, _, .cons a b, q => by
    rw [List.all_cons, Bool.and_eq_true] at q
    unfold inV
    rw [List.any_cons, List.any_cons, flat_eqV a r q.1 h]
    have ih := flats_in r h b q.2
    unfold inV at ih
    rw [ih]
theorem strOk_one {z : Str} (h : PyData.strOk z = true) {c : Nat} (hc : c ∈ z.cps.toList) : PyData.strOk ⟨#[c]⟩ = true := by
  have h' : z.cps.all (fun x => decide (x < 0x110000)) = true := h
  rw [← Array.all_toList] at h'
  have := List.all_eq_true.mp h' c hc
  show (#[c] : Array Nat).all _ = true
  simpa using this
theorem str_one {x : Str} {c : Nat} (h : x.cps.toList = [c]) : x = ⟨#[c]⟩ := by
  cases x with
  | mk a =>
    have : a = #[c] := Array.toList_inj.mp (by simpa using h)
    rw [this]
/-! ### subscripts -/
def pIx : List D → Option Vl
  | [.lst ds, .int i] => (atI ds i).map fz
  | [.tup ds, .int i] => (atI ds i).map fz
  | [.scr ns, .int i] => (atI ns i).map fun n => fz (.int n)
  | [.str z, .int i] => (atI z.cps.toList i).map fun c => fz (.str ⟨#[c]⟩)
  | _ => none
theorem atI_reps {g : Gl0} {M : Hp} {vs : List V} {ds : List D} (r : Reps g M vs ds) {i : Int} {d : D} (h : atI ds i = some d) : ∃ v, atI vs i = some v ∧ Rep g M v d := by
  unfold atI at h ⊢
  rw [r.length]
  cases hx : ixN ds.length i with
  | none => rw [hx] at h; cases h
  | some j =>
    rw [hx] at h
    exact r.get (by simpa using h)
section
variable {X : Cx} {cl : Str → Option Addr}
theorem op_inP (hu : X.A.units + 65 < cLine) : OpR X (compareOp .In) (rP2 (gl X cl) pIn) := by
  intro pins s σ H x y v u Q I rx ry q
  obtain ⟨M, ds, w, sm, pr, hp, k⟩ := q
  unfold pIn at hp
  split at hp
  · split at hp
    · rename_i hc
      cases hp
      rw [Bool.and_eq_true] at hc
      obtain ⟨q1, q2⟩ := preps2 pr
      have r1 := q1.rep sm
      have r2 := q2.rep sm
      have c1 := (Bool.and_eq_true_iff.mp (show (_ && _) = true from hc.1)).1
      have c2 := (Bool.and_eq_true_iff.mp (show (_ && _) = true from hc.2)).1
      have d2 := r2.dp c2
      have s2 := shaped_of r2 hc.2
      rw [D.py] at d2 s2
      refine op_inD hu pins s σ H x y v u Q I rx ry ⟨_, _, r1.dp c1, d2, shaped_of r1 hc.1, s2, ?_⟩
      rw [any_pys]
      exact rPs.fz k sm (.bl _)
    · cases hp
  · split at hp
    · rename_i hc
      cases hp
      rw [Bool.and_eq_true] at hc
      obtain ⟨q1, q2⟩ := preps2 pr
      have r1 := q1.rep sm
      obtain ⟨p, vs, rfl, hs, hr, _⟩ := q2.tup sm
      refine op_in_seq pins s σ H x _ v u Q I rx ry ⟨p, vs, rfl, .inr hs, flat_V r1 hc.1, flats_all hr hc.2, ?_⟩
      show Q (.bl (inV x vs)) H
      rw [flats_in r1 hc.1 (hr.mono sm) hc.2]
      exact rPs.fz k sm (.bl _)
    · cases hp
  · split at hp
    · rename_i c hc
      cases hp
      obtain ⟨q1, q2⟩ := preps2 pr
      refine op_in_sign pins s σ H x y v u Q I rx ry ⟨c, _, ?_, q2.str.1, rPs.fz k sm (.bl _)⟩
      rw [q1.str.1]
      rw [str_one hc]
    · cases hp
  · cases hp
theorem op_notInP (hu : X.A.units + 65 < cLine) : OpR X (compareOp .NotIn) (rP2 (gl X cl) pNotIn) := by
  intro pins s σ H x y v u Q I rx ry q
  obtain ⟨M, ds, w, sm, pr, hp, k⟩ := q
  unfold pNotIn at hp
  obtain ⟨w0, hp, hw⟩ := Option.bind_eq_some_iff.mp hp
  unfold pIn at hp
  split at hp
  · split at hp
    · rename_i hc
      cases hp
      cases hw
      rw [Bool.and_eq_true] at hc
      obtain ⟨q1, q2⟩ := preps2 pr
      have r1 := q1.rep sm
      have r2 := q2.rep sm
      have c1 := (Bool.and_eq_true_iff.mp (show (_ && _) = true from hc.1)).1
      have c2 := (Bool.and_eq_true_iff.mp (show (_ && _) = true from hc.2)).1
      have d2 := r2.dp c2
      have s2 := shaped_of r2 hc.2
      rw [D.py] at d2 s2
      refine op_notInD hu pins s σ H x y v u Q I rx ry ⟨_, _, r1.dp c1, d2, shaped_of r1 hc.1, s2, ?_⟩
      rw [any_pys]
      exact rPs.fz k sm (.bl _)
    · cases hp
  · split at hp
    · rename_i hc
      cases hp
      cases hw
      rw [Bool.and_eq_true] at hc
      obtain ⟨q1, q2⟩ := preps2 pr
      have r1 := q1.rep sm
      obtain ⟨p, vs, rfl, hs, hr, _⟩ := q2.tup sm
      refine op_notIn_seq pins s σ H x _ v u Q I rx ry ⟨p, vs, rfl, .inr hs, flat_V r1 hc.1, flats_all hr hc.2, ?_⟩
      show Q (.bl (!inV x vs)) H
      rw [flats_in r1 hc.1 (hr.mono sm) hc.2]
      exact rPs.fz k sm (.bl _)
    · cases hp
  · split at hp
    · rename_i c hc
      cases hp
      cases hw
      obtain ⟨q1, q2⟩ := preps2 pr
      refine op_notIn_sign pins s σ H x y v u Q I rx ry ⟨c, _, ?_, q2.str.1, rPs.fz k sm (.bl _)⟩
      rw [q1.str.1]
      rw [str_one hc]
    · cases hp
  · cases hp
theorem ix_P : IxR X (rP2 (gl X cl) pIx) := by
  intro value slice pins s σ H x y v u Q I rx ry h hs
  obtain ⟨M, ds, w, sm, pr, hp, k⟩ := h
  unfold pIx at hp
  split at hp
  · obtain ⟨q1, q2⟩ := preps2 pr
    obtain ⟨d, hd, rfl⟩ := Option.map_eq_some_iff.mp hp
    obtain ⟨p, vs, rfl, hs', hr, _⟩ := q1.lst sm
    obtain ⟨z, hz, rz⟩ := atI_reps hr hd
    exact ix_list value slice pins s σ H _ y v u Q I rx ry ⟨p, vs, _, z, rfl, q2.int, .of hs', hz, rPs.fz k sm rz⟩ hs
  · obtain ⟨q1, q2⟩ := preps2 pr
    obtain ⟨d, hd, rfl⟩ := Option.map_eq_some_iff.mp hp
    obtain ⟨p, vs, rfl, hs', hr, _⟩ := q1.tup sm
    obtain ⟨z, hz, rz⟩ := atI_reps hr hd
    exact ix_tup value slice pins s σ H _ y v u Q I rx ry ⟨p, vs, _, z, rfl, q2.int, hs', hz, rPs.fz k sm rz⟩ hs
  · obtain ⟨q1, q2⟩ := preps2 pr
    obtain ⟨n, hd, rfl⟩ := Option.map_eq_some_iff.mp hp
    obtain ⟨p, rfl, hs'⟩ := q1.scr sm
    refine ix_list value slice pins s σ H _ y v u Q I rx ry ⟨p, _, _, .int n, rfl, q2.int, hs', ?_, rPs.fz k sm (.int n)⟩ hs
    unfold atI at hd ⊢
    rw [List.length_map]
    cases hx : ixN _ _ with
    | none => rw [hx] at hd; cases hd
    | some j =>
      rw [hx] at hd
      simp only [Option.bind_some, List.getElem?_map] at hd ⊢
      rw [hd]; rfl
  · obtain ⟨q1, q2⟩ := preps2 pr
    obtain ⟨c, hd, rfl⟩ := Option.map_eq_some_iff.mp hp
    obtain ⟨e1, e2, e3⟩ := q1.str
    refine ix_str value slice pins s σ H x y v u Q I rx ry ⟨_, _, c, e1, q2.int, e3, hd, rPs.fz k sm (.str _ ⟨strOk_one e2 ?_, by rw [sizeLine_eq]; exact (show (1 : Nat) ≤ 16777216 by decide)⟩)⟩ hs
    unfold atI at hd
    cases hx : ixN _ _ with
    | none => rw [hx] at hd; cases hd
    | some j =>
      rw [hx] at hd
      exact List.mem_of_getElem? hd
  · cases hp
end
end Ev
set_option Elab.async false
set_option linter.all false
set_option autoImplicit false
set_option maxRecDepth 100000
/-! Calls of built-ins, slices, fields, truth, as functions of data. -/
namespace Ev
open PySem L2
/-! ### len, all, any, list, tuple, int, str, abs, min, max, sum -/
def pLen : List D → Option Vl
  | [.lst ds] => some (fz (.int ds.length))
  | [.tup ds] => some (fz (.int ds.length))
  | [.scr ns] => some (fz (.int ns.length))
  | [.str x] => some (fz (.int x.length))
  | _ => none
def D.bools : List D → Option (List Bool)
  | [] => some []
  | .bl b :: ds => (D.bools ds).map (b :: ·)
  | _ => none
theorem bools_eq : ∀ {ds : List D} {bs : List Bool}, D.bools ds = some bs → ds = bs.map D.bl
  | [], bs, h => by cases h; rfl
  | d :: ds, bs, h => by
    cases d with
    | bl b =>
      obtain ⟨cs, hc, rfl⟩ := Option.map_eq_some_iff.mp (show (D.bools ds).map (b :: ·) = some bs from h)
      rw [bools_eq hc]; rfl
    | _ => cases h
theorem bools_map : ∀ bs : List Bool, D.bools (bs.map D.bl) = some bs
  | [] => rfl
  | b :: bs => by
    show (D.bools (bs.map D.bl)).map (b :: ·) = _
    rw [bools_map bs]; rfl
def D.ints : List D → Option (List Int)
  | [] => some []
  | .int b :: ds => (D.ints ds).map (b :: ·)
  | _ => none
theorem ints_eq : ∀ {ds : List D} {bs : List Int}, D.ints ds = some bs → ds = bs.map D.int
  | [], bs, h => by cases h; rfl
  | d :: ds, bs, h => by
    cases d with
    | int b =>
      obtain ⟨cs, hc, rfl⟩ := Option.map_eq_some_iff.mp (show (D.ints ds).map (b :: ·) = some bs from h)
      rw [ints_eq hc]; rfl
    | _ => cases h
theorem ints_map : ∀ bs : List Int, D.ints (bs.map D.int) = some bs
  | [] => rfl
  | b :: bs => by
    show (D.ints (bs.map D.int)).map (b :: ·) = _
    rw [ints_map bs]; rfl
def pAll : List D → Option Vl
  | [.lst ds] => (D.bools ds).map fun bs => fz (.bl (bs.all id))
  | _ => none
def pAny : List D → Option Vl
  | [.lst ds] => (D.bools ds).map fun bs => fz (.bl (bs.any id))
  | _ => none
def pSum : List D → Option Vl
  | [.lst ds] => (D.ints ds).map fun bs => fz (.int bs.sum)
  | _ => none
def pList : List D → Option Vl
  | [.lst ds] => some (nw (.lst ds))
  | [.tup ds] => some (nw (.lst ds))
  | _ => none
def pTuple : List D → Option Vl
  | [.lst ds] => some (fz (.tup ds))
  | [.tup ds] => some (fz (.tup ds))
  | _ => none
def pInt : List D → Option Vl
  | [.int i] => some (fz (.int i))
  | [.bl b] => some (fz (.int (if b then 1 else 0)))
  | _ => none
def pAbs : List D → Option Vl
  | [.int i] => some (fz (.int (if i < 0 then -i else i)))
  | _ => none
def pMax : List D → Option Vl
  | [.int i, .int j] => some (fz (.int (if j > i then j else i)))
  | _ => none
def pMin : List D → Option Vl
  | [.int i, .int j] => some (fz (.int (if j < i then j else i)))
  | _ => none
open Classical in
noncomputable def pSorted : List D → Option Vl
  | [.lst ds] => if PySem.W.AllAlike (ds.map D.py) ∧ PySem.W.Sortable (ds.map D.py) ∧ ∀ d ∈ ds, d.dat = true ∧ d.py.depth ≤ 8 then some (nw (.lst (ds.mergeSort (PySem.W.dataLe false D.py)))) else none
  | _ => none
theorem each_reps {g : Gl0} {M : Hp} : ∀ {vs : List V} {us : List Value} {ds : List D}, Vals vs us → Reps g M vs ds → PySem.W.EachIs (fun u d => ∃ v, RelV v u ∧ Rep g M v d) us ds
  | _, _, _, .nil, .nil => .nil
  | _, _, _, .cons a t, .cons b q => .cons ⟨_, a, b⟩ (each_reps t q)
theorem reps_each {g : Gl0} {M : Hp} : ∀ {us : List Value} {ds : List D}, PySem.W.EachIs (fun u d => ∃ v, RelV v u ∧ Rep g M v d) us ds → ∃ vs, Vals vs us ∧ Reps g M vs ds
  | _, _, .nil => ⟨[], .nil, .nil⟩
  | _, _, .cons ⟨v, a, b⟩ t => by
    obtain ⟨vs, q1, q2⟩ := reps_each t
    exact ⟨v :: vs, .cons a q1, .cons b q2⟩
section
variable {X : Cx} {cl : Str → Option Addr}
theorem cr_len : CallR X (.builtin "len") (rPs (gl X cl) pLen) := by
  intro pins s σ H xs us Q I r h
  obtain ⟨M, ds, w, sm, pr, hp, k⟩ := h
  unfold pLen at hp
  split at hp
  · cases hp
    obtain ⟨x, rfl, q⟩ := preps1 pr
    obtain ⟨p, vs, rfl, hs, hr, hz0⟩ := q.lst sm
    refine call_len pins s σ H _ us Q I r ⟨_, _, rfl, .inl ⟨vs, .of hs, rfl⟩, ?_⟩
    rw [hr.length]
    exact rPs.fz k sm (.int _)
  · cases hp
    obtain ⟨x, rfl, q⟩ := preps1 pr
    obtain ⟨p, vs, rfl, hs, hr, _, hz0⟩ := q.tup sm
    refine call_len pins s σ H _ us Q I r ⟨_, _, rfl, .inr ⟨vs, hs, rfl⟩, ?_⟩
    rw [hr.length]
    exact rPs.fz k sm (.int _)
  · cases hp
    obtain ⟨x, rfl, q⟩ := preps1 pr
    obtain ⟨p, rfl, hs⟩ := q.scr sm
    refine call_len pins s σ H _ us Q I r ⟨_, _, rfl, .inl ⟨_, hs, rfl⟩, ?_⟩
    rw [List.length_map]
    exact rPs.fz k sm (.int _)
  · cases hp
    obtain ⟨x, rfl, q⟩ := preps1 pr
    obtain ⟨rfl, e2, e3⟩ := q.str
    exact call_len pins s σ H _ us Q I r ⟨_, _, rfl, ⟨e3, rfl⟩, rPs.fz k sm (.int _)⟩
  · cases hp
theorem cr_allP (hc : X.calm = true) : CallR X (.builtin "all") (rPs (gl X cl) pAll) := by
  intro pins s σ H xs us Q I r h
  obtain ⟨M, ds, w, sm, pr, hp, k⟩ := h
  unfold pAll at hp
  split at hp
  · obtain ⟨bs, hb, rfl⟩ := Option.map_eq_some_iff.mp hp
    obtain ⟨x, rfl, q⟩ := preps1 pr
    obtain ⟨p, vs, rfl, hs, hr, hz0⟩ := q.lst sm
    rw [bools_eq hb] at hr
    rw [hr.bls_inv] at hs
    exact cr_all hc pins s σ H _ us Q I r ⟨p, bs, rfl, .of hs, rPs.fz k sm (.bl _)⟩
  · cases hp
theorem cr_anyP (hc : X.calm = true) : CallR X (.builtin "any") (rPs (gl X cl) pAny) := by
  intro pins s σ H xs us Q I r h
  obtain ⟨M, ds, w, sm, pr, hp, k⟩ := h
  unfold pAny at hp
  split at hp
  · obtain ⟨bs, hb, rfl⟩ := Option.map_eq_some_iff.mp hp
    obtain ⟨x, rfl, q⟩ := preps1 pr
    obtain ⟨p, vs, rfl, hs, hr, hz0⟩ := q.lst sm
    rw [bools_eq hb] at hr
    rw [hr.bls_inv] at hs
    exact cr_any hc pins s σ H _ us Q I r ⟨p, bs, rfl, .of hs, rPs.fz k sm (.bl _)⟩
  · cases hp
theorem cr_sumP (hc : X.calm = true) : CallR X (.builtin "sum") (rPs (gl X cl) pSum) := by
  intro pins s σ H xs us Q I r h
  obtain ⟨M, ds, w, sm, pr, hp, k⟩ := h
  unfold pSum at hp
  split at hp
  · obtain ⟨bs, hb, rfl⟩ := Option.map_eq_some_iff.mp hp
    obtain ⟨x, rfl, q⟩ := preps1 pr
    obtain ⟨p, vs, rfl, hs, hr, hz0⟩ := q.lst sm
    rw [ints_eq hb] at hr
    rw [hr.ints_inv] at hs
    exact cr_sum hc pins s σ H _ us Q I r ⟨p, bs, rfl, .of hs, rPs.fz k sm (.int _)⟩
  · cases hp
theorem cr_listP : CallR X (.type "list") (rPs (gl X cl) pList) := by
  intro pins s σ H xs us Q I r h
  obtain ⟨M, ds, w, sm, pr, hp, k⟩ := h
  unfold pList at hp
  split at hp
  · cases hp
    obtain ⟨x, rfl, q⟩ := preps1 pr
    obtain ⟨p, vs, rfl, hs, hr, hz0⟩ := q.lst sm
    exact call_list_of pins s σ H _ us Q I r ⟨p, vs, rfl, .inl (.of hs), rPs.nwl k sm hr hz0⟩
  · cases hp
    obtain ⟨x, rfl, q⟩ := preps1 pr
    obtain ⟨p, vs, rfl, hs, hr, _, hz0⟩ := q.tup sm
    exact call_list_of pins s σ H _ us Q I r ⟨p, vs, rfl, .inr hs, rPs.nwl k sm hr hz0⟩
  · cases hp
theorem cr_tupleP : CallR X (.type "tuple") (rPs (gl X cl) pTuple) := by
  intro pins s σ H xs us Q I r h
  obtain ⟨M, ds, w, sm, pr, hp, k⟩ := h
  unfold pTuple at hp
  split at hp
  · cases hp
    obtain ⟨x, rfl, q⟩ := preps1 pr
    obtain ⟨p, vs, rfl, hs, hr, hz0⟩ := q.lst sm
    exact call_tuple_of pins s σ H _ us Q I r ⟨p, vs, rfl, .inl ⟨.of hs, rPs.tup k sm hr hz0⟩⟩
  · cases hp
    obtain ⟨x, rfl, q⟩ := preps1 pr
    obtain ⟨p, vs, rfl, hs, hr, q2, _⟩ := q.tup sm
    exact call_tuple_of pins s σ H _ us Q I r ⟨p, vs, rfl, .inr ⟨hs, rPs.fz k sm q2⟩⟩
  · cases hp
theorem cr_intP : CallR X (.type "int") (rPs (gl X cl) pInt) := by
  intro pins s σ H xs us Q I r h
  obtain ⟨M, ds, w, sm, pr, hp, k⟩ := h
  unfold pInt at hp
  split at hp
  · cases hp
    obtain ⟨x, rfl, q⟩ := preps1 pr
    exact call_int1 pins s σ H _ us Q I r (.inl ⟨_, by rw [q.int], rPs.fz k sm (.int _)⟩)
  · cases hp
    obtain ⟨x, rfl, q⟩ := preps1 pr
    exact call_int1 pins s σ H _ us Q I r (.inr ⟨_, by rw [q.bl], rPs.fz k sm (.int _)⟩)
  · cases hp
theorem cr_absP : CallR X (.builtin "abs") (rPs (gl X cl) pAbs) := by
  intro pins s σ H xs us Q I r h
  obtain ⟨M, ds, w, sm, pr, hp, k⟩ := h
  unfold pAbs at hp
  split at hp
  · cases hp
    obtain ⟨x, rfl, q⟩ := preps1 pr
    exact call_abs pins s σ H _ us Q I r ⟨_, by rw [q.int], rPs.fz k sm (.int _)⟩
  · cases hp
theorem preps2' {g : Gl0} {M H : Hp} {xs : List V} {d e : D} (h : PReps g M H xs [d, e]) : ∃ x y, xs = [x, y] ∧ PRep g M H x d ∧ PRep g M H y e := by
  cases h with
  | cons a b =>
    obtain ⟨y, rfl, q⟩ := preps1 b
    exact ⟨_, y, rfl, a, q⟩
theorem cr_maxP (hc : X.calm = true) : CallR X (.builtin "max") (rPs (gl X cl) pMax) := by
  intro pins s σ H xs us Q I r h
  obtain ⟨M, ds, w, sm, pr, hp, k⟩ := h
  unfold pMax at hp
  split at hp
  · cases hp
    obtain ⟨x, y, rfl, q1, q2⟩ := preps2' pr
    exact call_max2 hc pins s σ H _ us Q I r ⟨_, _, by rw [q1.int, q2.int], rPs.fz k sm (.int _)⟩
  · cases hp
theorem cr_minP (hc : X.calm = true) : CallR X (.builtin "min") (rPs (gl X cl) pMin) := by
  intro pins s σ H xs us Q I r h
  obtain ⟨M, ds, w, sm, pr, hp, k⟩ := h
  unfold pMin at hp
  split at hp
  · cases hp
    obtain ⟨x, y, rfl, q1, q2⟩ := preps2' pr
    exact call_min2 hc pins s σ H _ us Q I r ⟨_, _, by rw [q1.int, q2.int], rPs.fz k sm (.int _)⟩
  · cases hp
/-! ### sorted -/
theorem each_reads {pins : List (Addr × Obj)} {σ : L2.St} {H M : Hp} {s : Shared} (I : Inv X pins σ H s) (sm : Sub M H) : ∀ {vs : List V} {us : List Value} {ds : List D}, Vals vs us → Reps (gl X cl) M vs ds → (∀ d ∈ ds, d.dat = true) → PySem.W.EachIs (fun v b => ∃ as, Reads s.heap v (D.py b) as) us ds
  | _, _, _, .nil, .nil, _ => .nil
  | _, _, _, .cons a1 a2, .cons b1 b2, c => .cons (Dp.reads I _ _ _ ((b1.mono sm).dp (c _ List.mem_cons_self)) a1) (each_reads I sm a2 b2 fun d hd => c d (List.mem_cons_of_mem _ hd))
theorem cr_sortedP (hu : X.A.units + 64 < cLine) : CallR X (.builtin "sorted") (rPs (gl X cl) pSorted) := by
  intro pins s σ H xs us Q I r h
  obtain ⟨M, ds, w, sm, pr, hp, k⟩ := h
  unfold pSorted at hp
  split at hp
  · rename_i ds
    split at hp
    · rename_i hc
      obtain ⟨h1, h2, h3⟩ := hc
      cases hp
      obtain ⟨x, rfl, q⟩ := preps1 pr
      obtain ⟨p, vs, rfl, hs, hr, hz0⟩ := q.lst sm
      rw [Vals.ref1 r]
      obtain ⟨its, rv, hl, hz⟩ := I.list (.of hs)
      have e := each_reps rv hr
      have er : PySem.W.EachIs (fun v b => ∃ as, Reads s.heap v (D.py b) as) its ds := by
        exact each_reads I sm rv hr fun d hd => (h3 d hd).1
      refine PySem.W.sorted_data (enc := D.py) (R := fun u d => ∃ v, RelV v u ∧ Rep (gl X cl) M v d) hl.isList e er h1 h2 (by rw [← hr.length]; exact hz) (fun b hb => ?_) fun out hlen ho => ?_
      · have := (h3 b hb).2
        omega
      · obtain ⟨ep, he'⟩ := PyProof.Rows.sortedAll_at s.heap its out.toArray
        obtain ⟨vs', rv', rr'⟩ := reps_each ho
        have hlen' : vs'.length ≤ sizeLine := by rw [rv'.length, hlen, ← hr.length]; exact hz
        exact ⟨.ref _, upd H (s.heap.objs.size + 1) (.lst vs'), I.laid (t' := s.toks) (fun _ _ => PyProof.Rows.sortedAll_old) (Nat.le_succ _) ⟨hlen', out, ep, rv', he'⟩, rfl, rPs.nwl k sm rr' (by rw [List.length_mergeSort]; exact hz0) _ (I.hok.fresh (Nat.le_succ _))⟩
    · cases hp
  · cases hp
end

/-! ### slices -/
def pSlice (lo hi : Option Int) : D → Option Vl
  | .lst ds => some (nw (.lst ((ds.drop (HT.sIx ds.length 0 lo)).take (HT.sIx ds.length ds.length hi - HT.sIx ds.length 0 lo))))
  | .tup ds => some (fz (.tup ((ds.drop (HT.sIx ds.length 0 lo)).take (HT.sIx ds.length ds.length hi - HT.sIx ds.length 0 lo))))
  | .str z => some (fz (.str (cutS z lo hi)))
  | _ => none
theorem strOk_cut {z : Str} (h : PyData.strOk z = true) (lo hi : Option Int) : PyData.strOk (cutS z lo hi) = true := by
  have h' : z.cps.all (fun x => decide (x < 0x110000)) = true := h
  rw [← Array.all_toList] at h'
  show (((z.cps.toList.drop _).take _).toArray).all _ = true
  rw [← Array.all_toList]
  refine List.all_eq_true.mpr fun c hc => List.all_eq_true.mp h' c ?_
  exact List.mem_of_mem_drop (List.mem_of_mem_take (by simpa using hc))
theorem len_cut (z : Str) (lo hi : Option Int) : (cutS z lo hi).length ≤ z.length := by
  show (((z.cps.toList.drop _).take _).toArray).size ≤ z.cps.size
  rw [List.size_toArray, List.length_take, List.length_drop, Array.length_toList]
  omega
def rSlP (g : Gl0) : V → Option Int → Option Int → Hp → VK → Prop := fun x lo hi H Q => ∃ M d v, Sub M H ∧ PRep g M H x d ∧ pSlice lo hi d = some v ∧
  ∀ z M' H', Ext M H M' H' → PX g M H M' H' z v → (v.nw = true → ∀ q, z = .ref q → M' q = none) → Q z H'
section
variable {X : Cx} {cl : Str → Option Addr}
theorem sl_P : SlR X (rSlP (gl X cl)) := by
  intro pins s σ H x v vl vu lo hi sl Q I rx hs pl pu h
  obtain ⟨M, d, w, sm, pr, hp, k⟩ := h
  unfold pSlice at hp
  split at hp
  · cases hp
    obtain ⟨p, vs, rfl, hs', hr, hz0⟩ := pr.lst sm
    refine sl_list pins s σ H _ v vl vu lo hi sl Q I rx hs pl pu ⟨p, vs, rfl, .of hs', ?_⟩
    unfold cutV
    rw [hr.length]
    exact rPs.nwl k sm ((hr.drop _).take _) (by rw [List.length_take, List.length_drop]; omega)
  · cases hp
    obtain ⟨p, vs, rfl, hs', hr, q, hz0⟩ := pr.tup sm
    refine sl_tupA pins s σ H _ v vl vu lo hi sl Q I rx hs pl pu ⟨p, vs, rfl, hs', fun z => ?_, fun _ => ?_⟩
    · rw [hr.length] at z
      refine rPs.fz k sm ?_
      rw [z.1, z.2, Nat.sub_zero, List.drop_zero, List.take_length]
      exact q
    · unfold cutV
      rw [hr.length]
      exact rPs.tup k sm ((hr.drop _).take _) (by rw [List.length_take, List.length_drop]; omega)
  · cases hp
    obtain ⟨rfl, e2, e3⟩ := pr.str
    exact sl_str pins s σ H _ v vl vu lo hi sl Q I rx hs pl pu ⟨_, rfl, e3, rPs.fz k sm (.str _ ⟨strOk_cut e2 _ _, Nat.le_trans (len_cut _ _ _) e3⟩)⟩
  · cases hp
end
/-! ### truth -/
theorem truth_ok {g : Gl0} {M H : Hp} (sm : Sub M H) {x : V} {d : D} {b : Bool} (h : PRep g M H x d) (hb : truth d = some b) : TruV g.K x H b := by
  cases d with
  | non => rw [h.non]; cases hb; rfl
  | bl c => rw [h.bl]; cases hb; rfl
  | int i => rw [h.int]; cases hb; rfl
  | str z =>
    obtain ⟨e, _, e3⟩ := h.str
    rw [e]; cases hb
    refine ⟨e3, ?_⟩
    cases hz : z.length with
    | zero => rfl
    | succ n =>
      show (n + 1 != 0) = (((n + 1 : Nat) : Int) != 0)
      have : ((n + 1 : Nat) : Int) ≠ 0 := by omega
      simp [this]
      omega
  | tup l =>
    obtain ⟨a, vs, e, hs, hr, _, _⟩ := h.tup sm
    rw [e]; cases hb
    refine .inr (.inl ⟨vs, hs, ?_⟩)
    cases hr <;> rfl
  | lst l =>
    obtain ⟨a, vs, e, hs, hr, _⟩ := h.lst sm
    rw [e]; cases hb
    refine .inl ⟨vs, .of hs, ?_⟩
    cases hr <;> rfl
  | dic l => cases hb
  | obj c fs => cases hb
  | scr l => cases hb
end Ev
set_option Elab.async false
set_option linter.all false
set_option autoImplicit false
set_option maxRecDepth 100000
/-! Expressions' rules. -/
namespace Ev
open PySem L2
section
variable {g : Gl0} {G : Gh} {e : En} {M H : Hp} {σ : L2.St} {W : WX} {Q : VK} {p : List D → Option Vl}
/-- behind the operands -/
theorem prim_end {e : En} {M : Hp} {H : Hp} {xs : List V} {os : List Opd} (r : Rel g G e M σ H) (x : OpdRs g M σ xs os)
    (h : tPost g W (VR g) G σ Q ((match ress e os with | some ds => Out.ok ds e | none => .stuck).bind fun ds e => match p ds with | some v => .ok v e | none => .stuck)) : rPs g p xs H Q := by
  cases hr : ress e os with
  | none => rw [hr] at h; exact h.elim
  | some ds =>
    rw [hr] at h
    have h' : tPost g W (VR g) G σ Q (match p ds with | some v => .ok v e | none => .stuck) := h
    cases hp : p ds with
    | none => rw [hp] at h'; exact h'.elim
    | some v =>
      rw [hp] at h'
      refine ⟨M, ds, v, r.sub, r.ress hr x, hp, fun z M' H' w px hm => ?_⟩
      obtain ⟨r', vr⟩ := r.px w px hm
      exact h' z M' H' r' vr
theorem Out.bind_assoc {α β γ : Type} (o : Out α) (f : α → En → Out β) (k : β → En → Out γ) : (o.bind f).bind k = o.bind fun a e => (f a e).bind k := by
  cases o <;> rfl
theorem n_ops {ms : List (Sx Opd)} (r : Rel g G e M σ H) (h : tPost g W (VR g) G σ Q (sPrim p ms e)) : tAs g W (sOps ms) σ H fun xs H1 => rPs g p xs H1 Q := by
  unfold sPrim sArgs at h
  rw [Out.bind_assoc] at h
  exact tG_last r h fun os e1 xs M1 H1 _ r1 _ x1 h1 => prim_end r1 x1 h1
theorem two_ops {ma mb : Sx Opd} (r : Rel g G e M σ H) (h : tPost g W (VR g) G σ Q (sPrim p [ma, mb] e)) : tO g W ma σ H fun x H1 => tO g W mb σ H1 fun y H2 => rP2 g p x y H2 Q := by
  unfold sPrim sArgs sOps at h
  rw [Out.bind_assoc, Out.bind_assoc] at h
  refine tG_last r h fun oa e1 x M1 H1 _ r1 _ x1 h1 => ?_
  unfold sOps at h1
  rw [Out.bind_assoc, Out.bind_assoc] at h1
  refine tG_bind r1 h1 fun ob e2 y M2 H2 _ r2 y2 h2 => ?_
  exact prim_end (r1.back r2) (.cons (x1.mono r2.base) (.cons y2 .nil)) h2
theorem one_op {ma : Sx Opd} (r : Rel g G e M σ H) (h : tPost g W (VR g) G σ Q (sPrim p [ma] e)) : tO g W ma σ H fun x H1 => rPs g p [x] H1 Q := by
  unfold sPrim sArgs sOps at h
  rw [Out.bind_assoc, Out.bind_assoc] at h
  refine tG_last r h fun oa e1 x M1 H1 _ r1 _ x1 h1 => ?_
  exact prim_end r1 (.cons x1 .nil) h1
end
section
variable {X : Cx} {cl : Str → Option Addr} {W : WX} {a b : Expr} {ma mb : Sx Opd} {p : List D → Option Vl} {pos : Pos}
/-! ### operators -/
theorem ve_op {op : Operator} (ho : OpR X (binaryOp op) (rP2 (gl X cl) p)) (ha : PE X a (tO (gl X cl) W ma)) (hb : PE X b (tO (gl X cl) W mb)) : PE X (.BinOp a op b pos) (tE (gl X cl) W (sPrim p [ma, mb])) :=
  PE_imp (pe_op ho ha hb) fun _ _ _ ⟨_, _, _, r, h⟩ => two_ops r h
theorem ve_cmp {op : CmpOp} (ho : OpR X (compareOp op) (rP2 (gl X cl) p)) (ha : PE X a (tO (gl X cl) W ma)) (hb : PE X b (tO (gl X cl) W mb)) (hm : behindInMarks op b = false) : PE X (.Compare a [op] [b] pos) (tE (gl X cl) W (sPrim p [ma, mb])) :=
  PE_imp (pe_cmpR ho ha hb hm) fun _ _ _ ⟨_, _, _, r, h⟩ => two_ops r h
theorem ve_ix (ho : IxR X (rP2 (gl X cl) p)) (ha : PE X a (tO (gl X cl) W ma)) (hb : PE X b (tO (gl X cl) W mb)) (hs : PlainIx b) : PE X (.Subscript a b pos) (tE (gl X cl) W (sPrim p [ma, mb])) :=
  PE_imp (pe_ix ho ha hb hs) fun _ _ _ ⟨_, _, _, r, h⟩ => two_ops r h
/-! ### tests -/
/-- a value that is a bool, as a test -/
def tBool (m : Sx Vl) : Sx Bool := fun e => (m e).bind fun v e => match v.d with
  | .bl b => .ok b e
  | _ => .stuck
theorem test_of {g : Gl0} {G : Gh} {e : En} {M H : Hp} {σ : L2.St} {m : Sx Vl} {Q : Bool → Hp → Prop} {t : TE} (k : ∀ σ H Q, tE g W m σ H Q → t σ H Q) (r : Rel g G e M σ H) (h : tPost g W (fun _ _ _ _ _ b a => b = a) G σ Q (tBool m e)) : tTest t σ H Q := by
  refine k σ H _ (tG_last r h fun v e1 x M1 H1 _ r1 _ x1 h1 => ?_)
  obtain ⟨d, w⟩ := v
  cases d with
  | bl b =>
    have hx : x = .bl b := by
      cases w with
      | false => cases x1; rfl
      | true => obtain ⟨p, o, _, _, ro, _⟩ := x1; cases ro
    exact ⟨b, hx, h1 b M1 H1 r1 rfl⟩
  | _ => exact h1.elim
theorem vt_cmp {op : CmpOp} (ho : OpR X (compareOp op) (rP2 (gl X cl) p)) (ha : PE X a (tO (gl X cl) W ma)) (hb : PE X b (tO (gl X cl) W mb)) (hm : behindInMarks op b = false) : PT X (.Compare a [op] [b] pos) (tT (gl X cl) W (tBool (sPrim p [ma, mb]))) :=
  PT_imp (pt_cmpR ho ha hb hm) fun _ _ _ ⟨_, _, _, r, h⟩ => test_of (fun _ _ _ ⟨_, _, _, r, h⟩ => two_ops r h) r h
theorem vt_not {c : Expr} {t : Sx Bool} (hc : PT X c (tT (gl X cl) W t)) : PT X (.UnaryOp .Not c pos) (tT (gl X cl) W (tNot t)) :=
  PT_imp (pt_not hc) fun _ _ _ ⟨_, _, _, r, h⟩ => tG_last r h fun b e1 x M1 H1 _ r1 _ x1 h1 => by
    subst x1
    exact h1 _ M1 H1 r1 rfl
theorem vt_truth {c : Expr} {m : Sx Opd} (hc : PE X c (tO (gl X cl) W m)) (he : ∀ whole, isTrue c X.env whole = (do let v ← whole; standAt c.pos; holding [v] (truthy v))) : PT X c (tT (gl X cl) W (tVal m)) :=
  PT_imp (pt_truth hc he) fun _ _ _ ⟨_, _, _, r, h⟩ => by
    unfold tVal sArgs sOps at h
    rw [Out.bind_assoc, Out.bind_assoc] at h
    refine tG_last r h fun o e1 x M1 H1 _ r1 _ x1 h1 => ?_
    have h1' : tPost (gl X cl) W (fun _ _ _ _ _ b a => b = a) _ _ _ ((match ress e1 [o] with | some ds => Out.ok ds e1 | none => .stuck).bind fun ds e => match ds with
      | [d] => (match truth d with
        | some b => .ok b e
        | none => .stuck)
      | _ => .stuck) := h1
    cases hr : ress e1 [o] with
    | none => rw [hr] at h1'; exact h1'.elim
    | some ds =>
      rw [hr] at h1'
      have pr := r1.ress hr (.cons x1 .nil)
      cases pr with
      | cons q1 q2 =>
        cases q2
        rename_i d
        have h2 : tPost (gl X cl) W (fun _ _ _ _ _ b a => b = a) _ _ _ (match truth d with | some b => .ok b e1 | none => .stuck) := h1'
        cases hb : truth d with
        | none => rw [hb] at h2; exact h2.elim
        | some b =>
          rw [hb] at h2
          exact ⟨b, truth_ok r1.sub q1 hb, h2 b M1 H1 r1 rfl⟩
theorem vw_and1 {c : Expr} {t : Sx Bool} (h : PT X c (tT (gl X cl) W t)) : PW X (.BoolOp .And [c] pos) (tT (gl X cl) W t) := pw_and1 h
theorem vw_or1 {c : Expr} {t : Sx Bool} (h : PT X c (tT (gl X cl) W t)) : PW X (.BoolOp .Or [c] pos) (tT (gl X cl) W t) := pw_or1 h
theorem vw_and {c d : Expr} {rest : List Expr} {t u : Sx Bool} (h : PT X c (tT (gl X cl) W t)) (h' : PW X (.BoolOp .And (d :: rest) pos) (tT (gl X cl) W u)) : PW X (.BoolOp .And (c :: d :: rest) pos) (tT (gl X cl) W (tAnd t u)) :=
  PW_imp (pw_and h h') fun _ _ _ ⟨_, _, _, r, h⟩ => tG_last r h fun k e1 x M1 H1 _ r1 _ x1 h1 => by
    subst x1
    cases x with
    | true => exact ⟨_, _, _, r1, h1⟩
    | false => exact h1 false M1 H1 r1 rfl
theorem vw_or {c d : Expr} {rest : List Expr} {t u : Sx Bool} (h : PT X c (tT (gl X cl) W t)) (h' : PW X (.BoolOp .Or (d :: rest) pos) (tT (gl X cl) W u)) : PW X (.BoolOp .Or (c :: d :: rest) pos) (tT (gl X cl) W (tOr t u)) :=
  PW_imp (pw_or h h') fun _ _ _ ⟨_, _, _, r, h⟩ => tG_last r h fun k e1 x M1 H1 _ r1 _ x1 h1 => by
    subst x1
    cases x with
    | true => exact h1 true M1 H1 r1 rfl
    | false => exact ⟨_, _, _, r1, h1⟩
/-! ### and, or, not, if as values -/
theorem ve_one {op : BoolOp} {c : Expr} {m : Sx Vl} (h : PE X c (tE (gl X cl) W m)) : PE X (.BoolOp op [c] pos) (tE (gl X cl) W m) := pe_one h
theorem vr_bl {g : Gl0} {G : Gh} {e : En} {M H : Hp} {σ : L2.St} {x : V} {b w : Bool} (h : VR g G e M σ H x ⟨.bl b, w⟩) : x = .bl b := by
  cases w with
  | false => cases h; rfl
  | true => obtain ⟨p, o, _, _, ro, _⟩ := h; cases ro
theorem ve_and {c d : Expr} {rest : List Expr} {m n : Sx Vl} (h : PE X c (tE (gl X cl) W m)) (h' : PE X (.BoolOp .And (d :: rest) pos) (tE (gl X cl) W n)) : PE X (.BoolOp .And (c :: d :: rest) pos) (tE (gl X cl) W (sAnd m n)) :=
  PE_imp (pe_and h h') fun _ _ _ ⟨_, _, _, r, h⟩ => tG_last r h fun v e1 x M1 H1 _ r1 _ x1 h1 => by
    obtain ⟨d, w⟩ := v
    cases d with
    | bl b =>
      refine ⟨b, vr_bl x1, ?_⟩
      cases b with
      | true => exact ⟨_, _, _, r1, h1⟩
      | false => exact h1 _ M1 H1 r1 (.bl false)
    | _ => exact h1.elim
theorem ve_or {c d : Expr} {rest : List Expr} {m n : Sx Vl} (h : PE X c (tE (gl X cl) W m)) (h' : PE X (.BoolOp .Or (d :: rest) pos) (tE (gl X cl) W n)) : PE X (.BoolOp .Or (c :: d :: rest) pos) (tE (gl X cl) W (sOr m n)) :=
  PE_imp (pe_or h h') fun _ _ _ ⟨_, _, _, r, h⟩ => tG_last r h fun v e1 x M1 H1 _ r1 _ x1 h1 => by
    obtain ⟨d, w⟩ := v
    cases d with
    | bl b =>
      refine ⟨b, vr_bl x1, ?_⟩
      cases b with
      | true => exact h1 _ M1 H1 r1 (.bl true)
      | false => exact ⟨_, _, _, r1, h1⟩
    | _ => exact h1.elim
def sNot (m : Sx Opd) : Sx Vl := fun e => (tVal m e).bind fun b e => .ok (fz (.bl (!b))) e
theorem ve_not {c : Expr} {m : Sx Opd} (hc : PE X c (tO (gl X cl) W m)) : PE X (.UnaryOp .Not c pos) (tE (gl X cl) W (sNot m)) :=
  PE_imp (pe_notT hc) fun σ H Q ⟨G, e, M, r, h⟩ => by
    unfold sNot tVal sArgs sOps at h
    rw [Out.bind_assoc, Out.bind_assoc, Out.bind_assoc] at h
    refine tG_last r h fun o e1 x M1 H1 _ r1 _ x1 h1 => ?_
    have h1' : tPost (gl X cl) W (VR (gl X cl)) G σ Q (((match ress e1 [o] with | some ds => Out.ok ds e1 | none => .stuck).bind fun ds e => match ds with
      | [d] => (match truth d with
        | some b => .ok b e
        | none => .stuck)
      | _ => .stuck).bind fun b e => .ok (fz (.bl (!b))) e) := by
      rw [Out.bind_assoc]; exact h1
    cases hr : ress e1 [o] with
    | none => rw [hr] at h1'; exact h1'.elim
    | some ds =>
      rw [hr] at h1'
      have pr := r1.ress hr (.cons x1 .nil)
      cases pr with
      | cons q1 q2 =>
        cases q2
        rename_i d
        have h2 : tPost (gl X cl) W (VR (gl X cl)) G σ Q ((match truth d with | some b => Out.ok b e1 | none => .stuck).bind fun b e => .ok (fz (.bl (!b))) e) := h1'
        cases hb : truth d with
        | none => rw [hb] at h2; exact h2.elim
        | some b =>
          rw [hb] at h2
          exact ⟨b, truth_ok r1.sub q1 hb, h2 _ M1 H1 r1 (.bl _)⟩
theorem ve_ite {c a b : Expr} {t : Sx Bool} {m n : Sx Vl} (hc : PT X c (tT (gl X cl) W t)) (ha : PE X a (tE (gl X cl) W m)) (hb : PE X b (tE (gl X cl) W n)) : PE X (.IfExp c a b pos) (tE (gl X cl) W (sIf t m n)) :=
  PE_imp (pe_ifExp hc ha hb) fun _ _ _ ⟨_, _, _, r, h⟩ => tG_last r h fun k e1 x M1 H1 _ r1 _ x1 h1 => by
    subst x1
    cases x with
    | true => exact ⟨_, _, _, r1, h1⟩
    | false => exact ⟨_, _, _, r1, h1⟩
def pNeg1 : List D → Option Vl
  | [.int i] => some (fz (.int (-i)))
  | _ => none
theorem ve_neg (ha : PE X a (tO (gl X cl) W ma)) : PE X (.UnaryOp .USub a pos) (tE (gl X cl) W (sPrim pNeg1 [ma])) :=
  PE_imp (pe_un un_neg ha) fun σ H Q ⟨_, _, _, r, h⟩ => by
    obtain ⟨G', e', M', r', h'⟩ := one_op r h
    refine ⟨G', e', M', r', ?_⟩
    cases q : ma e' with
    | stuck => rw [q] at h'; exact h'
    | exc x e1 => rw [q] at h'; exact h'
    | ok o e1 =>
      rw [q] at h'
      intro x M1 H1 r1 x1
      obtain ⟨M2, ds, v, sm, pr, hp, k⟩ := h' x M1 H1 r1 x1
      unfold pNeg1 at hp
      split at hp
      · cases hp
        obtain ⟨y, e, q⟩ := preps1 pr
        cases e
        exact ⟨_, q.int, rPs.fz k sm (.int _)⟩
      · cases hp
/-! ### calls of built-ins -/
theorem ve_callB {id : String} {x : Str} {pp : Pos} {e : Expr} {es : List Expr} {ms : List (Sx Opd)} (hc : CallR X (.builtin id) (rPs (gl X cl) p)) (hg : Gl X x) (hm : X.mg x = none) (hv : bootBuiltins x = some (.builtin id)) (ha : PA X (e :: es) (tAs (gl X cl) W (sOps ms))) (hn : x ≠ "__name__") (hdb : (x == ("__debug__" : Str)) = false)
    (he : starEach (e :: es) X.env = (false, eval e X.env) :: starEach es X.env) (hpl : (backTo pos (starEach es X.env)).any (·.1) = false) : PE X (.Call (.Name x pp) (e :: es) [] pos) (tE (gl X cl) W (sPrim p ms)) :=
  PE_imp (pe_callB hc hg hm hv ha hn hdb he hpl) fun _ _ _ ⟨_, _, _, r, h⟩ => n_ops r h
theorem ve_callTy {T : String} {x : Str} {pp : Pos} {e : Expr} {es : List Expr} {ms : List (Sx Opd)} (hc : CallR X (.type T) (rPs (gl X cl) p)) (hg : Gl X x) (hm : X.mg x = none) (hv : bootBuiltins x = some (.type T)) (ha : PA X (e :: es) (tAs (gl X cl) W (sOps ms))) (hn : x ≠ "__name__") (hdb : (x == ("__debug__" : Str)) = false)
    (he : starEach (e :: es) X.env = (false, eval e X.env) :: starEach es X.env) (hpl : (backTo pos (starEach es X.env)).any (·.1) = false) : PE X (.Call (.Name x pp) (e :: es) [] pos) (tE (gl X cl) W (sPrim p ms)) :=
  PE_imp (pe_callTy hc hg hm hv ha hn hdb he hpl) fun _ _ _ ⟨_, _, _, r, h⟩ => n_ops r h
end
end Ev
set_option Elab.async false
set_option linter.all false
set_option autoImplicit false
set_option maxRecDepth 100000
/-! Displays, slices, fields, calls of defs, making of instances. -/
namespace Ev
open PySem L2
/-! ### displays -/
def dts : List Opd → Option (List D)
  | [] => some []
  | .dt d :: os => (dts os).map (d :: ·)
  | _ => none
theorem dts_reps {g : Gl0} {M : Hp} {σ : L2.St} : ∀ {xs : List V} {os : List Opd} {ds : List D}, OpdRs g M σ xs os → dts os = some ds → Reps g M xs ds
  | _, [], _, .nil, h => by cases h; exact .nil
  | _, .dt d :: os, ds, .cons a b, h => by
    obtain ⟨es, he, rfl⟩ := Option.map_eq_some_iff.mp (show (dts os).map (d :: ·) = some ds from h)
    exact .cons a (dts_reps b he)
  | _, .sl i :: os, ds, .cons a b, h => by cases h
def sSeqD (k : List D → Vl) (ms : List (Sx Opd)) : Sx Vl := fun e => (sOps ms e).bind fun os e => match dts os with
  | some ds => if ds.length ≤ sizeLine then .ok (k ds) e else .stuck
  | none => .stuck
def sTup (ms : List (Sx Opd)) : Sx Vl := sSeqD (fun ds => fz (.tup ds)) ms
def sLst (ms : List (Sx Opd)) : Sx Vl := sSeqD (fun ds => nw (.lst ds)) ms
def pSliceV (lo hi : Option Int) (ds : List D) : Option Vl := match ds with
  | [d] => pSlice lo hi d
  | _ => none
section
variable {X : Cx} {cl : Str → Option Addr} {W : WX} {pos : Pos}
theorem ve_tup {es : List Expr} {ms : List (Sx Opd)} {x1 : Nat} (h : PA X es (tAs (gl X cl) W (sOps ms))) : PE X (.Tuple es x1 pos) (tE (gl X cl) W (sTup ms)) :=
  PE_imp (pe_tup h) fun σ H Q ⟨G, e, M, r, h⟩ => by
    unfold sTup sSeqD at h
    refine tG_last r h fun os e1 xs M1 H1 _ r1 _ x1 h1 => ?_
    cases hd : dts os with
    | none => rw [hd] at h1; exact h1.elim
    | some ds =>
      rw [hd] at h1
      by_cases hl : ds.length ≤ sizeLine
      · have h1' : tPost (gl X cl) W (VR (gl X cl)) G σ Q (if ds.length ≤ sizeLine then Out.ok (fz (D.tup ds)) e1 else .stuck) := h1
        rw [if_pos hl] at h1'
        have rr := dts_reps x1 hd
        refine ⟨by rw [rr.length]; exact hl, fun p hp => ?_⟩
        have w : Ext M1 H1 (upd M1 p (.tup xs)) (upd H1 p (.tup xs)) := .newM r1.sub hp
        exact h1' _ _ _ (r1.ext w) (show Rep (gl X cl) _ _ _ from .tup (.of upd_same) (rr.mono w.mono) hl)
      · have h1' : tPost (gl X cl) W (VR (gl X cl)) G σ Q (if ds.length ≤ sizeLine then Out.ok (fz (D.tup ds)) e1 else .stuck) := h1
        rw [if_neg hl] at h1'
        exact h1'.elim
theorem ve_lst {es : List Expr} {ms : List (Sx Opd)} (h : PA X es (tAs (gl X cl) W (sOps ms))) : PE X (.List es pos) (tE (gl X cl) W (sLst ms)) :=
  PE_imp (pe_lst h) fun σ H Q ⟨G, e, M, r, h⟩ => by
    unfold sLst sSeqD at h
    refine tG_last r h fun os e1 xs M1 H1 _ r1 _ x1 h1 => ?_
    cases hd : dts os with
    | none => rw [hd] at h1; exact h1.elim
    | some ds =>
      rw [hd] at h1
      by_cases hl : ds.length ≤ sizeLine
      · have h1' : tPost (gl X cl) W (VR (gl X cl)) G σ Q (if ds.length ≤ sizeLine then Out.ok (nw (D.lst ds)) e1 else .stuck) := h1
        rw [if_pos hl] at h1'
        have rr := dts_reps x1 hd
        refine ⟨by rw [rr.length]; exact hl, fun p hp => ?_⟩
        have w : Ext M1 H1 M1 (upd H1 p (.lst xs)) := .new r1.sub hp
        obtain ⟨q1, q2⟩ := r1.px (v := nw (D.lst ds)) w ⟨p, _, rfl, hp, upd_same, .lst rr hl⟩ (fun _ q e => by cases e; exact r1.sub.none hp)
        exact h1' _ _ _ q1 q2
      · have h1' : tPost (gl X cl) W (VR (gl X cl)) G σ Q (if ds.length ≤ sizeLine then Out.ok (nw (D.lst ds)) e1 else .stuck) := h1
        rw [if_neg hl] at h1'
        exact h1'.elim
/-! ### slices -/
/-- a part of a slice -/
def oPart : Option (Sx Opd) → Sx (Option Int)
  | none => fun e => .ok none e
  | some m => fun e => (sArgs [m] e).bind fun ds e => match ds with
    | [.int i] => .ok (some i) e
    | _ => .stuck
def tPt (g : Gl0) (W : WX) (f : Sx (Option Int)) : TO := tG g W (fun _ _ _ _ _ x o => x = o) f
theorem vp_none : PO X none (tPt (gl X cl) W (oPart none)) := ⟨fun pins s σ H Q I ⟨G, e, M, r, h⟩ => (po_none.run pins s σ H Q I (h none M H r rfl))⟩
theorem vp_some {c : Expr} {m : Sx Opd} (h : PE X c (tO (gl X cl) W m)) : PO X (some c) (tPt (gl X cl) W (oPart (some m))) := by
  refine ⟨fun pins s σ H Q I ⟨G, e, M, r, hh⟩ => ((po_some h).run pins s σ H Q I ?_)⟩
  unfold oPart sArgs sOps at hh
  simp only at hh
  rw [Out.bind_assoc, Out.bind_assoc] at hh
  refine tG_last r hh fun o e1 x M1 H1 _ r1 _ x1 h1 => ?_
  have h1' : tPost (gl X cl) W (fun _ _ _ _ _ x o => x = o) G σ Q ((match ress e1 [o] with | some ds => Out.ok ds e1 | none => .stuck).bind fun ds e => match ds with
    | [.int i] => .ok (some i) e
    | _ => .stuck) := h1
  cases hr : ress e1 [o] with
  | none => rw [hr] at h1'; exact h1'.elim
  | some ds =>
    rw [hr] at h1'
    have pr := r1.ress hr (.cons x1 .nil)
    cases pr with
    | cons q1 q2 =>
      cases q2
      rename_i d
      cases d with
      | int i => exact ⟨i, q1.int, h1' (some i) M1 H1 r1 rfl⟩
      | _ => exact h1'.elim
def sSlice (m : Sx Opd) (lo hi : Option (Sx Opd)) : Sx Vl := fun e => (m e).bind fun o e => (oPart lo e).bind fun l e => (oPart hi e).bind fun h e => match res e o with
  | some d => (match pSlice l h d with
    | some v => .ok v e
    | none => .stuck)
  | none => .stuck
theorem ve_slice {c : Expr} {m : Sx Opd} {lo hi : Option Expr} {ml mh : Option (Sx Opd)} {p2 : Pos} (h : PE X c (tO (gl X cl) W m)) (hl : PO X lo (tPt (gl X cl) W (oPart ml))) (hh : PO X hi (tPt (gl X cl) W (oPart mh))) : PE X (.Subscript c (.Slice lo hi none p2) pos) (tE (gl X cl) W (sSlice m ml mh)) :=
  PE_imp (pe_slice sl_P h hl hh) fun σ H Q ⟨G, e, M, r, h⟩ => by
    unfold sSlice at h
    refine tG_last r h fun o e1 x M1 H1 _ r1 _ x1 h1 => ?_
    refine tG_bind r1 h1 fun l e2 l' M2 H2 _ r2 e2' h2 => ?_
    subst e2'
    refine tG_bind (r1.back r2) h2 fun u e3 u' M3 H3 _ r3 e3' h3 => ?_
    subst e3'
    have r3' := (r1.back r2).back r3
    have sm : Sub M1 M3 := r2.base.trans r3.base
    cases hr : res e3 o with
    | none => rw [hr] at h3; exact h3.elim
    | some d =>
      rw [hr] at h3
      have h3' : tPost (gl X cl) W (VR (gl X cl)) G σ Q (match pSlice l' u' d with | some v => Out.ok v e3 | none => .stuck) := h3
      cases hp : pSlice l' u' d with
      | none => rw [hp] at h3'; exact h3'.elim
      | some v =>
        rw [hp] at h3'
        refine ⟨M3, d, v, r3'.sub, r3'.res hr (x1.mono sm), hp, fun z M' H' w px hm => ?_⟩
        obtain ⟨q1, q2⟩ := r3'.px w px hm
        exact h3' z M' H' q1 q2
/-- xs[::-1] -/
def pRev : List D → Option Vl
  | [.lst l] => some (nw (.lst l.reverse))
  | _ => none
def sRev (m : Sx Opd) : Sx Vl := sPrim pRev [m]
theorem ve_rev {c : Expr} {m : Sx Opd} {k : Nat} {p1 p2 p3 : Pos} (h : PE X c (tO (gl X cl) W m)) : PE X (.Subscript c (.Slice none none (some (.UnaryOp .USub (.Constant (.int 1) k p1) p2)) p3) pos) (tE (gl X cl) W (sRev m)) :=
  PE_imp (pe_revL h) fun σ H Q ⟨G, e, M, r, h⟩ => by
    obtain ⟨G', e', M', r', h'⟩ := one_op r h
    refine ⟨G', e', M', r', ?_⟩
    cases q : m e' with
    | stuck => rw [q] at h'; exact h'
    | exc x e1 => rw [q] at h'; exact h'
    | ok o e1 =>
      rw [q] at h'
      intro x M1 H1 r1 x1
      obtain ⟨M2, ds, v, sm, pr, hp, k⟩ := h' x M1 H1 r1 x1
      unfold pRev at hp
      split at hp
      · cases hp
        obtain ⟨y, e, q⟩ := preps1 pr
        cases e
        obtain ⟨a, vs, ex, hs, hr, hz⟩ := q.lst sm
        exact ⟨a, vs, ex, .of hs, rPs.nwl k sm hr.reverse (by rw [List.length_reverse]; exact hz)⟩
      · cases hp
/-! ### fields -/
def pFld (at_ : Str → Str → Bool) (f : Str) : List D → Option Vl
  | [.obj c fs] => if at_ c f = true then (fs.lookup f).map fz else none
  | _ => none
def sFld (at_ : Str → Str → Bool) (f : Str) (m : Sx Opd) : Sx Vl := sPrim (pFld at_ f) [m]
theorem ve_fld {at_ : Str → Str → Bool} {c : Expr} {f : Str} {m : Sx Opd} (hat : ∀ c f C, at_ c f = true → cl c = some C → Cls X.K C ∧ NoAttr X.K C f) (h : PE X c (tO (gl X cl) W m)) (hb : attributeBase c f X.env (eval c X.env) = eval c X.env) : PE X (.Attribute c f pos) (tE (gl X cl) W (sFld at_ f m)) :=
  PE_imp (pe_fld h hb) fun σ H Q ⟨G, e, M, r, h⟩ => by
    obtain ⟨G', e', M', r', h'⟩ := one_op r h
    refine ⟨G', e', M', r', ?_⟩
    cases q : m e' with
    | stuck => rw [q] at h'; exact h'
    | exc x e1 => rw [q] at h'; exact h'
    | ok o e1 =>
      rw [q] at h'
      intro x M1 H1 r1 x1
      obtain ⟨M2, ds, v, sm, pr, hp, k⟩ := h' x M1 H1 r1 x1
      unfold pFld at hp
      split at hp
      · split at hp
        · rename_i ha
          obtain ⟨d, hd, rfl⟩ := Option.map_eq_some_iff.mp hp
          obtain ⟨y, e, q⟩ := preps1 pr
          cases e
          obtain ⟨a, C, dx, fs, ex, hs, hc, hr⟩ := q.obj sm
          obtain ⟨w, hw, rw'⟩ := hr.get hd
          obtain ⟨c1, c2⟩ := hat _ _ C ha hc
          exact ⟨a, C, dx, fs, w, ex, hs, c1, c2, hw, rPs.fz k sm rw'⟩
        · cases hp
      · cases hp
end

/-! ### calls of defs -/
/-- what a def that changes its first argument gives: the value, the argument's new content -/
inductive ResB where
  | ok (v : Vl) (d : D) | exc (x : Exn) | stuck
/-- a parameter is held (false) or only looked at (true) -/
def okModes : List Bool → List Opd → Bool
  | [], [] => true
  | b :: bs, o :: os => (b || (match o with
    | .dt _ => true
    | .sl _ => false)) && okModes bs os
  | _, _ => false
def ofRes : Res Vl → En → Out Vl
  | .ok v, e => .ok v e
  | .exc x, e => .exc x e
  | .stuck, _ => .stuck
def sCall (modes : List Bool) (f : List D → Res Vl) (ms : List (Sx Opd)) : Sx Vl := fun e => (sOps ms e).bind fun os e => if okModes modes os = true then (match ress e os with
  | some ds => ofRes (f ds) e
  | none => .stuck) else .stuck
def sCallB (modes : List Bool) (f : D → List D → ResB) (i : Nat) (ms : List (Sx Opd)) : Sx Vl := fun e => (sOps (oName i :: ms) e).bind fun os e => match os with
  | _ :: os => if okModes modes os = true then (match ress e os, e[i]? with
    | some ds, some (.ow d) => (match f d ds with
      | .ok v d' => .ok v (e.set i (.ow d'))
      | _ => .stuck)
    | some ds, some (.bx d) => (match f d ds with
      | .ok v d' => .ok v (e.set i (.bx d'))
      | _ => .stuck)
    | _, _ => .stuck) else .stuck
  | [] => .stuck
def sMake (c : Str) (modes : List Bool) (f : D → List D → ResB) (ms : List (Sx Opd)) : Sx Vl := fun e => (sOps ms e).bind fun os e => if okModes modes os = true then (match ress e os with
  | some ds => (match f (.obj c []) ds with
    | .ok v d' => (match v.d with
      | .non => .ok (nw d') e
      | _ => .stuck)
    | .exc x => .exc x e
    | .stuck => .stuck)
  | none => .stuck) else .stuck
/-- arguments as a callee gets them -/
inductive ArgR (g : Gl0) (M H : Hp) : List Bool → List V → List D → Prop
  | nil : ArgR g M H [] [] []
  | held {v : V} {d : D} {bs : List Bool} {vs : List V} {ds : List D} : Rep g M v d → ArgR g M H bs vs ds → ArgR g M H (false :: bs) (v :: vs) (d :: ds)
  | lent {v : V} {d : D} {bs : List Bool} {vs : List V} {ds : List D} : PRep g M H v d → ArgR g M H bs vs ds → ArgR g M H (true :: bs) (v :: vs) (d :: ds)
theorem argR_len {g : Gl0} {M H : Hp} : ∀ {bs : List Bool} {vs : List V} {ds : List D}, ArgR g M H bs vs ds → vs.length = bs.length
  | _, _, _, .nil => rfl
  | _, _, _, .held _ t => congrArg (· + 1) (argR_len t)
  | _, _, _, .lent _ t => congrArg (· + 1) (argR_len t)
theorem args_of {g : Gl0} {G : Gh} {e : En} {M H : Hp} {σ : L2.St} (r : Rel g G e M σ H) : ∀ {bs : List Bool} {os : List Opd} {xs : List V} {ds : List D}, okModes bs os = true → ress e os = some ds → OpdRs g M σ xs os → ArgR g M H bs xs ds
  | [], [], xs, ds, _, h, x => by cases x; cases h; exact .nil
  | [], _ :: _, _, _, h, _, _ => by cases h
  | _ :: _, [], _, _, h, _, _ => by cases h
  | b :: bs, o :: os, xs, ds, hm, h, x => by
    unfold okModes at hm
    rw [Bool.and_eq_true] at hm
    cases x with
    | cons x1 x2 =>
      have h' : (match res e o, ress e os with | some d, some ds => some (d :: ds) | _, _ => none) = some ds := h
      cases h1 : res e o with
      | none => rw [h1] at h'; cases h'
      | some d =>
        cases h2 : ress e os with
        | none => rw [h1, h2] at h'; cases h'
        | some ds' =>
          rw [h1, h2] at h'
          cases h'
          cases b with
          | true => exact .lent (r.res h1 x1) (args_of r hm.2 h2 x2)
          | false =>
            cases o with
            | dt d' => cases h1; exact .held x1 (args_of r hm.2 h2 x2)
            | sl i => exact absurd hm.1 Bool.false_ne_true
/-- what a call leaves: a value -/
def Gives (g : Gl0) (M H : Hp) (v : Vl) (Q : VK) : Prop := ∀ z M' H', Ext M H M' H' → PX g M H M' H' z v → (v.nw = true → ∀ q, z = .ref q → M' q = none) → Q z H'
def Throws (g : Gl0) (M H : Hp) (x : Exn) (E : XK) : Prop := ∀ c d M' H', Ext M H M' H' → ExR g M' c d x → E c d H'
def spFn (g : Gl0) (modes : List Bool) (f : List D → Res Vl) : Sp := fun vs H Q E => ∃ M ds, Sub M H ∧ ArgR g M H modes vs ds ∧ match f ds with
  | .ok v => Gives g M H v Q
  | .exc x => Throws g M H x E
  | .stuck => False
/-- all but the object at b grows -/
structure ExtB (b : Addr) (M H M' H' : Hp) : Prop where
  keep : ∀ a o, a ≠ b → H a = some o → H' a = some o
  mono : Sub M M'
  sub : Sub M' H'
  fresh : ∀ a, M' a ≠ none → M a ≠ none ∨ H a = none
def spBx (g : Gl0) (modes : List Bool) (f : D → List D → ResB) : Sp := fun vs H Q E => ∃ b o d0 M us ds, vs = .ref b :: us ∧ H b = some o ∧ RepO g M b o d0 ∧ M b = none ∧ Sub M H ∧ ArgR g M H modes us ds ∧ match f d0 ds with
  | .ok v d1 => ∀ z M' H' o', ExtB b M H M' H' → H' b = some o' → RepO g M' b o' d1 → PX g M H M' H' z v → (v.nw = true → ∀ q, z = .ref q → M' q = none) → Q z H'
  | .exc x => ∀ c d M' H', ExtB b M H M' H' → ExR g M' c d x → E c d H'
  | .stuck => False
section
variable {X : Cx} {cl : Str → Option Addr} {W : WX} {pos : Pos}
abbrev WAt (W : WX) (σ : L2.St) : XK := fun c d H => W c d σ H
/-- f(..) -/
theorem ve_call {CX : CXT} {k : Nat} {f : Addr} {fd : FuncData} {ps : List Str} {modes : List Bool} {F : List D → Res Vl} {x : Str} {p : Pos} {a : Expr} {es : List Expr} {ms : List (Sx Opd)} (FO : FnOk X.prog X.w X.K X.mg X.base CX k f fd ps (spFn (gl X cl) modes F)) (hr : Room k X.A) (hg : Gl X x) (hm : X.mg x = some (.ref f)) (hk : PySem.W.keepIn X.K (.ref f) = true) (hb : Binds X.K fd ps []) (hx : ∀ σ, PassesAt CX X σ (WAt W σ))
    (ha : PA X (a :: es) (tAs (gl X cl) W (sOps ms))) (hdb : (x == ("__debug__" : Str)) = false) (he : starEach (a :: es) X.env = (false, eval a X.env) :: starEach es X.env) (hpl : (backTo pos (starEach es X.env)).any (·.1) = false) :
    PE X (.Call (.Name x p) (a :: es) [] pos) (tE (gl X cl) W (sCall modes F ms)) :=
  PE_imp (pe_callSD (E := WAt W) FO hr hg hm hk hb .nil hx ha hdb he hpl) fun σ H Q ⟨G, e, M, r, h⟩ => by
    unfold sCall at h
    refine tG_last r h fun os e1 xs M1 H1 _ r1 _ x1 h1 => ?_
    by_cases hm : okModes modes os = true
    · rw [if_pos hm] at h1
      cases hr : ress e1 os with
      | none => rw [hr] at h1; exact h1.elim
      | some ds =>
        rw [hr] at h1
        have h1' : tPost (gl X cl) W (VR (gl X cl)) G σ Q (ofRes (F ds) e1) := h1
        refine ⟨M1, ds, r1.sub, by rw [List.append_nil]; exact args_of r1 hm hr x1, ?_⟩
        cases hF : F ds with
        | ok v =>
          rw [hF] at h1'
          intro z M' H' w px hn
          obtain ⟨q1, q2⟩ := r1.px w px hn
          exact h1' z M' H' q1 q2
        | exc x =>
          rw [hF] at h1'
          intro c d M' H' w xr
          exact h1' c d M' H' (r1.ext w) xr
        | stuck => rw [hF] at h1'; exact h1'
    · rw [if_neg hm] at h1
      exact h1.elim
theorem Rel.extB {g : Gl0} {G : Gh} {e : En} {M H M' H' : Hp} {σ : L2.St} (r : Rel g G e M σ H) {i : Nat} {s s' : Slot} {b : Addr} {d d' : D} {o' : HO} (hs : e[i]? = some s) (hb : σ[i]? = some (some (.ref b))) (hd : (s = .ow d ∧ s' = .ow d') ∨ (s = .bx d ∧ s' = .bx d')) (w : ExtB b M H M' H') (hb' : H' b = some o') (ro : RepO g M' b o' d') : Rel g G (e.set i s') M' σ H' := by
  have so : s.own := by rcases hd with ⟨rfl, _⟩ | ⟨rfl, _⟩ <;> trivial
  have own : Owns e σ i b := ⟨s, hs, so, hb⟩
  obtain ⟨mb, _, o, hb0⟩ := r.owned own
  have mb' : M' b = none := by
    cases q : M' b with
    | none => rfl
    | some u =>
      rcases w.fresh b (by rw [q]; exact Option.some_ne_none u) with z | z
      · exact absurd mb z
      · rw [hb0] at z; cases z
  have w' : Ext M H M' (upd H' b o) := by
    refine ⟨fun a u q => ?_, w.mono, fun a u q => ?_, w.fresh⟩
    · by_cases z : a = b
      · subst z; rw [upd_same]; rw [hb0] at q; exact q
      · rw [upd_ne z]; exact w.keep a u z q
    · by_cases z : a = b
      · subst z; rw [mb'] at q; cases q
      · rw [upd_ne z]; exact w.sub a u q
  have r' := (r.ext w').mut (s' := s') (o' := o') (d' := d') hs hb (by rcases hd with ⟨e1, e2⟩ | ⟨e1, e2⟩; exact .inl ⟨d, e1, e2⟩; exact .inr ⟨d, e1, e2⟩) ro
  have eH : upd (upd H' b o) b o' = H' := by
    funext a
    by_cases z : a = b
    · subst z; rw [upd_same, hb']
    · rw [upd_ne z, upd_ne z]
  rw [eH] at r'
  exact r'
theorem px_new {g : Gl0} {G : Gh} {e : En} {M H M' H' : Hp} {σ : L2.St} {v : Vl} {z : V} (r : Rel g G e M σ H) (r' : Rel g G e M' σ H' ∨ True) (px : PX g M H M' H' z v) (hn : v.nw = true → ∀ q, z = .ref q → M' q = none) (own : ∀ i a, Owns e σ i a → H a ≠ none) : VR g G e M' σ H' z v := by
  obtain ⟨d, b⟩ := v
  cases b with
  | false => exact px
  | true =>
    obtain ⟨p, o, rfl, hp, hp', ro⟩ := px
    exact ⟨p, o, rfl, hp', ro, hn rfl p rfl, r.h0none hp, fun z => r.bl p z hp, fun z => (r.lent p z).1 hp, fun i q => own i p q hp⟩
theorem VR.setE {g : Gl0} {G : Gh} {e : En} {M H : Hp} {σ : L2.St} {v : Vl} {z : V} {i : Nat} {s s' : Slot} (h : VR g G e M σ H z v) (hs : e[i]? = some s) (so : s'.own → s.own) : VR g G (e.set i s') M σ H z v := by
  obtain ⟨d, b⟩ := v
  cases b with
  | false => exact h
  | true =>
    obtain ⟨p, o, rfl, hp, ro, mp, h0, nb, nr, ne⟩ := h
    exact ⟨p, o, rfl, hp, ro, mp, h0, nb, nr, fun j q => ne j (owns_setE hs q so)⟩
/-- f(box, ..), f changes the box -/
theorem ve_callB' {CX : CXT} {k : Nat} {f : Addr} {fd : FuncData} {ps : List Str} {modes : List Bool} {F : D → List D → ResB} {x : Str} {p : Pos} {i : Nat} {a : Expr} {es : List Expr} {ms : List (Sx Opd)} (FO : FnOk X.prog X.w X.K X.mg X.base CX k f fd ps (spBx (gl X cl) modes F)) (hr : Room k X.A) (hg : Gl X x) (hm : X.mg x = some (.ref f)) (hk : PySem.W.keepIn X.K (.ref f) = true) (hb : Binds X.K fd ps []) (hx : ∀ σ, PassesAt CX X σ (WAt W σ))
    (ha : PA X (a :: es) (tAs (gl X cl) W (sOps (oName i :: ms)))) (hdb : (x == ("__debug__" : Str)) = false) (he : starEach (a :: es) X.env = (false, eval a X.env) :: starEach es X.env) (hpl : (backTo pos (starEach es X.env)).any (·.1) = false) :
    PE X (.Call (.Name x p) (a :: es) [] pos) (tE (gl X cl) W (sCallB modes F i ms)) :=
  PE_imp (pe_callSD (E := WAt W) FO hr hg hm hk hb .nil hx ha hdb he hpl) fun σ H Q ⟨G, e, M, r, h⟩ => by
    unfold sCallB at h
    refine tG_last r h fun os e1 xs M1 H1 hq r1 _ x1 h1 => ?_
    -- the first operand is the slot
    have hos : ∃ os', os = .sl i :: os' := by
      unfold sOps at hq
      cases q : oName i e with
      | stuck => rw [q] at hq; cases hq
      | exc x e' => rw [q] at hq; cases hq
      | ok o e' =>
        rw [q] at hq
        have ho : o = .sl i := by
          unfold oName at q
          split at q
          · split at q
            · cases q; rfl
            · cases q
          · cases q
        subst ho
        cases q2 : sOps ms e' with
        | stuck => rw [Out.bind_ok, q2] at hq; cases hq
        | exc x e' => rw [Out.bind_ok, q2] at hq; cases hq
        | ok os' e'' => rw [Out.bind_ok, q2] at hq; cases hq; exact ⟨os', rfl⟩
    obtain ⟨os', rfl⟩ := hos
    cases x1 with
    | cons xa xr =>
      rename_i y ys
      have h1' : tPost (gl X cl) W (VR (gl X cl)) G σ Q (if okModes modes os' = true then (match ress e1 os', e1[i]? with
        | some ds, some (.ow d) => (match F d ds with
          | .ok v d' => .ok v (e1.set i (.ow d'))
          | _ => .stuck)
        | some ds, some (.bx d) => (match F d ds with
          | .ok v d' => .ok v (e1.set i (.bx d'))
          | _ => .stuck)
        | _, _ => .stuck) else .stuck) := h1
      by_cases hm : okModes modes os' = true
      · rw [if_pos hm] at h1'
        cases hr : ress e1 os' with
        | none => rw [hr] at h1'; exact h1'.elim
        | some ds =>
          have ar := args_of r1 hm hr xr
          rw [hr] at h1'
          cases hs : e1[i]? with
          | none => rw [hs] at h1'; exact h1'.elim
          | some s =>
            rw [hs] at h1'
            have hσ : σ[i]? = some (some y) := xa
            have sl := r1.slot i s _ hs hσ
            have go : ∀ (b : Addr) (o : HO) (d : D) (mk : D → Slot), y = .ref b → H1 b = some o → RepO (gl X cl) M1 b o d → M1 b = none → s.own → (∀ d', (s = .ow d ∧ mk d' = .ow d') ∨ (s = .bx d ∧ mk d' = .bx d')) →
                tPost (gl X cl) W (VR (gl X cl)) G σ Q (match F d ds with | .ok v d' => Out.ok v (e1.set i (mk d')) | _ => .stuck) → spBx (gl X cl) modes F (y :: ys ++ []) H1 Q (WAt W σ) := by
              intro b o d mk ey hb ro mb so hk h2
              subst ey
              refine ⟨b, o, d, M1, ys, ds, by rw [List.append_nil], hb, ro, mb, r1.sub, ar, ?_⟩
              cases hF : F d ds with
              | ok v d' =>
                rw [hF] at h2
                intro z M' H' o' w hb' ro' px hn
                have r2 := r1.extB hs hσ (hk d') w hb' ro'
                have vr : VR (gl X cl) G e1 M' σ H' z v := px_new r1 (.inr trivial) px hn fun j a q => by
                  obtain ⟨_, _, o', h'⟩ := r1.owned q
                  rw [h']; exact Option.some_ne_none o'
                exact h2 z M' H' r2 (vr.setE hs fun _ => so)
              | exc x => rw [hF] at h2; exact h2.elim
              | stuck => rw [hF] at h2; exact h2.elim
            cases s with
            | ow d =>
              obtain ⟨b, o, e2, hb, ro, mb, _⟩ := sl
              cases e2
              exact go b o d Slot.ow rfl hb ro mb trivial (fun d' => .inl ⟨rfl, rfl⟩) h1'
            | bx d =>
              obtain ⟨b, o, e2, hb, ro, mb, _⟩ := sl
              cases e2
              exact go b o d Slot.bx rfl hb ro mb trivial (fun d' => .inr ⟨rfl, rfl⟩) h1'
            | _ => exact h1'.elim
      · rw [if_neg hm] at h1'
        exact h1'.elim
/-- C(..) -/
theorem ve_make {CX : CXT} {k : Nat} {C f : Addr} {fd : FuncData} {ps : List Str} {modes : List Bool} {F : D → List D → ResB} {c x : Str} {p : Pos} {a : Expr} {es : List Expr} {ms : List (Sx Opd)} (hc : cl c = some C) (MK : Mk X.K C f) (FO : FnOk X.prog X.w X.K X.mg X.base CX k f fd ps (spBx (gl X cl) modes F)) (hr : Room (k + 1) X.A) (hg : Gl X x) (hm : X.mg x = some (.ref C)) (hb : Binds X.K fd ps [])
    (hpm : ∀ (t : TA), PA X (a :: es) t → PE X (.Call (.Name x p) (a :: es) [] pos) (fun σ H Q => tMake C (spBx (gl X cl) modes F) [] (WAt W σ) t σ H Q))
    (ha : PA X (a :: es) (tAs (gl X cl) W (sOps ms))) :
    PE X (.Call (.Name x p) (a :: es) [] pos) (tE (gl X cl) W (sMake c modes F ms)) :=
  PE_imp (hpm _ ha) fun σ H Q ⟨G, e, M, r, h⟩ => by
    unfold sMake at h
    refine tG_last r h fun os e1 xs M1 H1 _ r1 _ x1 h1 => ?_
    intro b dx hb0 hdx0 hne
    have r2 : Ext M1 H1 M1 (upd (upd H1 dx (.own b)) b (.ins C dx [])) := by
      have w1 : Ext M1 H1 M1 (upd H1 dx (.own b)) := .new r1.sub hdx0
      exact w1.trans (.new w1.sub (by rw [upd_ne hne.symm]; exact hb0))
    by_cases hm : okModes modes os = true
    · rw [if_pos hm] at h1
      cases hr : ress e1 os with
      | none => rw [hr] at h1; exact h1.elim
      | some ds =>
        rw [hr] at h1
        have ar := args_of (r1.ext r2) hm hr x1
        have h1' : tPost (gl X cl) W (VR (gl X cl)) G σ Q (match F (.obj c []) ds with
          | .ok v d' => (match v.d with
            | .non => .ok (nw d') e1
            | _ => .stuck)
          | .exc x => .exc x e1
          | .stuck => .stuck) := h1
        refine ⟨b, _, .obj c [], M1, xs, ds, by rw [List.append_nil], upd_same, .obj hc .nil, r1.sub.none hb0, r2.sub, ar, ?_⟩
        have tr : ∀ {M' H' : Hp}, ExtB b M1 (upd (upd H1 dx (.own b)) b (.ins C dx [])) M' H' → Ext M1 H1 M' H' := fun {M' H'} w => by
          refine ⟨fun a o q => ?_, w.mono, w.sub, fun a q => ?_⟩
          · have nb : a ≠ b := ne_of_none q hb0
            exact w.keep a o nb (r2.keep a o q)
          · rcases w.fresh a q with z | z
            · exact .inl z
            · by_cases e : a = b
              · subst e; exact .inr hb0
              · rw [upd_ne e] at z
                by_cases e' : a = dx
                · subst e'; exact .inr hdx0
                · rw [upd_ne e'] at z; exact .inr z
        cases hF : F (.obj c []) ds with
        | ok v d1 =>
          rw [hF] at h1'
          intro z M' H' o' w hb' ro' px hn
          obtain ⟨dv, bv⟩ := v
          cases dv with
          | non =>
            refine ⟨?_, ?_⟩
            · cases bv with
              | false => cases px; rfl
              | true => obtain ⟨p, o, _, _, _, ro⟩ := px; cases ro
            · have mb : M' b = none := by
                cases q : M' b with
                | none => rfl
                | some u =>
                  rcases w.fresh b (by rw [q]; exact Option.some_ne_none u) with z | z
                  · exact absurd (r1.sub.none hb0) z
                  · rw [upd_same] at z; cases z
              obtain ⟨q1, q2⟩ := r1.px (v := nw d1) (tr w) ⟨b, o', rfl, hb0, hb', ro'⟩ (fun _ q e => by cases e; exact mb)
              exact h1' _ M' H' q1 q2
          | _ => exact h1'.elim
        | exc x =>
          rw [hF] at h1'
          intro c' d M' H' w xr
          exact h1' c' d M' H' (r1.ext (tr w)) xr
        | stuck => rw [hF] at h1'; exact h1'
    · rw [if_neg hm] at h1
      exact h1.elim
end
end Ev
set_option Elab.async false
set_option linter.all false
set_option autoImplicit false
set_option maxRecDepth 100000
/-! What is walked; comprehensions. -/
namespace Ev
open PySem L2
/-! ### what is walked -/
structure Src where
  items : List D
  chk : Option (Nat × D)
def Src.ok (s : Src) (e : En) : Prop := match s.chk with
  | none => True
  | some (i, d) => res e (.sl i) = some d
structure JOk (g : Gl0) (J : It) (items : List D) (S : Hp → Hp → Prop) : Prop where
  go : ∀ i M H, S M H → Sub M H → i < items.length → J.go i H
  stop : ∀ M H, S M H → Sub M H → J.stop items.length H
  yld : ∀ i M H x H', S M H → Sub M H → J.yld i H x H' → ∀ d, items[i]? = some d → ∃ M', Ext M H M' H' ∧ Rep g M' x d
def SrcR (g : Gl0) : RR Src It := fun _ e M σ H J s => ∃ S : Hp → Hp → Prop, JOk g J s.items S ∧ s.items.length ≤ sizeLine ∧
  ∀ G' e' M' H' σ', Rel g G' e' M' σ' H' → Sub M M' → s.ok e' → (∀ i d, s.chk = some (i, d) → σ'[i]? = σ[i]?) → S M' H'
def tI (g : Gl0) (W : WX) (f : Sx Src) : TI := tG g W (SrcR g) f
def chkOf : Opd → D → Option (Nat × D)
  | .sl i, d => some (i, d)
  | .dt _, _ => none
def signs (z : Str) : List D := z.cps.toList.map fun c => .str ⟨#[c]⟩
def sSeq (m : Sx Opd) : Sx Src := fun e => (m e).bind fun o e => match res e o with
  | some (.lst ds) => .ok ⟨ds, chkOf o (.lst ds)⟩ e
  | some (.tup ds) => .ok ⟨ds, chkOf o (.tup ds)⟩ e
  | some (.str z) => .ok ⟨signs z, none⟩ e
  | _ => .stuck
def iSeq (K : PySem.W.Frag) (tl : TE) : TI := fun σ H R => tl σ H fun x H1 => (∃ a, x = .ref a ∧ (∃ xs, SqL K H1 a xs) ∧ R (Itl K a) H1) ∨ (∃ a, x = .ref a ∧ (∃ xs, SqT K H1 a xs) ∧ R (Itt K a) H1) ∨ ∃ z, x = .str z ∧ R (Its z) H1
theorem jok_list {g : Gl0} {a : Addr} {ds : List D} : JOk g (Itl g.K a) ds (fun M H => PRep g M H (.ref a) (.lst ds)) where
  go := fun i M H st sm hi => by
    obtain ⟨b, vs, e, hs, hr, _⟩ := st.lst sm
    cases e
    obtain ⟨v, hv, _⟩ := hr.get (List.getElem?_eq_getElem hi)
    exact ⟨vs, v, .of hs, hv⟩
  stop := fun M H st sm => by
    obtain ⟨b, vs, e, hs, hr, _⟩ := st.lst sm
    cases e
    exact ⟨vs, .of hs, by rw [hr.length]; exact Nat.le_refl _⟩
  yld := fun i M H x H' st sm y d hd => by
    obtain ⟨b, vs, e, hs, hr, _⟩ := st.lst sm
    cases e
    obtain ⟨e, y⟩ := y
    subst e
    obtain ⟨v, hv, rv⟩ := hr.get hd
    have := y vs (.of hs)
    rw [hv] at this; cases this
    exact ⟨M, .refl sm, rv⟩
theorem jok_tup {g : Gl0} {a : Addr} {ds : List D} : JOk g (Itt g.K a) ds (fun M H => PRep g M H (.ref a) (.tup ds)) where
  go := fun i M H st sm hi => by
    obtain ⟨b, vs, e, hs, hr, _⟩ := st.tup sm
    cases e
    obtain ⟨v, hv, _⟩ := hr.get (List.getElem?_eq_getElem hi)
    exact ⟨vs, v, hs, hv⟩
  stop := fun M H st sm => by
    obtain ⟨b, vs, e, hs, hr, _⟩ := st.tup sm
    cases e
    exact ⟨vs, hs, by rw [hr.length]; exact Nat.le_refl _⟩
  yld := fun i M H x H' st sm y d hd => by
    obtain ⟨b, vs, e, hs, hr, _⟩ := st.tup sm
    cases e
    obtain ⟨e, y⟩ := y
    subst e
    obtain ⟨v, hv, rv⟩ := hr.get hd
    have := y vs hs
    rw [hv] at this; cases this
    exact ⟨M, .refl sm, rv⟩
theorem jok_str {g : Gl0} {z : Str} (hz : PyData.strOk z = true) : JOk g (Its z) (signs z) (fun _ _ => True) where
  go := fun i M H _ _ hi => by
    show i < z.cps.size
    unfold signs at hi
    rw [List.length_map, Array.length_toList] at hi
    exact hi
  stop := fun M H _ _ => by
    show z.cps.size ≤ (signs z).length
    unfold signs
    rw [List.length_map, Array.length_toList]
    exact Nat.le_refl _
  yld := fun i M H x H' _ sm y d hd => by
    obtain ⟨e, c, hc, rfl⟩ := y
    subst e
    unfold signs at hd
    rw [List.getElem?_map, Array.getElem?_toList, hc] at hd
    cases hd
    exact ⟨M, .refl sm, .str _ ⟨strOk_one hz (by rw [← Array.getElem?_toList] at hc; exact List.mem_of_getElem? hc), by rw [sizeLine_eq]; exact (show (1 : Nat) ≤ 16777216 by decide)⟩⟩
theorem jok_range {g : Gl0} {lo : Int} {n : Nat} : JOk g (Itr lo n) ((List.range n).map fun k => D.int (lo + (k : Nat))) (fun _ _ => True) where
  go := fun i M H _ _ hi => by
    show i < n
    rw [List.length_map, List.length_range] at hi
    exact hi
  stop := fun M H _ _ => by
    show n ≤ _
    rw [List.length_map, List.length_range]
    exact Nat.le_refl _
  yld := fun i M H x H' _ sm y d hd => by
    obtain ⟨e, rfl⟩ := y
    subst e
    rw [List.getElem?_map] at hd
    cases hr : (List.range n)[i]? with
    | none => rw [hr] at hd; cases hd
    | some k =>
      rw [hr] at hd
      have : k = i := by
        have := List.getElem?_eq_some_iff.mp hr
        obtain ⟨h1, h2⟩ := this
        rw [List.getElem_range] at h2
        exact h2.symm
      subst this
      cases hd
      exact ⟨M, .refl sm, .int _⟩
section
variable {X : Cx} {cl : Str → Option Addr} {W : WX} {tg : Expr}
theorem pi_seq {l : Expr} {tl : TE} (hl : PE X l tl) : PI X tg l (iSeq X.K tl) := by
  refine ⟨fun pins s σ H R I h => ?_⟩
  refine thn (hl.run pins s σ H _ I h) fun v s1 ⟨x, H1, I1, r1, q1⟩ => ?_
  rcases q1 with ⟨a, e, ⟨xs, hq⟩, q⟩ | ⟨a, e, ⟨xs, hq⟩, q⟩ | ⟨z, e, q⟩
  · subst e
    cases r1
    obtain ⟨its, rv, p, hz⟩ := I1.list hq
    refine wpAny_pyIter_list p.isList ?_
    refine ⟨s1.heap.objs.size, [s1.heap.objs.size], _, _, H1, rfl, I1.kept (t' := s1.toks) fun b o e => Heap.get?_push_of_some _ e, turn_list a _, ⟨_, Heap.get?_push_size _ rfl, rfl, rfl⟩, fun b hb => ?_, q⟩
    have e : b = s1.heap.objs.size := by simpa using hb
    subst e
    exact I1.fpOk (Nat.le_refl _) (I1.hok.fresh (Nat.le_refl _))
  · subst e
    cases r1
    obtain ⟨its, rv, p, hz⟩ := I1.tuple hq
    refine wpAny_pyIter_tuple (show s1.heap.IsTuple a its.toArray from p) ?_
    refine ⟨s1.heap.objs.size, [s1.heap.objs.size], _, _, H1, rfl, I1.kept (t' := s1.toks) fun b o e => Heap.get?_push_of_some _ e, turn_tuple a _, ⟨_, Heap.get?_push_size _ rfl, rfl, rfl⟩, fun b hb => ?_, q⟩
    have e : b = s1.heap.objs.size := by simpa using hb
    subst e
    exact I1.fpOk (Nat.le_refl _) (I1.hok.fresh (Nat.le_refl _))
  · subst e
    obtain ⟨t, rfl⟩ := r1
    cases ha : z.cps.all (· < 128)
    · exact wpAny_pyIter_wide ha (pi_one (tk := s1.toks) I1 _ (turn_str _ z t "str_iterator" (.inr rfl)) ⟨_, Heap.get?_push_size _ rfl, rfl, rfl⟩ q)
    · exact wpAny_pyIter_ascii ha (pi_one (tk := s1.toks) I1 _ (turn_str _ z t "str_ascii_iterator" (.inl rfl)) ⟨_, Heap.get?_push_size _ rfl, rfl, rfl⟩ q)
theorem PI_imp {e : Expr} {t t' : TI} (h : PI X tg e t) (k : ∀ σ H Q, t' σ H Q → t σ H Q) : PI X tg e t' := ⟨fun pins s σ H Q I w => h.run pins s σ H Q I (k σ H Q w)⟩
theorem vi_seq {l : Expr} {m : Sx Opd} (h : PE X l (tO (gl X cl) W m)) : PI X tg l (tI (gl X cl) W (sSeq m)) :=
  PI_imp (pi_seq h) fun σ H Q ⟨G, e, M, r, h⟩ => by
    unfold sSeq at h
    refine tG_last r h fun o e1 x M1 H1 _ r1 _ x1 h1 => ?_
    have per : ∀ (d : D), res e1 o = some d → ∀ G' e' M' H' σ', Rel (gl X cl) G' e' M' σ' H' → Sub M1 M' → (Src.mk [] (chkOf o d)).ok e' → (∀ i d', chkOf o d = some (i, d') → σ'[i]? = σ[i]?) → PRep (gl X cl) M' H' x d := by
      intro d hd G' e' M' H' σ' r' sm hok hσ
      cases o with
      | dt d' => cases hd; exact .inl (Rep.mono sm x1)
      | sl i => exact r'.res hok (by show σ'[i]? = some (some x); rw [hσ i d rfl]; exact x1)
    cases hr : res e1 o with
    | none => rw [hr] at h1; exact h1.elim
    | some d =>
      rw [hr] at h1
      have pr := r1.res hr x1
      cases d with
      | lst ds =>
        obtain ⟨a, vs, rfl, hs, _, hz⟩ := pr.lst r1.sub
        exact .inl ⟨a, rfl, ⟨vs, .of hs⟩, h1 _ M1 H1 r1 ⟨_, jok_list, hz, fun G' e' M' H' σ' q1 q2 q3 q4 => per _ hr G' e' M' H' σ' q1 q2 q3 q4⟩⟩
      | tup ds =>
        obtain ⟨a, vs, rfl, hs, _, _, hz⟩ := pr.tup r1.sub
        exact .inr (.inl ⟨a, rfl, ⟨vs, hs⟩, h1 _ M1 H1 r1 ⟨_, jok_tup, hz, fun G' e' M' H' σ' q1 q2 q3 q4 => per _ hr G' e' M' H' σ' q1 q2 q3 q4⟩⟩)
      | str z =>
        obtain ⟨rfl, e2, e3⟩ := pr.str
        exact .inr (.inr ⟨z, rfl, h1 _ M1 H1 r1 ⟨_, jok_str e2, by show (signs z).length ≤ _; unfold signs; rw [List.length_map, Array.length_toList]; exact e3, fun _ _ _ _ _ _ _ _ _ => trivial⟩⟩)
      | _ => exact h1.elim
/-- range(n), range(a, b) -/
def sRange (ms : List (Sx Opd)) : Sx Src := fun e => (sArgs ms e).bind fun ds e => match ds with
  | [.int j] => if -(2 ^ 62) ≤ j ∧ j < 2 ^ 62 ∧ j.toNat ≤ sizeLine then .ok ⟨(List.range j.toNat).map fun (k : Nat) => .int (0 + (k : Nat)), none⟩ e else .stuck
  | [.int i, .int j] => if (-(2 ^ 62) ≤ i ∧ i < 2 ^ 62 ∧ -(2 ^ 62) ≤ j ∧ j < 2 ^ 62) ∧ (j - i).toNat ≤ sizeLine then .ok ⟨(List.range (j - i).toNat).map fun (k : Nat) => .int (i + (k : Nat)), none⟩ e else .stuck
  | _ => .stuck
theorem range_end {g : Gl0} {G : Gh} {e1 : En} {M H : Hp} {σ : L2.St} {α : Type} {R : RR α It} {Q : It → Hp → Prop} {os : List Opd} {xs : List V} {f : List D → En → Out α} (r1 : Rel g G e1 M σ H) (x1 : OpdRs g M σ xs os)
    (h1 : tPost g W R G σ Q ((match ress e1 os with | some ds => Out.ok ds e1 | none => .stuck).bind f)) : ∃ ds, PReps g M H xs ds ∧ tPost g W R G σ Q (f ds e1) := by
  cases hr : ress e1 os with
  | none => rw [hr] at h1; exact h1.elim
  | some ds => rw [hr] at h1; exact ⟨ds, r1.ress hr x1, h1⟩
theorem vi_range1 {a : Expr} {m : Sx Opd} {p pos : Pos} (hg : Gl X "range") (hm : X.mg "range" = none) (ha : PA X [a] (tAs (gl X cl) W (sOps [m]))) (hs : starEach [a] X.env = [(false, eval a X.env)]) : PI X tg (.Call (.Name "range" p) [a] [] pos) (tI (gl X cl) W (sRange [m])) :=
  PI_imp (pi_range1 hg hm ha hs) fun σ H Q ⟨G, e, M, r, h⟩ => by
    unfold sRange sArgs at h
    rw [Out.bind_assoc] at h
    refine tG_last r h fun os e1 xs M1 H1 hq r1 _ x1 h1 => ?_
    obtain ⟨ds, pr, h2⟩ := range_end r1 x1 h1
    cases pr with
    | nil => exact h2.elim
    | cons q1 q2 =>
      rename_i x xs' d ds'
      cases q2 with
      | nil =>
        cases d with
        | int j =>
          have h2' : tPost (gl X cl) W (SrcR (gl X cl)) G σ Q (if -(2 ^ 62) ≤ j ∧ j < 2 ^ 62 ∧ j.toNat ≤ sizeLine then Out.ok ⟨(List.range j.toNat).map fun (k : Nat) => .int (0 + (k : Nat)), none⟩ e1 else .stuck) := h2
          split at h2'
          · rename_i hc
            refine ⟨j, by rw [q1.int], hc.1, hc.2.1, h2' _ M1 H1 r1 ⟨_, jok_range, by rw [List.length_map, List.length_range]; exact hc.2.2, fun _ _ _ _ _ _ _ _ _ => trivial⟩⟩
          · exact h2'.elim
        | _ => exact h2.elim
      | cons q2 q3 =>
        -- two values of one operand: cannot be
        exfalso
        unfold sOps at hq
        cases q : m e with
        | stuck => rw [q] at hq; cases hq
        | exc x e' => rw [q] at hq; cases hq
        | ok o e' =>
          rw [q, Out.bind_ok] at hq
          unfold sOps at hq
          rw [Out.bind_ok] at hq
          cases hq
          cases x1 with
          | cons _ x2 => cases x2
theorem vi_range2 {a b : Expr} {m n : Sx Opd} {p pos : Pos} (hg : Gl X "range") (hm : X.mg "range" = none) (ha : PA X [a, b] (tAs (gl X cl) W (sOps [m, n]))) (hs : starEach [a, b] X.env = [(false, eval a X.env), (false, eval b X.env)]) (hs2 : starEach [b] X.env = [(false, eval b X.env)]) : PI X tg (.Call (.Name "range" p) [a, b] [] pos) (tI (gl X cl) W (sRange [m, n])) :=
  PI_imp (pi_range2 hg hm ha hs hs2) fun σ H Q ⟨G, e, M, r, h⟩ => by
    unfold sRange sArgs at h
    rw [Out.bind_assoc] at h
    refine tG_last r h fun os e1 xs M1 H1 hq r1 _ x1 h1 => ?_
    obtain ⟨ds, pr, h2⟩ := range_end r1 x1 h1
    have two : os.length = 2 := by
      unfold sOps at hq
      cases q : m e with
      | stuck => rw [q] at hq; cases hq
      | exc x e' => rw [q] at hq; cases hq
      | ok o e' =>
        rw [q, Out.bind_ok] at hq
        unfold sOps at hq
        cases q' : n e' with
        | stuck => rw [q'] at hq; cases hq
        | exc x e' => rw [q'] at hq; cases hq
        | ok o' e'' =>
          rw [q', Out.bind_ok] at hq
          unfold sOps at hq
          rw [Out.bind_ok] at hq
          cases hq
          rfl
    have l2 : ds.length = 2 := by
      have : ∀ {xs : List V} {os : List Opd}, OpdRs (gl X cl) M1 σ xs os → xs.length = os.length := by
        intro xs os h
        induction h with
        | nil => rfl
        | cons _ _ ih => simp [ih]
      rw [← preps_len pr, this x1, two]
    match ds, l2, pr, h2 with
    | [d, d'], _, pr, h2 =>
      obtain ⟨x, y, rfl, q1, q2⟩ := preps2' pr
      cases d with
      | int i =>
        cases d' with
        | int j =>
          have h2' : tPost (gl X cl) W (SrcR (gl X cl)) G σ Q (if (-(2 ^ 62) ≤ i ∧ i < 2 ^ 62 ∧ -(2 ^ 62) ≤ j ∧ j < 2 ^ 62) ∧ (j - i).toNat ≤ sizeLine then Out.ok ⟨(List.range (j - i).toNat).map fun (k : Nat) => .int (i + (k : Nat)), none⟩ e1 else .stuck) := h2
          split at h2'
          · rename_i hc
            exact ⟨i, j, by rw [q1.int, q2.int], hc.1, h2' _ M1 H1 r1 ⟨_, jok_range, by rw [List.length_map, List.length_range]; exact hc.2, fun _ _ _ _ _ _ _ _ _ => trivial⟩⟩
          · exact h2'.elim
        | _ => exact h2.elim
      | _ => exact h2.elim
end
end Ev
set_option Elab.async false
set_option linter.all false
set_option autoImplicit false
set_option maxRecDepth 100000
/-! Targets, comprehensions. -/
namespace Ev
open PySem L2
/-! ### targets -/
inductive Tg where
  | one (i : Nat) | many (is : List Nat)
def setMany : List Nat → List D → En → Option En
  | [], [], e => some e
  | i :: is, d :: ds, e => setMany is ds (e.set i (.sh d))
  | _, _, _ => none
def setTg : Tg → D → En → Option En
  | .one i, d, e => some (e.set i (.sh d))
  | .many is, .tup ds, e => setMany is ds e
  | .many _, _, _ => none
def Tg.ix : Tg → List Nat
  | .one i => [i]
  | .many is => is
/-- outside vs the same -/
def Same' (vs : List Nat) (σ σ' : L2.St) : Prop := σ'.length = σ.length ∧ ∀ j, j ∉ vs → σ'[j]? = σ[j]?
theorem Same'.refl {vs : List Nat} {σ : L2.St} : Same' vs σ σ := ⟨rfl, fun _ _ => rfl⟩
theorem Same'.trans {vs : List Nat} {a b c : L2.St} (x : Same' vs a b) (y : Same' vs b c) : Same' vs a c := ⟨y.1.trans x.1, fun j h => (y.2 j h).trans (x.2 j h)⟩
theorem Same'.set {vs : List Nat} {σ : L2.St} {i : Nat} {x : Option V} (h : i ∈ vs) : Same' vs σ (σ.set i x) := ⟨by simp, fun j hj => by
  rw [List.getElem?_set_ne]
  rintro rfl
  exact hj h⟩
theorem wipe_get {vs : List Nat} {σ : L2.St} {j : Nat} : (wipe σ vs)[j]? = if j ∈ vs then (if j < σ.length then some none else none) else σ[j]? := by
  induction vs with
  | nil => simp [wipe]
  | cons v vs ih =>
    unfold wipe
    by_cases hj : v = j
    · subst hj
      rw [List.getElem?_set_self']
      simp only [List.mem_cons, true_or, if_true]
      have hl : (wipe σ vs).length = σ.length := wipe_length σ vs
      by_cases h : v < σ.length
      · rw [if_pos h, List.getElem?_eq_getElem (by rw [hl]; exact h)]; rfl
      · rw [if_neg h, List.getElem?_eq_none (by rw [hl]; omega)]; rfl
    · rw [List.getElem?_set_ne hj, ih]
      simp only [List.mem_cons]
      have : (j = v ∨ j ∈ vs) ↔ j ∈ vs := ⟨fun h => h.elim (fun e => absurd e.symm hj) id, .inr⟩
      simp only [this]
theorem wipe_same {vs : List Nat} {σ σ' : L2.St} (h : Same' vs σ σ') : wipe σ' vs = wipe σ vs := by
  apply List.ext_getElem?
  intro j
  rw [wipe_get, wipe_get, h.1]
  by_cases hj : j ∈ vs
  · rw [if_pos hj, if_pos hj]
  · rw [if_neg hj, if_neg hj, h.2 j hj]
theorem wipe_wipe {vs : List Nat} {σ : L2.St} : wipe (wipe σ vs) vs = wipe σ vs := wipe_same ⟨wipe_length σ vs, fun j hj => by rw [wipe_get, if_neg hj]⟩
section
variable {g : Gl0} {G : Gh} {e : En} {M H M' H' : Hp} {σ : L2.St}
theorem VR.ext {p : Addr} {d : D} (w : Ext M H M' H') (h : VR g G e M σ H (.ref p) (nw d)) : VR g G e M' σ H' (.ref p) (nw d) := by
  obtain ⟨q, o, e1, hp, ro, mp, h0, nb, nr, ne⟩ := h
  cases e1
  exact ⟨p, o, rfl, w.keep _ _ hp, ro.mono w.mono, w.none hp mp, h0, nb, nr, ne⟩
/-- a slot that becomes none of the owners -/
theorem VR.setN {p : Addr} {d : D} {i : Nat} {s : Slot} {x : Option V} (hl : e.length = σ.length) (h : VR g G e M σ H (.ref p) (nw d)) (hs : ¬ s.own) : VR g G (e.set i s) M (σ.set i x) H (.ref p) (nw d) := by
  obtain ⟨q, o, e1, hp, ro, mp, h0, nb, nr, ne⟩ := h
  cases e1
  refine ⟨p, o, rfl, hp, ro, mp, h0, nb, nr, fun j q => ?_⟩
  rcases owns_set hl q with ⟨_, z, _⟩ | ⟨_, z⟩
  · exact hs z
  · exact ne j z
theorem many_ok {n : Nat} : ∀ {is : List Nat} {ds : List D} {xs : List V} {e e' : En} {σ : L2.St} {p : Addr} {dp : D}, Reps g M xs ds → setMany is ds e = some e' → Rel g G e M σ H → VR g G e M σ H (.ref p) (nw dp) →
    ∃ σ', Rel g G e' M σ' H ∧ VR g G e' M σ' H (.ref p) (nw dp) ∧ Same' is σ σ' ∧ xs.length = is.length ∧ ∀ (Q : L2.St → Hp → Prop), Q σ' H → (is.foldr (fun i t => gCons (gName i) t) gNil) xs σ H Q
  | [], [], xs, e, e', σ, p, dp, hr, h, r, v => by
    cases hr
    cases h
    exact ⟨σ, r, v, .refl, rfl, fun Q q => ⟨rfl, q⟩⟩
  | [], _ :: _, _, _, _, _, _, _, _, h, _, _ => by cases h
  | _ :: _, [], _, _, _, _, _, _, _, h, _, _ => by cases h
  | i :: is, d :: ds, xs, e, e', σ, p, dp, hr, h, r, v => by
    cases hr with
    | cons r1 r2 =>
      rename_i x xs
      have r' := r.setSh (i := i) r1
      have v' := v.setN (i := i) (s := .sh d) (x := some x) r.len (fun z => z)
      obtain ⟨σ', q1, q2, q3, q4, q5⟩ := many_ok (n := n) r2 (show setMany is ds (e.set i (.sh d)) = some e' from h) r' v'
      refine ⟨σ', q1, q2, ?_, by simp [q4], fun Q q => ⟨x, xs, rfl, q5 Q q⟩⟩
      have s1 : Same' (i :: is) σ (σ.set i (some x)) := .set List.mem_cons_self
      exact s1.trans ⟨q3.1, fun j hj => q3.2 j fun z => hj (List.mem_cons_of_mem _ z)⟩
def gTg (K : PySem.W.Frag) : Tg → TG
  | .one i => gName i
  | .many is => gTup K is.length (is.foldr (fun i t => gCons (gName i) t) gNil)
/-- a target takes a value; what is new stays so -/
theorem tg_ok {t : Tg} {d : D} {x : V} {e' : En} {p : Addr} {dp : D} (hr : Rep g M x d) (h : setTg t d e = some e') (r : Rel g G e M σ H) (v : VR g G e M σ H (.ref p) (nw dp)) :
    ∃ σ', Rel g G e' M σ' H ∧ VR g G e' M σ' H (.ref p) (nw dp) ∧ Same' t.ix σ σ' ∧ ∀ (Q : L2.St → Hp → Prop), Q σ' H → gTg g.K t x σ H Q := by
  cases t with
  | one i =>
    cases h
    exact ⟨_, r.setSh hr, v.setN r.len (fun z => z), .set List.mem_cons_self, fun Q q => q⟩
  | many is =>
    cases d with
    | tup ds =>
      cases hr with
      | tup hs rr hz =>
        rename_i a vs
        obtain ⟨σ', q1, q2, q3, q4, q5⟩ := many_ok (n := 0) rr (show setMany is ds e = some e' from h) r v
        exact ⟨σ', q1, q2, q3, fun Q q => ⟨a, vs, rfl, r.sub.sqT hs, q4, q5 Q q⟩⟩
    | _ => cases h
end
/-! ### the comprehension's slots -/
def wipeE (vs : List Nat) (e : En) : En := match vs with
  | [] => e
  | v :: vs => (wipeE vs e).set v .unb
def hidOk (vs : List Nat) (e : En) : Bool := vs.all fun i => match e[i]? with
  | some .unb => true
  | some (.sh _) => true
  | _ => false
/-- the slots vs from e0, the others from e -/
def restoreE (vs : List Nat) (e0 e : En) : En := match vs with
  | [] => e
  | v :: vs => match e0[v]? with
    | some s => (restoreE vs e0 e).set v s
    | none => restoreE vs e0 e
section
variable {g : Gl0} {G : Gh} {e : En} {M H M' H' : Hp} {σ : L2.St}
theorem Rel.wipe (r : Rel g G e M σ H) : ∀ vs : List Nat, Rel g G (wipeE vs e) M (L2.wipe σ vs) H
  | [] => r
  | v :: vs => (r.wipe vs).setUnb v none
theorem VR.wipe {p : Addr} {d : D} (r : Rel g G e M σ H) (h : VR g G e M σ H (.ref p) (nw d)) : ∀ vs : List Nat, VR g G (wipeE vs e) M (L2.wipe σ vs) H (.ref p) (nw d)
  | [] => h
  | v :: vs => (VR.wipe r h vs).setN (r.wipe vs).len (fun z => z)
theorem wipeE_length (e : En) : ∀ vs : List Nat, (wipeE vs e).length = e.length
  | [] => rfl
  | v :: vs => by unfold wipeE; rw [List.length_set, wipeE_length e vs]
theorem wipeE_get {e : En} {j : Nat} : ∀ {vs : List Nat}, j ∉ vs → (wipeE vs e)[j]? = e[j]?
  | [], _ => rfl
  | v :: vs, h => by
    unfold wipeE
    rw [List.getElem?_set_ne (fun z => h (by rw [z]; exact List.mem_cons_self)), wipeE_get fun z => h (List.mem_cons_of_mem _ z)]
/-- the state between: the slots of a list put back, those still to come wiped -/
theorem Rel.restore {e0 : En} {M0 : Hp} {σ0 : L2.St} {H0 : Hp} {G0 : Gh} (r0 : Rel g G0 e0 M0 σ0 H0) : ∀ (vs : List Nat) {e : En} {σ : L2.St}, hidOk vs e0 = true → Rel g G e M σ H → Sub M0 M → Same' vs σ0 σ → Rel g G (restoreE vs e0 e) M σ0 H
  | [], e, σ, _, r, _, hs => by
    have : σ = σ0 := by
      apply List.ext_getElem?
      intro j
      exact hs.2 j (by simp)
    rw [← this]; exact r
  | v :: vs, e, σ, hh, r, sm, hs => by
    unfold hidOk at hh
    rw [List.all_cons, Bool.and_eq_true] at hh
    have hl : σ.length = σ0.length := hs.1
    -- put slot v back first in σ
    cases hv : e0[v]? with
    | none => rw [hv] at hh; exact absurd hh.1 (by simp)
    | some s =>
      obtain ⟨x, hx, hsl⟩ := r0.at hv
      -- from the state with v put back
      have key : ∀ (e1 : En), Rel g G e1 M σ H → Rel g G (e1.set v s) M (σ.set v x) H := fun e1 r1 => by
        rw [hv] at hh
        cases s with
        | unb => exact r1.setUnb v x
        | sh d =>
          obtain ⟨u, rfl, q⟩ := hsl
          exact r1.setSh (q.mono sm)
        | _ => exact absurd hh.1 (by simp)
      have r1 := key e r
      have s1 : Same' vs σ0 (σ.set v x) := ⟨by simp [hl], fun j hj => by
        by_cases h : v = j
        · subst h
          have : v < σ.length := by rw [hl]; exact (List.getElem?_eq_some_iff.mp hx).1
          rw [List.getElem?_set_self this, hx]
        · rw [List.getElem?_set_ne h]
          refine hs.2 j fun z => ?_
          rcases List.mem_cons.mp z with z | z
          · exact h z.symm
          · exact hj z⟩
      have r2 := Rel.restore r0 vs hh.2 r1 sm s1
      have comm : ∀ (vs : List Nat) (a : En), restoreE vs e0 (a.set v s) = (restoreE vs e0 a).set v s := by
        intro vs
        induction vs with
        | nil => intro a; rfl
        | cons u us ih =>
          intro a
          unfold restoreE
          cases hu : e0[u]? with
          | none => exact ih a
          | some t =>
            show (restoreE us e0 (a.set v s)).set u t = ((restoreE us e0 a).set u t).set v s
            rw [ih]
            by_cases huv : u = v
            · subst huv
              rw [hv] at hu
              cases hu
              rfl
            · rw [List.set_comm _ _ (fun z => huv z.symm)]
      rw [comm] at r2
      unfold restoreE
      rw [hv]
      exact r2
end
/-! ### comprehensions -/
def noX {α : Type} (m : Sx α) : Sx α := fun e => match m e with
  | .ok a e => .ok a e
  | _ => .stuck
open Classical in
noncomputable def compGo (s : Src) (vs : List Nat) (tg : Tg) (t : Sx Bool) (el : Sx Opd) : List D → En → Out (List D)
  | [], e => if s.ok e then .ok [] e else .stuck
  | x :: xs, e => if s.ok e then (match setTg tg x e with
    | none => .stuck
    | some e1 => (noX t e1).bind fun k e2 => if k = true then ((noX el e2).bind fun o e3 => match o with
        | .dt d => (compGo s vs tg t el xs (wipeE vs e3)).bind fun ds e4 => .ok (d :: ds) e4
        | .sl _ => .stuck)
      else compGo s vs tg t el xs (wipeE vs e2)) else .stuck
def Src.apart (s : Src) (vs : List Nat) : Bool := match s.chk with
  | none => true
  | some (i, _) => !vs.contains i
noncomputable def sComp (vs : List Nat) (tg : Tg) (s : Sx Src) (t : Sx Bool) (el : Sx Opd) : Sx Vl := fun e => (s e).bind fun src e1 => if (hidOk vs e1 && src.apart vs && tg.ix.all vs.contains) = true then
    ((compGo src vs tg t el src.items (wipeE vs e1)).bind fun ds e2 => .ok (nw (.lst ds)) (restoreE vs e1 e2)) else .stuck
theorem Rel.upT {g : Gl0} {G : Gh} {e : En} {M H : Hp} {σ : L2.St} {p : Addr} {d : D} (r : Rel g G e M σ H) (h : VR g G e M σ H (.ref p) (nw d)) {o' : HO} {d' : D} (ro : RepO g M p o' d') : Rel g G e M σ (upd H p o') ∧ VR g G e M σ (upd H p o') (.ref p) (nw d') := by
  obtain ⟨q, o, e1, hp, _, mp, h0, nb, nr, ne⟩ := h
  cases e1
  have na : ∀ a u, M a = some u → a ≠ p := fun a u q z => by subst z; rw [mp] at q; cases q
  refine ⟨⟨fun a u q => by rw [upd_ne (na a u q)]; exact r.sub a u q, fun a u q b => ?_, fun a q => ?_, r.fresh, r.base, fun i s x h1 h2 => ?_, r.len, r.dist, fun a q => ?_, fun a q => ?_⟩, ⟨p, o', rfl, upd_same, ro, mp, h0, nb, nr, ne⟩⟩
  · rw [upd_ne]
    · exact r.keep a u q b
    · rintro rfl; rw [h0] at q; cases q
  · by_cases z : a = p
    · subst z; rw [upd_same]; exact Option.some_ne_none _
    · rw [upd_ne z]; exact r.live a q
  · have q := r.slot i s x h1 h2
    cases s with
    | unb => trivial
    | sh d => exact q
    | ow d =>
      obtain ⟨a, o, e1, q, rr, n, z⟩ := q
      refine ⟨a, o, e1, ?_, rr, n, z⟩
      rw [upd_ne]
      · exact q
      · rintro rfl; exact ne i ⟨_, h1, trivial, by rw [h2, e1]⟩
    | bx d =>
      obtain ⟨a, o, e1, q, rr, n, z⟩ := q
      refine ⟨a, o, e1, ?_, rr, n, z⟩
      rw [upd_ne]
      · exact q
      · rintro rfl; exact ne i ⟨_, h1, trivial, by rw [h2, e1]⟩
    | ro d =>
      obtain ⟨u, e1, q⟩ := q
      refine ⟨u, e1, ?_⟩
      rcases q with q | ⟨a, o, z, q, b, rr⟩
      · exact .inl q
      · refine .inr ⟨a, o, z, ?_, b, rr⟩
        rw [upd_ne]
        · exact q
        · rintro rfl; exact nr b
  · refine ⟨?_, (r.lent a q).2⟩
    rw [upd_ne]
    · exact (r.lent a q).1
    · rintro rfl; exact nr q
  · by_cases z : a = p
    · subst z; rw [upd_same]; exact Option.some_ne_none _
    · rw [upd_ne z]; exact r.bl a q
abbrev W0 : WX := fun _ _ _ _ => False
theorem noX_ok {α : Type} {m : Sx α} {e e' : En} {a : α} (h : noX m e = .ok a e') : m e = .ok a e' := by
  unfold noX at h
  cases q : m e with
  | ok b e2 => rw [q] at h; cases h; rfl
  | exc x e2 => rw [q] at h; cases h
  | stuck => rw [q] at h; cases h
theorem bind_ok' {α β : Type} {o : Out α} {f : α → En → Out β} {b : β} {e' : En} (h : o.bind f = .ok b e') : ∃ a e1, o = .ok a e1 ∧ f a e1 = .ok b e' := by
  cases o with
  | ok a e1 => exact ⟨a, e1, rfl, h⟩
  | exc x e1 => cases h
  | stuck => cases h
theorem compGo_len {s : Src} {vs : List Nat} {tg : Tg} {t : Sx Bool} {el : Sx Opd} : ∀ {xs : List D} {e e' : En} {ds : List D}, compGo s vs tg t el xs e = .ok ds e' → ds.length ≤ xs.length
  | [], e, e', ds, h => by
    unfold compGo at h
    split at h
    · cases h; exact Nat.le_refl _
    · cases h
  | x :: xs, e, e', ds, h => by
    unfold compGo at h
    split at h
    · split at h
      · cases h
      · obtain ⟨k, e2, _, h⟩ := bind_ok' h
        split at h
        · obtain ⟨o, e3, _, h⟩ := bind_ok' h
          split at h
          · obtain ⟨ds', e4, h', h2⟩ := bind_ok' h
            cases h2
            have := compGo_len h'
            simp only [List.length_cons]
            omega
          · cases h
        · have := compGo_len h
          simp only [List.length_cons]
          omega
    · cases h

def tTrue : Sx Bool := fun e => .ok true e
theorem yes_of {g : Gl0} : ∀ (σ : L2.St) (H : Hp) (Q : Bool → Hp → Prop), tT g W0 tTrue σ H Q → tYes σ H Q := fun σ H Q ⟨G, e, M, r, h⟩ => h true M H r rfl
/-- the reading of a comprehension -/
theorem comp_read {g : Gl0} {W : WX} {vs : List Nat} {tg : Tg} {s : Sx Src} {t : Sx Bool} {el : Sx Opd} {tt : TT} (htt : ∀ σ H Q, tT g W0 t σ H Q → tt σ H Q) {σ : L2.St} {H : Hp} {Q : VK} (h : tE g W (sComp vs tg s t el) σ H Q) :
    tLc (tI g W s) (gTg g.K tg) tt (tO g W0 el) vs σ H Q := by
  obtain ⟨G, e, M, r, h⟩ := h
  unfold sComp at h
  refine tG_last r h fun src e1 J M1 H1 _ r1 _ x1 h1 => ?_
  obtain ⟨S, jok, hlen, per⟩ := x1
  intro D hD
  by_cases hc : (hidOk vs e1 && src.apart vs && tg.ix.all vs.contains) = true
  · rw [if_pos hc] at h1
    rw [Bool.and_eq_true, Bool.and_eq_true] at hc
    obtain ⟨⟨hhid, hap⟩, htg⟩ := hc
    cases hgo : compGo src vs tg t el src.items (wipeE vs e1) with
    | stuck => rw [hgo] at h1; exact h1.elim
    | exc x e' =>
      exfalso
      -- a comprehension's run raises nothing
      have noexc : ∀ (xs : List Ev.D) (e : En) (x : Exn) (e' : En), compGo src vs tg t el xs e ≠ .exc x e' := by
        intro xs
        induction xs with
        | nil => intro e x e' q; unfold compGo at q; split at q <;> cases q
        | cons y ys ih =>
          intro e x e' q
          have nx : ∀ {α : Type} (m : Sx α) (e : En) (x : Exn) (e' : En), noX m e ≠ .exc x e' := by
            intro α m e x e' q
            unfold noX at q
            split at q <;> cases q
          unfold compGo at q
          split at q
          · split at q
            · cases q
            · cases q1 : noX t _ with
              | stuck => rw [q1] at q; cases q
              | exc x2 e2 => exact nx _ _ _ _ q1
              | ok k e2 =>
                rw [q1, Out.bind_ok] at q
                split at q
                · cases q2 : noX el e2 with
                  | stuck => rw [q2] at q; cases q
                  | exc x2 e3 => exact nx _ _ _ _ q2
                  | ok o e3 =>
                    rw [q2, Out.bind_ok] at q
                    split at q
                    · cases q3 : compGo src vs tg t el ys (wipeE vs e3) with
                      | stuck => rw [q3] at q; cases q
                      | exc x2 e4 => exact ih _ _ _ q3
                      | ok ds e4 => rw [q3] at q; cases q
                    · cases q
                · exact ih _ _ _ q
          · cases q
      exact noexc _ _ _ _ hgo
    | ok dsA e4 =>
      rw [hgo, Out.bind_ok] at h1
      have rD := r1.ext (.new r1.sub (o := .lst []) hD)
      have vD : VR g G e1 M1 σ (upd H1 D (.lst [])) (.ref D) (nw (.lst [])) :=
        ⟨D, _, rfl, upd_same, .lst .nil (Nat.zero_le _), r1.sub.none hD, r1.h0none hD, fun z => r1.bl D z hD, fun z => (r1.lent D z).1 hD, fun i q => by
          obtain ⟨_, _, o, ho⟩ := r1.owned q
          rw [hD] at ho; cases ho⟩
      refine ⟨fun i m H => m = src.items.length - i ∧ i ≤ src.items.length ∧ ∃ e M dacc ds, Rel g G e M (wipe σ vs) H ∧ VR g G e M (wipe σ vs) H (.ref D) (nw (.lst dacc)) ∧ Sub M1 M ∧ dacc.length ≤ i ∧ compGo src vs tg t el (src.items.drop i) e = .ok ds e4 ∧ dacc ++ ds = dsA,
        ⟨src.items.length, rfl, Nat.zero_le _, _, M1, [], dsA, rD.wipe vs, VR.wipe rD vD vs, .refl, Nat.le_refl _, by rw [List.drop_zero]; exact hgo, rfl⟩, ?_⟩
      rintro i m Hi ⟨rfl, hi, e, M, dacc, ds, ri, vi, sM, hacc, hrun, hds⟩
      have stands : src.ok e → S M Hi := fun ok => per G e M Hi (wipe σ vs) ri sM ok fun j d hj => by
        rw [wipe_get, if_neg]
        intro hm
        unfold Src.apart at hap
        rw [hj] at hap
        have hap' : (!vs.contains j) = true := hap
        rw [Bool.not_eq_true', List.contains_eq_mem] at hap'
        exact absurd hm (by simpa using hap')
      by_cases hlt : i < src.items.length
      · refine .inr ?_
        have hdrop : src.items.drop i = src.items[i] :: src.items.drop (i + 1) := List.drop_eq_getElem_cons hlt
        rw [hdrop] at hrun
        unfold compGo at hrun
        split at hrun
        · rename_i hok
          have st := stands hok
          refine ⟨jok.go i M Hi st ri.sub hlt, fun H' => src.items.length - (i + 1) = src.items.length - (i + 1) ∧ i + 1 ≤ src.items.length ∧ ∃ e M dacc ds, Rel g G e M (wipe σ vs) H' ∧ VR g G e M (wipe σ vs) H' (.ref D) (nw (.lst dacc)) ∧ Sub M1 M ∧ dacc.length ≤ i + 1 ∧ compGo src vs tg t el (src.items.drop (i + 1)) e = .ok ds e4 ∧ dacc ++ ds = dsA,
            fun H' q => ⟨src.items.length - (i + 1), by omega, q⟩, fun x H' hy => ?_⟩
          obtain ⟨M', w, rx⟩ := jok.yld i M Hi x H' st ri.sub hy _ (List.getElem?_eq_getElem hlt)
          have ri' := ri.ext w
          have vi' := vi.ext w
          split at hrun
          · cases hrun
          · rename_i e' hset
            obtain ⟨σ2, r2, v2, s2, k2⟩ := tg_ok rx hset ri' vi'
            refine k2 _ ⟨?_, ?_⟩
            · have : Same' vs (wipe σ vs) σ2 := ⟨s2.1, fun j hj => s2.2 j fun hm => hj (by
                have := List.all_eq_true.mp htg j hm
                rw [List.contains_eq_mem] at this
                simpa using this)⟩
              rw [wipe_same this, wipe_wipe]
            · have hw2 : wipe σ2 vs = wipe σ vs := by
                have : Same' vs (wipe σ vs) σ2 := ⟨s2.1, fun j hj => s2.2 j fun hm => hj (by
                  have := List.all_eq_true.mp htg j hm
                  rw [List.contains_eq_mem] at this
                  simpa using this)⟩
                rw [wipe_same this, wipe_wipe]
              obtain ⟨k, e2, hk, hrun⟩ := bind_ok' hrun
              have hk' := noX_ok hk
              refine htt σ2 H' _ ⟨G.here e' M' σ2 H', e', M', r2.here, ?_⟩
              rw [hk']
              intro b M3 H3 r3 eb
              subst eb
              have r3' := r2.back r3
              have v3 := v2.stay r2 r3 r3.base
              have s13 : Sub M1 M3 := (sM.trans w.mono).trans r3.base
              cases b with
              | true =>
                have hrun' : ((noX el e2).bind fun o e3 => match o with
                  | .dt d => (compGo src vs tg t el (src.items.drop (i + 1)) (wipeE vs e3)).bind fun ds e4 => Out.ok (d :: ds) e4
                  | .sl _ => .stuck) = .ok ds e4 := hrun
                obtain ⟨o, e3, ho, hrun2⟩ := bind_ok' hrun'
                have ho' := noX_ok ho
                rw [if_pos rfl]
                refine ⟨G.here e2 M3 σ2 H3, e2, M3, r3'.here, ?_⟩
                rw [ho']
                intro y M5 H5 r5 oy
                cases o with
                | sl j => cases hrun2
                | dt d =>
                  have r5' := r3'.back r5
                  have v5 := v3.stay r3' r5 r5.base
                  obtain ⟨ds', e6, hgo', hfin⟩ := bind_ok' hrun2
                  cases hfin
                  obtain ⟨q, o5, eq, hp5, ro5, _⟩ := id v5
                  cases eq
                  cases ro5 with
                  | lst rr5 hz5 =>
                    rename_i acc
                    have hla : acc.length < sizeLine := by rw [rr5.length]; omega
                    obtain ⟨r7, v7⟩ := r5'.upT v5 (o' := .lst (acc ++ [y])) (d' := .lst (dacc ++ [d])) (.lst (rr5.append (.cons oy .nil)) (by rw [List.length_append, List.length_singleton, ← rr5.length]; exact hla))
                    refine ⟨acc, hp5, hla, rfl, hlt, wipeE vs e3, M5, dacc ++ [d], ds', ?_, ?_, s13.trans r5.base, by rw [List.length_append, List.length_singleton]; omega, hgo', by rw [List.append_assoc]; exact hds⟩
                    · have := r7.wipe vs
                      rw [hw2] at this
                      exact this
                    · have := VR.wipe r7 v7 vs
                      rw [hw2] at this
                      exact this
              | false =>
                have hrun' : compGo src vs tg t el (src.items.drop (i + 1)) (wipeE vs e2) = .ok ds e4 := hrun
                rw [if_neg Bool.false_ne_true]
                refine ⟨rfl, hlt, wipeE vs e2, M3, dacc, ds, ?_, ?_, s13, by omega, hrun', hds⟩
                · have := r3'.wipe vs
                  rw [hw2] at this
                  exact this
                · have := VR.wipe r3' v3 vs
                  rw [hw2] at this
                  exact this
        · cases hrun
      · refine .inl ?_
        have ei : i = src.items.length := by omega
        subst ei
        rw [List.drop_length] at hrun
        unfold compGo at hrun
        split at hrun
        · rename_i hok
          cases hrun
          rw [List.append_nil] at hds
          subst hds
          refine ⟨jok.stop M Hi (stands hok) ri.sub, ?_⟩
          have rr := Rel.restore r1 vs hhid ri sM ⟨wipe_length σ vs, fun j hj => by rw [wipe_get, if_neg hj]⟩
          refine h1 (.ref D) M Hi rr ?_
          obtain ⟨q, o, e2, hp, ro, mp, h0, nb, nr, ne⟩ := vi
          cases e2
          refine ⟨D, o, rfl, hp, ro, mp, h0, nb, nr, fun j oj => ?_⟩
          -- an owner in the restored slots is an owner within
          obtain ⟨sl, q1, q2, q3⟩ := oj
          by_cases hj : j ∈ vs
          · -- restored slots own nothing
            have : ∀ (us : List Nat) (a : En), hidOk us e1 = true → j ∈ us → ∀ sl, (restoreE us e1 a)[j]? = some sl → ¬ sl.own := by
              intro us
              induction us with
              | nil => intro a _ hm; cases hm
              | cons u us ih =>
                intro a hh hm sl hsl
                unfold hidOk at hh
                rw [List.all_cons, Bool.and_eq_true] at hh
                unfold restoreE at hsl
                cases hu : e1[u]? with
                | none => rw [hu] at hh; exact absurd hh.1 (by simp)
                | some t0 =>
                  rw [hu] at hsl hh
                  by_cases huj : u = j
                  · subst huj
                    have hl := (List.getElem?_eq_some_iff.mp hsl).1
                    rw [List.length_set] at hl
                    rw [List.getElem?_set_self hl] at hsl
                    cases hsl
                    intro so
                    cases sl with
                    | ow d => exact absurd hh.1 (by simp)
                    | bx d => exact absurd hh.1 (by simp)
                    | _ => exact so
                  · rw [List.getElem?_set_ne huj] at hsl
                    rcases List.mem_cons.mp hm with z | z
                    · exact absurd z.symm huj
                    · exact ih a hh.2 z sl hsl
            exact this vs _ hhid hj sl q1 q2
          · have : ∀ (us : List Nat) (a : En), j ∉ us → (restoreE us e1 a)[j]? = a[j]? := by
              intro us
              induction us with
              | nil => intro a _; rfl
              | cons u us ih =>
                intro a hm
                unfold restoreE
                cases hu : e1[u]? with
                | none => exact ih a fun z => hm (List.mem_cons_of_mem _ z)
                | some t0 =>
                  show ((restoreE us e1 a).set u t0)[j]? = a[j]?
                  rw [List.getElem?_set_ne (fun z => hm (by rw [z]; exact List.mem_cons_self)), ih a fun z => hm (List.mem_cons_of_mem _ z)]
            rw [this vs _ hj] at q1
            exact ne j ⟨sl, q1, q2, by rw [wipe_get, if_neg hj]; exact q3⟩
        · cases hrun
  · rw [if_neg hc] at h1
    exact h1.elim
end Ev
set_option Elab.async false
set_option linter.all false
set_option autoImplicit false
set_option maxRecDepth 100000
/-! Statements. -/
namespace Ev
open PySem L2
inductive Fl where
  | nx (e : En) | rt (v : Vl) (e : En) | bk (e : En) | ct (e : En) | exc (x : Exn) (e : En) | stuck
abbrev SS := En → Fl
def VRet (g : Gl0) (G : Gh) (M H : Hp) (x : V) (v : Vl) : Prop :=
  match v.nw with
  | false => Rep g M x v.d
  | true => ∃ p o, x = .ref p ∧ H p = some o ∧ RepO g M p o v.d ∧ M p = none ∧ (G.H0 p = none ∨ G.ex p)
def sPost (g : Gl0) (W : WX) (G : Gh) (D : Ends) : Fl → Prop
  | .nx e => ∀ σ M H, Rel g G e M σ H → D.nx σ H
  | .rt v e => ∀ x σ M H, Rel g G e M σ H → VRet g G M H x v → D.rt x H
  | .bk e => ∀ σ M H, Rel g G e M σ H → D.bk σ H
  | .ct e => ∀ σ M H, Rel g G e M σ H → D.ct σ H
  | .exc x e => ∀ cls d σ M H, Rel g G e M σ H → ExR g M cls d x → W cls d σ H
  | .stuck => False
def tS (g : Gl0) (W : WX) (f : SS) : TS := fun D σ H => ∃ G e M, Rel g G e M σ H ∧ sPost g W G D (f e)
section
variable {g : Gl0} {W : WX} {G : Gh} {e e' : En} {M M' H H' : Hp} {σ σ' : L2.St} {D : Ends}
theorem VR.ret {x : V} {v : Vl} (h : VR g G e M σ H x v) : VRet g G M H x v := by
  obtain ⟨d, b⟩ := v
  cases b with
  | false => exact h
  | true => obtain ⟨p, o, e1, hp, ro, mp, h0, _⟩ := h; exact ⟨p, o, e1, hp, ro, mp, .inl h0⟩
theorem VRet.back {x : V} {v : Vl} (r : Rel g G e M σ H) (h : VRet g (G.here e M σ H) M' H' x v) : VRet g G M' H' x v := by
  obtain ⟨d, b⟩ := v
  cases b with
  | false => exact h
  | true =>
    obtain ⟨p, o, e1, hp, ro, mp, h0⟩ := h
    refine ⟨p, o, e1, hp, ro, mp, ?_⟩
    rcases h0 with z | z | ⟨j, d', h1, h2⟩
    · exact .inl (r.h0none z)
    · exact .inr z
    · obtain ⟨a', o', e', q', _, n', z'⟩ := r.slot j _ _ h1 h2
      cases e'
      exact z'
/-- the same, seen from here, with what is known besides -/
theorem sPost.here {fl : Fl} (r : Rel g G e M σ H) (h : sPost g W G D fl) {D' : Ends}
    (hn : ∀ e' σ' M' H', Rel g (G.here e M σ H) e' M' σ' H' → fl = .nx e' → D.nx σ' H' → D'.nx σ' H') (hr : ∀ x H', D.rt x H' → D'.rt x H') (hb : ∀ σ' H', D.bk σ' H' → D'.bk σ' H') (hc : ∀ σ' H', D.ct σ' H' → D'.ct σ' H') : sPost g W (G.here e M σ H) D' fl := by
  cases fl with
  | nx e' => exact fun σ' M' H' r' => hn e' σ' M' H' r' rfl (h σ' M' H' (r.back r'))
  | rt v e' => exact fun x σ' M' H' r' v' => hr x H' (h x σ' M' H' (r.back r') (v'.back r))
  | bk e' => exact fun σ' M' H' r' => hb σ' H' (h σ' M' H' (r.back r'))
  | ct e' => exact fun σ' M' H' r' => hc σ' H' (h σ' M' H' (r.back r'))
  | exc x e' => exact fun c d σ' M' H' r' q => h c d σ' M' H' (r.back r') q
  | stuck => exact h
end
/-! ### combinators -/
def sSkip : SS := fun e => .nx e
def sThen (a b : SS) : SS := fun e => match a e with
  | .nx e' => b e'
  | r => r
def sAsg (m : Sx Vl) (i : Nat) : SS := fun e => match m e with
  | .ok v e' => .nx (e'.set i v.slot)
  | .exc x e' => .exc x e'
  | .stuck => .stuck
def sAsgT (m : Sx Opd) (is : List Nat) : SS := fun e => match m e with
  | .ok (.dt (.tup ds)) e' => (match setMany is ds e' with
    | some e2 => .nx e2
    | none => .stuck)
  | .ok _ _ => .stuck
  | .exc x e' => .exc x e'
  | .stuck => .stuck
def sIfS (t : Sx Bool) (a b : SS) : SS := fun e => match t e with
  | .ok k e' => if k = true then a e' else b e'
  | .exc x e' => .exc x e'
  | .stuck => .stuck
def sRet (m : Sx Vl) : SS := fun e => match m e with
  | .ok v e' => .rt v e'
  | .exc x e' => .exc x e'
  | .stuck => .stuck
def sRetName (i : Nat) : SS := fun e => match e[i]? with
  | some (.sh d) => .rt (fz d) e
  | some (.ow d) => .rt (nw d) (e.set i .unb)
  | _ => .stuck
def sRetN : SS := fun e => .rt (fz .non) e
def sDrop (m : Sx Vl) : SS := fun e => match m e with
  | .ok _ e' => .nx e'
  | .exc x e' => .exc x e'
  | .stuck => .stuck
def whileGo (t : Sx Bool) (b : SS) : Nat → En → Fl
  | 0, _ => .stuck
  | n + 1, e => match t e with
    | .ok k e1 => if k = true then (match b e1 with
        | .nx e2 => whileGo t b n e2
        | .ct e2 => whileGo t b n e2
        | .bk e2 => .nx e2
        | r => r) else .nx e1
    | .exc x e1 => .exc x e1
    | .stuck => .stuck
def fuel : Nat := 1000000
def sWhile (t : Sx Bool) (b : SS) : SS := whileGo t b fuel
def forGo (tg : Tg) (b : SS) : List D → En → Fl
  | [], e => .nx e
  | x :: xs, e => match setTg tg x e with
    | none => .stuck
    | some e1 => (match b e1 with
      | .nx e2 => forGo tg b xs e2
      | .ct e2 => forGo tg b xs e2
      | .bk e2 => .nx e2
      | r => r)
def sFor (tg : Tg) (s : Sx Src) (b : SS) : SS := fun e => match s e with
  | .ok src e1 => (match src.chk with
    | none => forGo tg b src.items e1
    | some _ => .stuck)
  | .exc x e1 => .exc x e1
  | .stuck => .stuck
section
variable {X : Cx} {cl : Str → Option Addr} {W : WX} {pos : Pos}
theorem vs_nil : PSs X [] (tS (gl X cl) W sSkip) := PSs_imp pss_nil fun D σ H ⟨G, e, M, r, h⟩ => h σ M H r
theorem vs_cons {st : Stmt} {rest : List Stmt} {a b : SS} (h1 : PS X st (tS (gl X cl) W a)) (h2 : PSs X rest (tS (gl X cl) W b)) : PSs X (st :: rest) (tS (gl X cl) W (sThen a b)) :=
  PSs_imp (pss_cons h1 h2) fun D σ H ⟨G, e, M, r, h⟩ => by
    refine ⟨G, e, M, r, ?_⟩
    unfold sThen at h
    cases q : a e with
    | nx e' => rw [q] at h; exact fun σ' M' H' r' => ⟨G, e', M', r', h⟩
    | rt v e' => rw [q] at h; exact h
    | bk e' => rw [q] at h; exact h
    | ct e' => rw [q] at h; exact h
    | exc x e' => rw [q] at h; exact h
    | stuck => rw [q] at h; exact h
theorem vs_one {st : Stmt} {a : SS} (h1 : PS X st (tS (gl X cl) W a)) : PSs X [st] (tS (gl X cl) W a) := pss_one h1
/-- an expression's run within a statement -/
theorem stm_expr {G : Gh} {e : En} {M H : Hp} {σ : L2.St} {D : Ends} {m : Sx Vl} {k : Vl → En → Fl} {Q : VK} (r : Rel (gl X cl) G e M σ H)
    (h : sPost (gl X cl) W G D (match m e with | .ok v e' => k v e' | .exc x e' => .exc x e' | .stuck => .stuck))
    (hk : ∀ v e1 x M1 H1, m e = .ok v e1 → Rel (gl X cl) G e1 M1 σ H1 → VR (gl X cl) G e1 M1 σ H1 x v → sPost (gl X cl) W G D (k v e1) → Q x H1) : tE (gl X cl) W m σ H Q := by
  refine ⟨G, e, M, r, ?_⟩
  cases q : m e with
  | ok v e1 => rw [q] at h; exact fun x M1 H1 r1 v1 => hk v e1 x M1 H1 q r1 v1 h
  | exc x e1 => rw [q] at h; exact fun c d M1 H1 r1 x1 => h c d σ M1 H1 r1 x1
  | stuck => rw [q] at h; exact h
theorem asg_read {m : Sx Vl} {i : Nat} {D : Ends} {σ : L2.St} {H : Hp} {te : TE} (k : ∀ σ H Q, tE (gl X cl) W m σ H Q → te σ H Q) (h : tS (gl X cl) W (sAsg m i) D σ H) : tAsg te (gName i) D σ H := by
  obtain ⟨G, e, M, r, h⟩ := h
  refine k σ H _ (stm_expr (k := fun v e' => .nx (e'.set i v.slot)) r h fun v e1 x M1 H1 _ r1 v1 h1 => ?_)
  exact h1 _ M1 H1 (r1.setV v1)
theorem vs_set {i : Nat} {x : Str} {ex : Expr} {m : Sx Vl} {pos' : Pos} (hN : X.N.Nodup) (hi : X.N[i]? = some x) (hx : Loc X.env.scope x) (he : PE X ex (tE (gl X cl) W m)) (hs : swapsWith ex (some (.Name x pos')) pos.line X.env = pure false) (hf : X.fn x = true ∨ X.env.scope.names.lookup x = some .local) :
    PS X (.Assign [.Name x pos'] ex pos) (tS (gl X cl) W (sAsg m i)) := PS_imp (ps_set hN hi hx he hs hf) fun D σ H h => asg_read (fun _ _ _ z => z) h
/-- several names take a tuple's items -/
theorem many_set {G : Gh} {M H : Hp} : ∀ {is : List Nat} {ds : List D} {xs : List V} {e e' : En} {σ : L2.St}, Reps (gl X cl) M xs ds → setMany is ds e = some e' → Rel (gl X cl) G e M σ H →
    ∃ σ', Rel (gl X cl) G e' M σ' H ∧ xs.length = is.length ∧ ∀ (Q : L2.St → Hp → Prop), Q σ' H → (is.foldr (fun i t => gCons (gName i) t) gNil) xs σ H Q
  | [], [], xs, e, e', σ, hr, h, r => by
    cases hr
    cases h
    exact ⟨σ, r, rfl, fun Q q => ⟨rfl, q⟩⟩
  | [], _ :: _, _, _, _, _, _, h, _ => by cases h
  | _ :: _, [], _, _, _, _, _, h, _ => by cases h
  | i :: is, d :: ds, xs, e, e', σ, hr, h, r => by
    cases hr with
    | cons r1 r2 =>
      rename_i x xs
      obtain ⟨σ', q1, q4, q5⟩ := many_set r2 (show setMany is ds (e.set i (.sh d)) = some e' from h) (r.setSh (i := i) r1)
      exact ⟨σ', q1, by simp [q4], fun Q q => ⟨x, xs, rfl, q5 Q q⟩⟩
theorem tg_set {G : Gh} {M H : Hp} {t : Tg} {d : D} {x : V} {e e' : En} {σ : L2.St} (hr : Rep (gl X cl) M x d) (h : setTg t d e = some e') (r : Rel (gl X cl) G e M σ H) :
    ∃ σ', Rel (gl X cl) G e' M σ' H ∧ ∀ (Q : L2.St → Hp → Prop), Q σ' H → gTg X.K t x σ H Q := by
  cases t with
  | one i => cases h; exact ⟨_, r.setSh hr, fun Q q => q⟩
  | many is =>
    cases d with
    | tup ds =>
      cases hr with
      | tup hs rr hz =>
        rename_i a vs
        obtain ⟨σ', q1, q4, q5⟩ := many_set rr (show setMany is ds e = some e' from h) r
        exact ⟨σ', q1, fun Q q => ⟨a, vs, rfl, r.sub.sqT hs, q4, q5 Q q⟩⟩
    | _ => cases h
theorem vs_unpack {ts : List Expr} {kk : Nat} {is : List Nat} {ex : Expr} {m : Sx Opd} {tpos : Pos} (he : PE X ex (tO (gl X cl) W m)) (hg : PG X (.Tuple ts kk tpos) (gTg X.K (.many is))) (hs : swapsWithSole [.Tuple ts kk tpos] ex pos.line X.env = pure false) (hw : swappedStores [.Tuple ts kk tpos] ex X.env = pure none)
    (h1 : (assignEach [.Tuple ts kk tpos] X.env).map (·.2) = [assign (.Tuple ts kk tpos) X.env]) : PS X (.Assign [.Tuple ts kk tpos] ex pos) (tS (gl X cl) W (sAsgT m is)) :=
  PS_imp (ps_asg he hg hs hw h1) fun D σ H ⟨G, e, M, r, h⟩ => by
    unfold sAsgT at h
    refine ⟨G, e, M, r, ?_⟩
    cases q : m e with
    | stuck => rw [q] at h; exact h
    | exc x e1 => rw [q] at h; exact fun c d M1 H1 r1 x1 => h c d σ M1 H1 r1 x1
    | ok o e1 =>
      rw [q] at h
      intro x M1 H1 r1 x1
      cases o with
      | sl j => exact h.elim
      | dt d =>
        cases d with
        | tup ds =>
          have h' : sPost (gl X cl) W G D (match setMany is ds e1 with | some e2 => .nx e2 | none => .stuck) := h
          cases hset : setMany is ds e1 with
          | none => rw [hset] at h'; exact h'.elim
          | some e2 =>
            rw [hset] at h'
            obtain ⟨σ', q1, q2⟩ := tg_set (t := .many is) x1 hset r1
            exact q2 _ (h' σ' M1 H1 q1)
        | _ => exact h.elim
theorem vs_if {c : Expr} {a b : List Stmt} {t : Sx Bool} {u v : SS} (hc : PT X c (tT (gl X cl) W t)) (ha : PSs X a (tS (gl X cl) W u)) (hb : PSs X b (tS (gl X cl) W v)) : PS X (.If c a b pos) (tS (gl X cl) W (sIfS t u v)) :=
  PS_imp (ps_if hc ha hb) fun D σ H ⟨G, e, M, r, h⟩ => by
    unfold sIfS at h
    refine ⟨G, e, M, r, ?_⟩
    cases q : t e with
    | stuck => rw [q] at h; exact h
    | exc x e1 => rw [q] at h; exact fun c d M1 H1 r1 x1 => h c d σ M1 H1 r1 x1
    | ok k e1 =>
      rw [q] at h
      intro b M1 H1 r1 eb
      subst eb
      cases b with
      | true => exact ⟨G, e1, M1, r1, h⟩
      | false => exact ⟨G, e1, M1, r1, h⟩
theorem vs_ret {ex : Expr} {m : Sx Vl} (he : PE X ex (tE (gl X cl) W m)) : PS X (.Return (some ex) pos) (tS (gl X cl) W (sRet m)) :=
  PS_imp (ps_ret he) fun D σ H ⟨G, e, M, r, h⟩ => stm_expr (k := fun v e' => .rt v e') r h fun v e1 x M1 H1 _ r1 v1 h1 => h1 x σ M1 H1 r1 v1.ret
theorem vs_retName {i : Nat} {x : Str} {p : Pos} (hN : X.N[i]? = some x) (hv : Vis X.env.scope x) (hd : (x == ("__debug__" : Str)) = false) (hcd : (x == ("__classdict__" : Str)) = false) : PS X (.Return (some (.Name x p)) pos) (tS (gl X cl) W (sRetName i)) :=
  PS_imp (ps_ret (pe_var hN hv hd hcd)) fun D σ H ⟨G, e, M, r, h⟩ => by
    unfold sRetName at h
    cases hs : e[i]? with
    | none => rw [hs] at h; exact h.elim
    | some s =>
      rw [hs] at h
      cases s with
      | sh d =>
        obtain ⟨x, h1, v, rfl, q⟩ := r.at hs
        exact ⟨v, h1, h v σ M H r q⟩
      | ow d =>
        obtain ⟨x, h1, a, o, rfl, ha, ro, ma, z⟩ := r.at hs
        have r' : Rel (gl X cl) G (e.set i .unb) M σ H := by
          have := r.setUnb i (some (.ref a))
          rw [set_get h1] at this
          exact this
        exact ⟨.ref a, h1, h (.ref a) σ M H r' ⟨a, o, rfl, ha, ro, ma, z⟩⟩
      | _ => exact h.elim
theorem vs_retN : PS X (.Return none pos) (tS (gl X cl) W sRetN) := PS_imp ps_retN fun D σ H ⟨G, e, M, r, h⟩ => h .non σ M H r .non
theorem vs_pass : PS X (.Pass pos) (tS (gl X cl) W sSkip) := PS_imp ps_pass fun D σ H ⟨G, e, M, r, h⟩ => h σ M H r
theorem vs_doc {x : Str} {j : Nat} {p1 : Pos} : PS X (.Expr (.Constant (.str x) j p1) pos) (tS (gl X cl) W sSkip) := PS_imp ps_doc fun D σ H ⟨G, e, M, r, h⟩ => h σ M H r
theorem vs_expr {ex : Expr} {m : Sx Vl} (he : PE X ex (tE (gl X cl) W m)) (hs : swapsWith ex none pos.line X.env = pure false) : PS X (.Expr ex pos) (tS (gl X cl) W (sDrop m)) :=
  PS_imp (ps_expr he hs) fun D σ H ⟨G, e, M, r, h⟩ => stm_expr (k := fun v e' => .nx e') r h fun v e1 x M1 H1 _ r1 v1 h1 => h1 σ M1 H1 r1
theorem vs_while {c : Expr} {body : List Stmt} {t : Sx Bool} {b : SS} (hp : PassesOwn (model X.prog X.w) X.A X.env X.xe) (hc : PT X c (tT (gl X cl) W t)) (hb : PSs X body (tS (gl X cl) W b)) : PS X (.While c body [] pos) (tS (gl X cl) W (sWhile t b)) :=
  PS_imp (ps_while hp hc hb) fun D σ H ⟨G, e, M, r, h⟩ => by
    refine ⟨fun m σ H => ∃ e M, Rel (gl X cl) G e M σ H ∧ sPost (gl X cl) W G D (whileGo t b m e), ⟨fuel, e, M, r, h⟩, ?_⟩
    rintro m σ H ⟨e, M, r, h⟩
    cases m with
    | zero => exact h.elim
    | succ n =>
      unfold whileGo at h
      refine ⟨G, e, M, r, ?_⟩
      cases q : t e with
      | stuck => rw [q] at h; exact h
      | exc x e1 => rw [q] at h; exact fun c d M1 H1 r1 x1 => h c d σ M1 H1 r1 x1
      | ok k e1 =>
        rw [q] at h
        intro k' M1 H1 r1 eb
        subst eb
        cases k' with
        | false => exact h σ M1 H1 r1
        | true =>
          have h' : sPost (gl X cl) W G D (match b e1 with
            | .nx e2 => whileGo t b n e2
            | .ct e2 => whileGo t b n e2
            | .bk e2 => .nx e2
            | r => r) := h
          refine ⟨fun σ' H' => ∃ e M, Rel (gl X cl) G e M σ' H' ∧ sPost (gl X cl) W G D (whileGo t b n e), fun σ' H' z => ⟨n, Nat.lt_succ_self n, z⟩, G, e1, M1, r1, ?_⟩
          cases q2 : b e1 with
          | nx e2 => rw [q2] at h'; exact fun σ' M' H' r' => ⟨e2, M', r', h'⟩
          | ct e2 => rw [q2] at h'; exact fun σ' M' H' r' => ⟨e2, M', r', h'⟩
          | bk e2 => rw [q2] at h'; exact h'
          | rt v e2 => rw [q2] at h'; exact h'
          | exc x e2 => rw [q2] at h'; exact h'
          | stuck => rw [q2] at h'; exact h'
theorem vs_for {tgt iter : Expr} {body : List Stmt} {tg : Tg} {s : Sx Src} {b : SS} (hp : PassesOwn (model X.prog X.w) X.A X.env X.xe) (hc : X.calm = true) (hi : PI X tgt iter (tI (gl X cl) W s)) (hg : PG X tgt (gTg X.K tg)) (hb : PSs X body (tS (gl X cl) W b))
    (hs : ∀ x, foldedSetIterable iter X.env x = pure x) : PS X (.For tgt iter body [] pos) (tS (gl X cl) W (sFor tg s b)) :=
  PS_imp (ps_for hp hc hi hg hb hs) fun D σ H ⟨G, e, M, r, h⟩ => by
    unfold sFor at h
    refine ⟨G, e, M, r, ?_⟩
    cases q : s e with
    | stuck => rw [q] at h; exact h
    | exc x e1 => rw [q] at h; exact fun c d M1 H1 r1 x1 => h c d σ M1 H1 r1 x1
    | ok src e1 =>
      rw [q] at h
      intro J M1 H1 r1 x1
      obtain ⟨S, jok, hlen, per⟩ := x1
      have h' : sPost (gl X cl) W G D (match src.chk with | none => forGo tg b src.items e1 | some _ => .stuck) := h
      cases hch : src.chk with
      | some c => rw [hch] at h'; exact h'.elim
      | none =>
        rw [hch] at h'
        refine ⟨fun i m σ H => m = src.items.length - i ∧ i ≤ src.items.length ∧ ∃ e M, Rel (gl X cl) G e M σ H ∧ Sub M1 M ∧ sPost (gl X cl) W G D (forGo tg b (src.items.drop i) e), ⟨_, rfl, Nat.zero_le _, e1, M1, r1, .refl, by rw [List.drop_zero]; exact h'⟩, ?_⟩
        rintro i m σi Hi ⟨rfl, hi, ei, Mi, ri, sM, hrun⟩
        have st : S Mi Hi := per G ei Mi Hi σi ri sM (by unfold Src.ok; rw [hch]; trivial) (fun j d hj => by rw [hch] at hj; cases hj)
        by_cases hlt : i < src.items.length
        · have hdrop : src.items.drop i = src.items[i] :: src.items.drop (i + 1) := List.drop_eq_getElem_cons hlt
          rw [hdrop] at hrun
          unfold forGo at hrun
          refine .inr ⟨jok.go i Mi Hi st ri.sub hlt, fun σ' H' => src.items.length - (i + 1) = src.items.length - (i + 1) ∧ i + 1 ≤ src.items.length ∧ ∃ e M, Rel (gl X cl) G e M σ' H' ∧ Sub M1 M ∧ sPost (gl X cl) W G D (forGo tg b (src.items.drop (i + 1)) e), fun σ' H' z => ⟨src.items.length - (i + 1), by omega, z⟩, fun x H' hy => ?_⟩
          obtain ⟨M', w, rx⟩ := jok.yld i Mi Hi x H' st ri.sub hy _ (List.getElem?_eq_getElem hlt)
          have ri' := ri.ext w
          cases hset : setTg tg src.items[i] ei with
          | none => rw [hset] at hrun; exact hrun.elim
          | some e2 =>
            rw [hset] at hrun
            obtain ⟨σ2, r2, k2⟩ := tg_set rx hset ri'
            refine k2 _ ?_
            have hrun' : sPost (gl X cl) W G D (match b e2 with
              | .nx e2 => forGo tg b (src.items.drop (i + 1)) e2
              | .ct e2 => forGo tg b (src.items.drop (i + 1)) e2
              | .bk e2 => .nx e2
              | r => r) := hrun
            refine ⟨G.here e2 M' σ2 H', e2, M', r2.here, ?_⟩
            cases q2 : b e2 with
            | nx e3 => rw [q2] at hrun'; exact fun σ' M'' H'' r' => ⟨rfl, hlt, e3, M'', r2.back r', (sM.trans w.mono).trans r'.base, hrun'⟩
            | ct e3 => rw [q2] at hrun'; exact fun σ' M'' H'' r' => ⟨rfl, hlt, e3, M'', r2.back r', (sM.trans w.mono).trans r'.base, hrun'⟩
            | bk e3 => rw [q2] at hrun'; exact fun σ' M'' H'' r' => hrun' σ' M'' H'' (r2.back r')
            | rt v e3 => rw [q2] at hrun'; exact fun x σ' M'' H'' r' v' => hrun' x σ' M'' H'' (r2.back r') (v'.back r2)
            | exc x e3 => rw [q2] at hrun'; exact fun c d σ' M'' H'' r' z => hrun' c d σ' M'' H'' (r2.back r') z
            | stuck => rw [q2] at hrun'; exact hrun'
        · have ei' : i = src.items.length := by omega
          subst ei'
          rw [List.drop_length] at hrun
          exact .inl ⟨jok.stop Mi Hi st ri.sub, hrun σi Mi Hi ri⟩
/-! ### comprehensions -/
theorem ve_comp {elt tgt iter : Expr} {ifs : List Expr} {scope : Scope} {own : List (Str × Nat)} {tg : Tg} {s : Sx Src} {t : Sx Bool} {el : Sx Opd} {tt : TT} (htt : ∀ σ H Q, tT (gl X cl) W0 t σ H Q → tt σ H Q) (hc : X.calm = true) (hN : X.N.Nodup) (hi : PI X tgt iter (tI (gl X cl) W s)) (ok : BlkOk X.N X.env.scope scope own)
    (hg : ∀ (s : Shared) (H : Hp) (C : Addr) (cl : List (Str × Addr)) (fp : List Addr), PG (X.blk s H scope (compEnvC scope cl C X.env) fp) tgt (gTg X.K tg)) (ht : ∀ (s : Shared) (H : Hp) (C : Addr) (cl : List (Str × Addr)) (fp : List Addr), PTs (X.blk s H scope (compEnvC scope cl C X.env) fp) ifs tt)
    (he : ∀ (s : Shared) (H : Hp) (C : Addr) (cl' : List (Str × Addr)) (fp : List Addr), PE (X.blk s H scope (compEnvC scope cl' C X.env) fp) elt (tO (gl X cl) W0 el)) (hs : ∀ x, foldedSetIterable iter X.env x = pure x) :
    PE X (.ListComp elt [⟨tgt, iter, ifs, 0⟩] scope pos) (tE (gl X cl) W (sComp (own.map (·.2)) tg s t el)) :=
  PE_imp (pe_lc hc hN hi ok hg ht he hs) fun σ H Q h => comp_read htt h
theorem vs_setComp {i : Nat} {y : Str} {py : Pos} {elt tgt iter : Expr} {ifs : List Expr} {scope : Scope} {own : List (Str × Nat)} {spos : Pos} {tg : Tg} {s : Sx Src} {t : Sx Bool} {el : Sx Opd} {tt : TT} (htt : ∀ σ H Q, tT (gl X cl) W0 t σ H Q → tt σ H Q) (hc : X.calm = true) (hN : X.N.Nodup) (hy : X.N[i]? = some y) (hyl : X.env.scope.names.lookup y = some .local)
    (hsw : swapsWith (.ListComp elt [⟨tgt, iter, ifs, 0⟩] scope pos) (some (.Name y py)) spos.line X.env = pure true) (hi : PI X tgt iter (tI (gl X cl) W s)) (ok : BlkOk X.N X.env.scope scope own)
    (hg : ∀ (s : Shared) (H : Hp) (C : Addr) (cl : List (Str × Addr)) (fp : List Addr), PG (X.blk s H scope (compEnvC scope cl C X.env) fp) tgt (gTg X.K tg)) (ht : ∀ (s : Shared) (H : Hp) (C : Addr) (cl : List (Str × Addr)) (fp : List Addr), PTs (X.blk s H scope (compEnvC scope cl C X.env) fp) ifs tt)
    (he : ∀ (s : Shared) (H : Hp) (C : Addr) (cl' : List (Str × Addr)) (fp : List Addr), PE (X.blk s H scope (compEnvC scope cl' C X.env) fp) elt (tO (gl X cl) W0 el)) (hs : ∀ x, foldedSetIterable iter X.env x = pure x) :
    PS X (.Assign [.Name y py] (.ListComp elt [⟨tgt, iter, ifs, 0⟩] scope pos) spos) (tS (gl X cl) W (sAsg (sComp (own.map (·.2)) tg s t el) i)) :=
  PS_imp (ps_setLc hc hN hy hyl hsw hi ok hg ht he hs) fun D σ H h => asg_read (fun σ H Q z => comp_read htt z) h
end
end Ev
set_option Elab.async false
set_option linter.all false
set_option autoImplicit false
set_option maxRecDepth 100000
/-! Dicts. -/
namespace Ev
open PySem L2 PySem.Spec PyProof.Rows
/-! ### plain -/
def D.isTup : D → Bool
  | .tup _ => true
  | _ => false
def kdp : Option NestedKey → Bool
  | some k => decide (k.depth ≤ 8)
  | none => false
/-- a key that goes with the keys that are there -/
def dkOk (ds : List (D × D)) : D → Bool
  | .int _ => ds.all fun p => !p.1.isTup
  | .str _ => ds.all fun p => !p.1.isTup
  | .tup l => kdp (D.key (.tup l)) && ds.all fun p => p.1.isTup
  | _ => false
noncomputable def dget (ds : List (D × D)) (k : D) : Option D := (ds.find? fun p => decide (p.1 = k)).map (·.2)
noncomputable def dput (ds : List (D × D)) (k v : D) : List (D × D) :=
  if (dget ds k).isSome = true then ds.map fun p => if p.1 = k then (p.1, v) else p else ds ++ [(k, v)]
theorem dget_nil {k : D} : dget [] k = none := rfl
theorem dget_pos {p : D × D} {r : List (D × D)} {k : D} (e : p.1 = k) : dget (p :: r) k = some p.2 := by simp [dget, List.find?_cons, e]
theorem dget_neg {p : D × D} {r : List (D × D)} {k : D} (e : ¬ p.1 = k) : dget (p :: r) k = dget r k := by simp [dget, List.find?_cons, e]
/-! keys tell data apart -/
mutual
theorem key_inj : ∀ {d e : D} {k : NestedKey}, d.key = some k → e.key = some k → d = e
  | .non, e, k, h, h' => by
    cases h
    cases e with
    | non => rfl
    | tup l => rw [D.key] at h'; obtain ⟨_, _, z⟩ := Option.map_eq_some_iff.mp h'; cases z
    | _ => simp [D.key] at h'
  | .int i, e, k, h, h' => by
    cases h
    cases e with
    | int j => simp [D.key] at h'; rw [h']
    | tup l => rw [D.key] at h'; obtain ⟨_, _, z⟩ := Option.map_eq_some_iff.mp h'; cases z
    | _ => simp [D.key] at h'
  | .str x, e, k, h, h' => by
    cases h
    cases e with
    | str j => simp [D.key] at h'; rw [h']
    | tup l => rw [D.key] at h'; obtain ⟨_, _, z⟩ := Option.map_eq_some_iff.mp h'; cases z
    | _ => simp [D.key] at h'
  | .tup l, e, k, h, h' => by
    rw [D.key] at h
    obtain ⟨ks, h1, rfl⟩ := Option.map_eq_some_iff.mp h
    cases e with
    | tup m =>
      rw [D.key] at h'
      obtain ⟨ks', h2, z⟩ := Option.map_eq_some_iff.mp h'
      cases z
      rw [keys_inj h1 h2]
    | _ => simp [D.key] at h'
  | .bl b, _, _, h, _ => by simp [D.key] at h
  | .lst l, _, _, h, _ => by simp [D.key] at h
  | .dic l, _, _, h, _ => by simp [D.key] at h
  | .obj c fs, _, _, h, _ => by simp [D.key] at h
  | .scr l, _, _, h, _ => by simp [D.key] at h
theorem keys_inj : ∀ {l m : List D} {ks : List NestedKey}, D.keys l = some ks → D.keys m = some ks → l = m
  | [], m, ks, h, h' => by
    rw [D.keys] at h
    cases h
    cases m with
    | nil => rfl
    | cons d ds =>
      rw [D.keys] at h'
      split at h' <;> cases h'
  | d :: ds, m, ks, h, h' => by
    rw [D.keys] at h
    split at h
    · rename_i k ks' h1 h2
      cases h
      cases m with
      | nil => rw [D.keys] at h'; cases h'
      | cons d' ds' =>
        rw [D.keys] at h'
        split at h'
        · rename_i h3 h4
          cases h'
          rw [key_inj h1 h3, keys_inj h2 h4]
        · cases h'
    · cases h
end
def kD : Key → D
  | .inl i => .int i
  | .inr x => .str x
def OR {α β : Type} (R : α → β → Prop) : Option α → Option β → Prop
  | some a, some b => R a b
  | none, none => True
  | _, _ => False
section
variable {g : Gl0} {M H : Hp}
theorem rep_kV {k : Key} {d : D} (h : Rep g M (kV k) d) : d = kD k := by
  cases k with
  | inl i => exact (show d = .int i from by cases h; rfl)
  | inr x => exact (show d = .str x from by cases h; rfl)
theorem rep_kV_inj {k k' : Key} {d : D} (h : Rep g M (kV k) d) (h' : Rep g M (kV k') d) : k = k' := by
  have e := rep_kV h
  have e' := rep_kV h'
  rw [e] at e'
  cases k <;> cases k' <;> first | (cases e'; rfl) | cases e'
theorem repK_get {k : Key} {kd : D} (hk : Rep g M (kV k) kd) : ∀ {kvs : List (Key × V)} {ds : List (D × D)}, RepK g M kvs ds → OR (Rep g M) (valV kvs k) (dget ds kd)
  | _, _, .nil => trivial
  | _, _, .cons (k := k') (kd := kd') h1 h2 t => by
    by_cases e : k' = k
    · subst e
      have e2 : kd' = kd := (rep_kV h1).trans (rep_kV hk).symm
      rw [valV_pos rfl, dget_pos e2]
      exact h2
    · have e2 : ¬ kd' = kd := fun z => by subst z; exact e (rep_kV_inj h1 hk)
      rw [valV_neg e, dget_neg e2]
      exact repK_get hk t
theorem RepK.length : ∀ {kvs : List (Key × V)} {ds : List (D × D)}, RepK g M kvs ds → kvs.length = ds.length
  | _, _, .nil => rfl
  | _, _, .cons _ _ t => congrArg (· + 1) (RepK.length t)
theorem RepT.length : ∀ {kvs : List (NestedKey × Addr × V)} {ds : List (D × D)}, RepT g M kvs ds → kvs.length = ds.length
  | _, _, .nil => rfl
  | _, _, .cons _ _ _ _ t => congrArg (· + 1) (RepT.length t)
theorem OR.isSome {α β : Type} {R : α → β → Prop} {a : Option α} {b : Option β} (h : OR R a b) : a.isSome = b.isSome := by
  cases a <;> cases b <;> first | rfl | exact h.elim
theorem repK_map {k : Key} {kd : D} {v : V} {d : D} (hk : Rep g M (kV k) kd) (hv : Rep g M v d) : ∀ {kvs : List (Key × V)} {ds : List (D × D)}, RepK g M kvs ds → RepK g M (kvs.map fun kv => if kv.1 = k then (kv.1, v) else kv) (ds.map fun p => if p.1 = kd then (p.1, d) else p)
  | _, _, .nil => .nil
  | _, _, .cons (k := k') (kd := kd') h1 h2 t => by
    rw [List.map_cons, List.map_cons]
    by_cases e : k' = k
    · have e2 : kd' = kd := by subst e; exact (rep_kV h1).trans (rep_kV hk).symm
      rw [if_pos e, if_pos e2]
      exact .cons h1 hv (repK_map hk hv t)
    · have e2 : ¬ kd' = kd := fun z => by subst z; exact e (rep_kV_inj h1 hk)
      rw [if_neg e, if_neg e2]
      exact .cons h1 h2 (repK_map hk hv t)
theorem repK_snoc {k : Key} {kd : D} {v : V} {d : D} (hk : Rep g M (kV k) kd) (hv : Rep g M v d) : ∀ {kvs : List (Key × V)} {ds : List (D × D)}, RepK g M kvs ds → RepK g M (kvs ++ [(k, v)]) (ds ++ [(kd, d)])
  | _, _, .nil => .cons hk hv .nil
  | _, _, .cons h1 h2 t => .cons h1 h2 (repK_snoc hk hv t)
theorem repK_put {k : Key} {kd : D} {v : V} {d : D} {kvs : List (Key × V)} {ds : List (D × D)} (hk : Rep g M (kV k) kd) (hv : Rep g M v d) (r : RepK g M kvs ds) : RepK g M (putK kvs k v) (dput ds kd d) := by
  unfold putK dput
  rw [valV_any, (repK_get hk r).isSome]
  by_cases q : (dget ds kd).isSome = true
  · rw [if_pos q, if_pos q]; exact repK_map hk hv r
  · rw [if_neg q, if_neg q]; exact repK_snoc hk hv r
/-- the tuple keys -/
def tget (xs : List (NestedKey × Addr × V)) (k : NestedKey) : Option V := (xs.find? fun x => decide (x.1 = k)).map (·.2.2)
def tput (xs : List (NestedKey × Addr × V)) (k : NestedKey) (b : Addr) (v : V) : List (NestedKey × Addr × V) :=
  if (tget xs k).isSome = true then xs.map fun x => if x.1 = k then (x.1, x.2.1, v) else x else xs ++ [(k, b, v)]
theorem tget_pos {p : NestedKey × Addr × V} {r : List (NestedKey × Addr × V)} {k : NestedKey} (e : p.1 = k) : tget (p :: r) k = some p.2.2 := by simp [tget, List.find?_cons, e]
theorem tget_neg {p : NestedKey × Addr × V} {r : List (NestedKey × Addr × V)} {k : NestedKey} (e : ¬ p.1 = k) : tget (p :: r) k = tget r k := by simp [tget, List.find?_cons, e]
theorem repT_get {k : NestedKey} {kd : D} (hk : kd.key = some k) : ∀ {kvs : List (NestedKey × Addr × V)} {ds : List (D × D)}, RepT g M kvs ds → OR (Rep g M) (tget kvs k) (dget ds kd)
  | _, _, .nil => trivial
  | _, _, .cons (k := k') (kd := kd') h1 _ _ h2 t => by
    by_cases e : k' = k
    · subst e
      have e2 : kd' = kd := key_inj h1 hk
      rw [tget_pos rfl, dget_pos e2]
      exact h2
    · have e2 : ¬ kd' = kd := fun z => by subst z; rw [h1] at hk; cases hk; exact e rfl
      rw [tget_neg e, dget_neg e2]
      exact repT_get hk t
theorem repT_map {k : NestedKey} {kd : D} {v : V} {d : D} (hk : kd.key = some k) (hv : Rep g M v d) : ∀ {kvs : List (NestedKey × Addr × V)} {ds : List (D × D)}, RepT g M kvs ds → RepT g M (kvs.map fun x => if x.1 = k then (x.1, x.2.1, v) else x) (ds.map fun p => if p.1 = kd then (p.1, d) else p)
  | _, _, .nil => .nil
  | _, _, .cons (k := k') (kd := kd') h1 hz h3 h2 t => by
    rw [List.map_cons, List.map_cons]
    by_cases e : k' = k
    · have e2 : kd' = kd := by subst e; exact key_inj h1 hk
      rw [if_pos e, if_pos e2]
      exact .cons h1 hz h3 hv (repT_map hk hv t)
    · have e2 : ¬ kd' = kd := fun z => by subst z; rw [h1] at hk; cases hk; exact e rfl
      rw [if_neg e, if_neg e2]
      exact .cons h1 hz h3 h2 (repT_map hk hv t)
theorem repT_snoc {k : NestedKey} {b : Addr} {kd : D} {v : V} {d : D} (hk : kd.key = some k) (hz : k.depth ≤ 8) (hb : Rep g M (.ref b) kd) (hv : Rep g M v d) : ∀ {kvs : List (NestedKey × Addr × V)} {ds : List (D × D)}, RepT g M kvs ds → RepT g M (kvs ++ [(k, b, v)]) (ds ++ [(kd, d)])
  | _, _, .nil => .cons hk hz hb hv .nil
  | _, _, .cons h1 h2 h3 h4 t => .cons h1 h2 h3 h4 (repT_snoc hk hz hb hv t)
theorem repT_put {k : NestedKey} {b : Addr} {kd : D} {v : V} {d : D} {kvs : List (NestedKey × Addr × V)} {ds : List (D × D)} (hk : kd.key = some k) (hz : k.depth ≤ 8) (hb : Rep g M (.ref b) kd) (hv : Rep g M v d) (r : RepT g M kvs ds) : RepT g M (tput kvs k b v) (dput ds kd d) := by
  unfold tput dput
  rw [(repT_get hk r).isSome]
  by_cases q : (dget ds kd).isSome = true
  · rw [if_pos q, if_pos q]; exact repT_map hk hv r
  · rw [if_neg q, if_neg q]; exact repT_snoc hk hz hb hv r
/-! ### in the run's heap -/
abbrev TV : List (NestedKey × Addr × V) → List (NestedKey × Addr × Value) → Prop := Paired fun p q => p.1 = q.1 ∧ p.2.1 = q.2.1 ∧ RelV p.2.2 q.2.2
theorem TV.val {xs : List (NestedKey × Addr × V)} {ys : List (NestedKey × Addr × Value)} (r : TV xs ys) (k : NestedKey) : RelO (tget xs k) ((atKey ys k).map (·.2)) := by
  induction r with
  | nil => exact True.intro
  | @cons p q ps qs h t ih =>
    obtain ⟨h1, _, h2⟩ := h
    by_cases e : p.1 = k
    · have e' : q.1 = k := h1.symm.trans e
      have b : atKey (q :: qs) k = some q.2 := by simp [atKey, List.find?_cons, e']
      rw [tget_pos e, b]; exact h2
    · have e' : ¬ q.1 = k := fun z => e (h1.trans z)
      have b : atKey (q :: qs) k = atKey qs k := by simp [atKey, List.find?_cons, e']
      rw [tget_neg e, b]; exact ih
theorem TV.put {xs : List (NestedKey × Addr × V)} {ys : List (NestedKey × Addr × Value)} (r : TV xs ys) (k : NestedKey) {b : Addr} {v : V} {u : Value} (rv : RelV v u) : TV (tput xs k b v) (storedH ys k b u) := by
  have e : (tget xs k).isSome = (atKey ys k).isSome := by rw [(r.val k).isSome_eq, Option.isSome_map]
  unfold tput storedH
  rw [e]
  by_cases q : (atKey ys k).isSome = true
  · rw [if_pos q, if_pos q]
    clear e q
    induction r with
    | nil => exact .nil
    | @cons p q ps qs h t ih =>
      rw [List.map_cons, List.map_cons]
      refine .cons ?_ ih
      unfold putAt
      obtain ⟨h1, h2, h3⟩ := h
      by_cases e : p.1 = k
      · rw [if_pos e, if_pos (h1.symm.trans e)]; exact ⟨h1, h2, rv⟩
      · rw [if_neg e, if_neg (fun z => e (h1.trans z))]; exact ⟨h1, h2, h3⟩
  · rw [if_neg q, if_neg q]; exact Paired.snoc r ⟨rfl, rfl, rv⟩
theorem TV.length {xs : List (NestedKey × Addr × V)} {ys : List (NestedKey × Addr × Value)} (r : TV xs ys) : xs.length = ys.length := Paired.length r
end
section
variable {X : Cx} {cl : Str → Option Addr} {pins : List (Addr × Obj)} {σ : L2.St} {H M : Hp} {s : Shared} {a : Addr} {ds : List (D × D)}
mutual
/-- data that is a key, in the run's heap -/
theorem nested_is (I : Inv X pins σ H s) (sm : Sub M H) : ∀ {v : V} {d : D} {k : NestedKey} {u : Value}, Rep (gl X cl) M v d → d.key = some k → RelV v u → NestedIs s.heap k u
  | _, .non, k, u, h, e, r => by
    cases h; cases e
    obtain rfl : u = Value.none := r
    exact .none
  | _, .int i, k, u, h, e, r => by
    cases h; cases e
    obtain ⟨t, rfl⟩ := (show ∃ t, u = Value.int i t from r)
    exact .int i t
  | _, .str x, k, u, h, e, r => by
    cases h; cases e
    obtain ⟨t, rfl⟩ := (show ∃ t, u = Value.str x t from r)
    exact .text x t
  | _, .tup l, k, u, h, e, r => by
    rw [D.key] at e
    obtain ⟨ks, he, rfl⟩ := Option.map_eq_some_iff.mp e
    cases h with
    | tup hs hr hz =>
      rename_i b vs
      obtain rfl : u = Value.ref b := r
      obtain ⟨its, rv, p, _⟩ := I.tuple (sm.sqT hs)
      obtain ⟨o, h1, h2, n, h3⟩ := p
      exact .tup h1 h2 h3 (nested_all I sm hr he rv)
  | _, .bl _, _, _, _, e, _ => by simp [D.key] at e
  | _, .lst _, _, _, _, e, _ => by simp [D.key] at e
  | _, .dic _, _, _, _, e, _ => by simp [D.key] at e
  | _, .obj _ _, _, _, _, e, _ => by simp [D.key] at e
  | _, .scr _, _, _, _, e, _ => by simp [D.key] at e
theorem nested_all (I : Inv X pins σ H s) (sm : Sub M H) : ∀ {vs : List V} {l : List D} {ks : List NestedKey} {us : List Value}, Reps (gl X cl) M vs l → D.keys l = some ks → Vals vs us → NestedAll s.heap ks us
  | _, [], ks, us, h, e, r => by
    cases h
    rw [D.keys] at e; cases e
    cases r
    exact .nil
  | _, d :: ds, ks, us, h, e, r => by
    rw [D.keys] at e
    split at e
    · rename_i k ks' h1 h2
      cases e
      cases h with
      | cons q1 q2 =>
        cases r with
        | cons r1 r2 => exact .cons (nested_is I sm q1 h1 r1) (nested_all I sm q2 h2 r2)
    · cases e
end
/-- what the run's heap holds of a dict with tuple keys -/
theorem dit_at {xs : List (NestedKey × Addr × V)} (I : Inv X pins σ H s) (sm : Sub M H) (e : H a = some (dtO X.prog X.w a xs)) (r : RepT (gl X cl) M xs ds) :
    xs.length ≤ sizeLine ∧ (a == sysModules) = false ∧ ∃ ys, TV xs ys ∧ s.heap.DictOfH (nestedKind X.prog X.w) a ys := by
  obtain ⟨⟨hd, hz, ys, tv, o, es, ep, h1, h2, h3, h4, h5⟩, z1, z2⟩ := (show ObjOk X.prog X.w H s.heap a (dtO X.prog X.w a xs) from I.hok a _ e)
  refine ⟨hz, hd, ys, tv, o, es, ep, h1, h2, h3, h4, ?_, h5⟩
  clear h1 h2 h3 h4 h5 hz e z1 z2
  induction tv generalizing ds with
  | nil => intro x hx; exact nomatch hx
  | @cons p q ps qs hq t ih =>
    cases r with
    | cons k1 k2 k3 k4 k5 =>
      intro x hx
      rcases List.mem_cons.mp hx with z | z
      · subst z
        obtain ⟨z1, z2, _⟩ := hq
        refine ⟨?_, by rw [← z1]; exact k2⟩
        rw [← z1, ← z2]
        exact nested_is I sm k3 k1 rfl
      · exact ih k5 x z
theorem dit_new {P : Program} {w : World} {H' : Hp} {h' : Heap} {xs : List (NestedKey × Addr × V)} {ys : List (NestedKey × Addr × Value)} (hz : xs.length ≤ sizeLine) (hd : (a == sysModules) = false) (tv : TV xs ys) (dd : h'.DictOfH (nestedKind P w) a ys) : ObjOk P w H' h' a (dtO P w a xs) := by
  obtain ⟨o, es, ep, h1, h2, h3, h4, _, h5⟩ := dd
  refine ⟨⟨hd, hz, ys, tv, o, es, ep, h1, h2, h3, h4, h5⟩, ⟨o, h1⟩, fun k1 k2 hk keep => ?_⟩
  obtain ⟨hd, hz, ys, tv, o, es, ep, h1, h2, h3, h4, h5⟩ := hk
  exact ⟨hd, hz, ys, tv, o, es, ep, keep o h1, h2, h3, h4, h5⟩
/-- an empty dict is of both kinds -/
theorem dz_T (I : Inv X pins σ H s) (e : H a = some (.dK [])) : Inv X pins σ (upd H a (dtO X.prog X.w a [])) s := by
  obtain ⟨hz, hd, vs, rel, dd⟩ := dk_of I.hok e
  cases rel
  obtain ⟨o, es, ep, h1, h2, h3, h4⟩ := dd
  refine I.write (x := a) (e := a) (by rw [e]; exact True.intro) (.inl rfl) (fun _ _ _ z => z) ⟨o, h1⟩ ?_
  obtain ⟨k1, k2, _⟩ := h4
  have e5 : es.toList = [] := by
    cases q : es.toList with
    | nil => rfl
    | cons p r => rw [q] at k2; cases k2
  refine dit_new (Nat.zero_le _) hd (ys := []) .nil ⟨o, es, ep, h1, h2, h3, e5, fun x hx => (List.not_mem_nil hx).elim, List.nodup_nil⟩
theorem dz_K (I : Inv X pins σ H s) (e : H a = some (dtO X.prog X.w a [])) : Inv X pins σ (upd H a (.dK [])) s := by
  obtain ⟨⟨hd, hz, ys, tv, o, es, ep, h1, h2, h3, h4, h5⟩, _⟩ := (show ObjOk X.prog X.w H s.heap a (dtO X.prog X.w a []) from I.hok a _ e)
  cases tv
  refine I.write (x := a) (e := a) (by rw [e]; exact True.intro) (.inl rfl) (fun _ _ _ z => z) ⟨o, h1⟩ ?_
  have e4 : es = #[] := Array.toList_inj.mp (by simpa using h4)
  subst e4
  exact ⟨Nat.zero_le _, hd, [], .nil, o, #[], ep, h1, h2, h3, fun x hx => by simp at hx, .nil, List.nodup_nil⟩
/-- of a dict that is looked at: its object -/
theorem PRep.dic {g : Gl0} {x : V} (sm : Sub M H) (h : PRep g M H x (.dic ds)) : ∃ a o, x = .ref a ∧ H a = some o ∧ RepO g M a o (.dic ds) := by
  rcases h with h | ⟨a, o, rfl, e, r⟩
  · cases h with
    | dik h r => exact ⟨_, _, rfl, sm _ _ h, .dik r⟩
    | dit h r => exact ⟨_, _, rfl, sm _ _ h, .dit r⟩
  · exact ⟨a, o, rfl, e, r⟩
theorem upd_back {H : Hp} {a : Addr} {o o' : HO} (e : H a = some o) : upd (upd H a o') a o = H := by
  funext b
  by_cases q : b = a
  · subst q; rw [upd_same, e]
  · rw [upd_ne q, upd_ne q]
theorem repK_flat : ∀ {kvs : List (Key × V)} {ds : List (D × D)} {g : Gl0}, RepK g M kvs ds → ds.all (fun p => p.1.isTup) = true → kvs = [] ∧ ds = []
  | _, _, _, .nil, _ => ⟨rfl, rfl⟩
  | _, _, _, .cons (k := k) h _ _, e => by
    rw [List.all_cons, Bool.and_eq_true] at e
    have := rep_kV h
    rw [this] at e
    cases k <;> cases e.1
theorem repT_tup : ∀ {kvs : List (NestedKey × Addr × V)} {ds : List (D × D)} {g : Gl0}, RepT g M kvs ds → ds.all (fun p => !p.1.isTup) = true → kvs = [] ∧ ds = []
  | _, _, _, .nil, _ => ⟨rfl, rfl⟩
  | _, _, _, .cons (kd := kd) h1 _ h3 _ _, e => by
    rw [List.all_cons, Bool.and_eq_true] at e
    have e1 := e.1
    cases kd with
    | tup l => cases e1
    | _ => first | (simp [D.key] at h1; done) | cases h3
/-- what the run's heap holds of a dict, by the keys' kind -/
theorem view_T (I : Inv X pins σ H s) (sm : Sub M H) {o : HO} (e : H a = some o) (r : RepO (gl X cl) M a o (.dic ds)) (hk : ds.all (fun p => p.1.isTup) = true) :
    (a == sysModules) = false ∧ ds.length ≤ sizeLine ∧ ∃ xs ys, RepT (gl X cl) M xs ds ∧ TV xs ys ∧ s.heap.DictOfH (nestedKind X.prog X.w) a ys := by
  cases r with
  | dit r =>
    obtain ⟨h1, h2, ys, h3, h4⟩ := dit_at I sm e r
    exact ⟨h2, by rw [← r.length]; exact h1, _, ys, r, h3, h4⟩
  | dik r =>
    obtain ⟨rfl, rfl⟩ := repK_flat r hk
    obtain ⟨h1, h2, ys, h3, h4⟩ := dit_at (cl := cl) (M := fun _ => none) (ds := []) (dz_T I e) (fun _ _ z => nomatch z) upd_same .nil
    exact ⟨h2, Nat.zero_le _, [], ys, .nil, h3, h4⟩
theorem view_K (I : Inv X pins σ H s) {o : HO} (e : H a = some o) (r : RepO (gl X cl) M a o (.dic ds)) (hk : ds.all (fun p => !p.1.isTup) = true) :
    (a == sysModules) = false ∧ ds.length ≤ sizeLine ∧ ∃ xs ys, RepK (gl X cl) M xs ds ∧ KV xs ys ∧ s.heap.DictOf (mixKind X.prog X.w) a ys := by
  cases r with
  | dik r =>
    obtain ⟨h1, h2, ys, h3, h4⟩ := dk_of I.hok e
    exact ⟨h2, by rw [← r.length]; exact h1, _, ys, r, h3, h4⟩
  | dit r =>
    obtain ⟨rfl, rfl⟩ := repT_tup r hk
    obtain ⟨h1, h2, ys, h3, h4⟩ := dk_of (dz_K I e).hok upd_same
    exact ⟨h2, Nat.zero_le _, [], ys, .nil, h3, h4⟩
theorem mut_dic {g : Gl0} {o : HO} (r : RepO g M a o (.dic ds)) : Mut (some o) := by
  cases r with
  | dik r => exact True.intro
  | dit r => exact True.intro
/-- where a tuple's parts are data, its own object is no dict -/
theorem sub_upd {M H : Hp} {a : Addr} {o : HO} (sm : Sub M H) (h : M a = none ∨ H a = some o) : Sub M (upd H a o) := fun b u q => by
  by_cases z : b = a
  · subst z
    rcases h with h | h
    · rw [h] at q; cases q
    · rw [upd_same, ← h]; exact sm _ _ q
  · rw [upd_ne z]; exact sm _ _ q
end
end Ev
set_option Elab.async false
set_option linter.all false
set_option autoImplicit false
set_option maxRecDepth 100000
/-! What is done with dicts. -/
namespace Ev
open PySem L2 PySem.Spec PyProof.Rows
noncomputable def pDIx : List D → Option Vl
  | [.dic ds, k] => if dkOk ds k = true then (dget ds k).map fz else none
  | _ => none
noncomputable def pDIn : List D → Option Vl
  | [k, .dic ds] => if dkOk ds k = true then some (fz (.bl (dget ds k).isSome)) else none
  | _ => none
noncomputable def pDNotIn : List D → Option Vl
  | [k, .dic ds] => if dkOk ds k = true then some (fz (.bl (!(dget ds k).isSome))) else none
  | _ => none
def pDLen : List D → Option Vl
  | [.dic ds] => some (fz (.int ds.length))
  | _ => none
noncomputable def pDGet : List D → Option Vl
  | [.dic ds, k] => if dkOk ds k = true then some (fz ((dget ds k).getD .non)) else none
  | _ => none
section
variable {X : Cx} {cl : Str → Option Addr} {pins : List (Addr × Obj)} {σ : L2.St} {H M : Hp} {s : Shared} {a : Addr} {ds : List (D × D)} {A : Around} {E : Value → Shared → Prop}
theorem dk_cases {k : D} (h : dkOk ds k = true) : (∃ k', k = kD k' ∧ ds.all (fun p => !p.1.isTup) = true) ∨ ∃ l k', k = .tup l ∧ D.key (.tup l) = some k' ∧ k'.depth ≤ 8 ∧ ds.all (fun p => p.1.isTup) = true := by
  unfold dkOk at h
  split at h
  · exact .inl ⟨.inl _, rfl, h⟩
  · exact .inl ⟨.inr _, rfl, h⟩
  · rw [Bool.and_eq_true] at h
    unfold kdp at h
    split at h
    · rename_i k' hk
      exact .inr ⟨_, k', rfl, hk, of_decide_eq_true h.1, h.2⟩
    · cases h.1
  · cases h
theorem prep_kD {k : Key} {y : V} (h : PRep (gl X cl) M H y (kD k)) : y = kV k ∧ Rep (gl X cl) M (kV k) (kD k) := by
  cases k with
  | inl i =>
    have e := PRep.int (i := i) h
    rw [e]; exact ⟨rfl, .int i⟩
  | inr x =>
    obtain ⟨e, r⟩ := PRep.str (i := x) h
    rw [e]; exact ⟨rfl, .str x r⟩
theorem OR.get {α β : Type} {R : α → β → Prop} {a : Option α} {b : Option β} {y : β} (h : OR R a b) (e : b = some y) : ∃ x, a = some x ∧ R x y := by
  subst e
  cases a with
  | none => exact h.elim
  | some x => exact ⟨x, rfl, h⟩
/-- what a read needs of a dict and a key -/
theorem dread {x y : V} {k : D} {u : Value} {P : Prop} (I : Inv X pins σ H s) (sm : Sub M H) (hd : PRep (gl X cl) M H x (.dic ds)) (hy : PRep (gl X cl) M H y k) (ry : RelV y u) (ok : dkOk ds k = true)
    (h1 : ∀ a k' vs (o : Option V), x = .ref a → (a == sysModules) = false → s.heap.DictOf (mixKind X.prog X.w) a vs → (mixKind X.prog X.w).is k' u = true → RelO o (valueAt vs k') → OR (Rep (gl X cl) M) o (dget ds k) → P)
    (h2 : ∀ a b k' ys (o : Option V), x = .ref a → u = .ref b → (a == sysModules) = false → s.heap.DictOfH (nestedKind X.prog X.w) a ys → (nestedKind X.prog X.w).is s.heap k' b → RelO o ((atKey ys k').map (·.2)) → OR (Rep (gl X cl) M) o (dget ds k) → P) : P := by
  obtain ⟨a, ob, ex, ea, ro⟩ := hd.dic sm
  rcases dk_cases ok with ⟨k', rfl, hk⟩ | ⟨l, k', rfl, hk, hz, hk2⟩
  · obtain ⟨ha, hl, xs, ys, h3, h4, h5⟩ := view_K I ea ro hk
    obtain ⟨rfl, hr⟩ := prep_kD hy
    exact h1 a k' ys _ ex ha h5 (kV_is ry) (h4.val k') (repK_get hr h3)
  · obtain ⟨ha, hl, xs, ys, h3, h4, h5⟩ := view_T I sm ea ro hk2
    obtain ⟨b, vs, rfl, _, _, hr, _⟩ := hy.tup sm
    obtain rfl : u = Value.ref b := ry
    exact h2 a b k' ys _ ex rfl ha h5 ⟨nested_is I sm hr hk rfl, hz⟩ (h4.val k') (repT_get hk h3)
theorem nroom {A : Around} (hu : A.units + 65 < cLine) : (nestedKind X.prog X.w).room A.in1 := by
  show A.units + 1 + 8 < cLine
  omega
theorem ix_dicP (hu : X.A.units + 65 < cLine) : IxR X (rP2 (gl X cl) pDIx) := by
  intro value slice pins s σ H x y v u Q I rx ry h hs
  obtain ⟨M, ds, w, sm, pr, hp, k⟩ := h
  unfold pDIx at hp
  split at hp
  · split at hp
    · rename_i hok
      obtain ⟨q1, q2⟩ := preps2 pr
      obtain ⟨d, hd, rfl⟩ := Option.map_eq_some_iff.mp hp
      have go : ∀ a, x = .ref a → s.TypeIs (.ref a) "dict" → wpAny (model X.prog X.w) X.A (getItem (.ref a) u) (EP X pins σ Q) X.xe s → wpAny (model X.prog X.w) X.A (subscriptTail value slice v u) (EP X pins σ Q) X.xe s := by
        intro a e hT hg
        subst e
        obtain rfl : v = Value.ref a := rx
        unfold subscriptTail
        refine wpAny_bind ?_
        rw [getitemInPython_of_ne hT.not_modules]
        refine wpAny_bind (wpAny_specialOf hT PySem.F.slot_dict_getitem.lookup ?_)
        have fin : wpAny (model X.prog X.w) X.A (subscripted slice false (.ref a) u) (fun r s₃ => wpAny (model X.prog X.w) X.A (letTemporaryGo value (.ref a) r >>= fun _ => pure r) (EP X pins σ Q) X.xe s₃) X.xe s := by
          rw [hs]
          exact wpAny_operating (wpAny_mono hg (fun r s₃ h₃ => wpAny_bind (wpAny_letTemporaryGo (wpAny_pure h₃))) fun _ _ x => x)
        first
          | exact wpAny_pure (wpAny_bind fin)
          | exact wpAny_bind (wpAny_pure (wpAny_bind fin))
          | exact wpAny_bind fin
      refine dread I sm q1 q2 ry hok (fun a k' vs o e ha dd hk ro hor => ?_) (fun a b k' ys o e eu ha dd hk ro hor => ?_)
      · obtain ⟨z, rfl, rz⟩ := hor.get hd
        obtain ⟨w', hw, rw'⟩ := RelO.some_of ro
        refine go a e dd.typeIs (wpAny_getItem_of hk dd.mapOf hw ⟨z, H, I.tok _, rw', rPs.fz k sm rz⟩)
      · subst eu
        obtain ⟨z, rfl, rz⟩ := hor.get hd
        obtain ⟨w', hw, rw'⟩ := RelO.some_of ro
        obtain ⟨p, hp1, hp2⟩ := Option.map_eq_some_iff.mp hw
        refine go a e dd.typeIs (wpAny_getItem_heap (nroom hu) hk dd hp1 ?_)
        rw [hp2]
        exact ⟨z, H, I.tok _, rw', rPs.fz k sm rz⟩
    · cases hp
  · cases hp
theorem op_dinP (hu : X.A.units + 65 < cLine) : OpR X (compareOp .In) (rP2 (gl X cl) pDIn) := by
  intro pins s σ H x y v u Q I rx ry h
  obtain ⟨M, ds, w, sm, pr, hp, k⟩ := h
  unfold pDIn at hp
  split at hp
  · split at hp
    · rename_i hok
      cases hp
      obtain ⟨q1, q2⟩ := preps2 pr
      refine dread I sm q2 q1 rx hok (fun a k' vs o e ha dd hk ro hor => ?_) (fun a b k' ys o e eu ha dd hk ro hor => ?_)
      · subst e
        obtain rfl : u = Value.ref a := ry
        refine wpAny_in_of hk ha dd.mapOf ?_
        rw [← ro.isSome_eq, hor.isSome]
        exact ⟨.bl _, H, I.tok _, rfl, rPs.fz k sm (.bl _)⟩
      · subst e eu
        obtain rfl : u = Value.ref a := ry
        refine wpAny_in_heap (nroom hu) hk ha dd ?_
        have q := ro.isSome_eq
        rw [Option.isSome_map] at q
        rw [← q, hor.isSome]
        exact ⟨.bl _, H, I.tok _, rfl, rPs.fz k sm (.bl _)⟩
    · cases hp
  · cases hp
theorem op_dnotInP (hu : X.A.units + 65 < cLine) : OpR X (compareOp .NotIn) (rP2 (gl X cl) pDNotIn) := by
  intro pins s σ H x y v u Q I rx ry h
  obtain ⟨M, ds, w, sm, pr, hp, k⟩ := h
  unfold pDNotIn at hp
  split at hp
  · split at hp
    · rename_i hok
      cases hp
      obtain ⟨q1, q2⟩ := preps2 pr
      refine dread I sm q2 q1 rx hok (fun a k' vs o e ha dd hk ro hor => ?_) (fun a b k' ys o e eu ha dd hk ro hor => ?_)
      · subst e
        obtain rfl : u = Value.ref a := ry
        refine wpAny_notIn_of hk ha dd.mapOf ?_
        rw [← ro.isSome_eq, hor.isSome]
        exact ⟨.bl _, H, I.tok _, rfl, rPs.fz k sm (.bl _)⟩
      · subst e eu
        obtain rfl : u = Value.ref a := ry
        refine wpAny_notIn_heap (nroom hu) hk ha dd ?_
        have q := ro.isSome_eq
        rw [Option.isSome_map] at q
        rw [← q, hor.isSome]
        exact ⟨.bl _, H, I.tok _, rfl, rPs.fz k sm (.bl _)⟩
    · cases hp
  · cases hp
theorem repK_keys {g : Gl0} : ∀ {kvs : List (Key × V)} {ds : List (D × D)}, RepK g M kvs ds → Reps g M (kvs.map fun p => kV p.1) (ds.map (·.1))
  | _, _, .nil => .nil
  | _, _, .cons q _ t => .cons q (repK_keys t)
theorem repT_keys {g : Gl0} : ∀ {kvs : List (NestedKey × Addr × V)} {ds : List (D × D)}, RepT g M kvs ds → Reps g M (kvs.map fun p => V.ref p.2.1) (ds.map (·.1))
  | _, _, .nil => .nil
  | _, _, .cons _ _ q _ t => .cons q (repT_keys t)
theorem draw_of {o : HO} (I : Inv X pins σ H s) (sm : Sub M H) (e : H a = some o) (r : RepO (gl X cl) M a o (.dic ds)) :
    (a == sysModules) = false ∧ ds.length ≤ sizeLine ∧ ∃ es ep, s.heap.DictRaw a es ep ∧ es.size = ds.length ∧ ∃ ks : List V, Reps (gl X cl) M ks (ds.map (·.1)) ∧ Vals ks (es.toList.map (·.key)) := by
  cases r with
  | dik r =>
    obtain ⟨h1, h2, ys, h3, h4⟩ := dk_of I.hok e
    obtain ⟨o, es, ep, g1, g2, g3, g4, g5, g6⟩ := h4
    rename_i kvs
    refine ⟨h2, by rw [← r.length]; exact h1, es, ep, ⟨o, g1, g2, g3⟩, ?_, kvs.map (fun p => kV p.1), ?_, ?_⟩
    · rw [← Array.length_toList, g5.length, ← h3.length, r.length]
    · exact repK_keys r
    · have g5' := g5
      clear r e h1 g1 g2 g3 g4 g5 g6
      generalize es.toList = l at g5'
      unfold KV at h3
      induction h3 generalizing l with
      | nil => cases g5'; exact .nil
      | cons q t ih =>
        cases g5' with
        | cons z1 z2 z3 =>
          refine .cons ?_ (ih _ z3)
          have q1 := relV_key (show keyIs _ _ = true from z1)
          rw [← q.1] at q1
          exact q1
  | dit r =>
    obtain ⟨h1, h2, ys, h3, h4⟩ := dit_at I sm e r
    obtain ⟨o, es, ep, g1, g2, g3, g4, g5, g6⟩ := h4
    rename_i kvs
    refine ⟨h2, by rw [← r.length]; exact h1, es, ep, ⟨o, g1, g2, g3⟩, ?_, kvs.map (fun p => V.ref p.2.1), ?_, ?_⟩
    · rw [← Array.length_toList, g4, List.length_map, ← h3.length, r.length]
    · exact repT_keys r
    · rw [g4]
      clear r e h1 g1 g2 g3 g4 g5 g6
      induction h3 with
      | nil => exact .nil
      | cons q t ih =>
        refine .cons ?_ ih
        have q1 := q.2.1
        show Value.ref _ = Value.ref _
        rw [q1]
/-! ### a dict's item is set -/
def rDPut (g : Gl0) (y z : V) (D : Addr) (H : Hp) (Nx : Hp → Prop) : Prop := ∃ M o ds kd d, H D = some o ∧ RepO g M D o (.dic ds) ∧ Sub M H ∧ Rep g M y kd ∧ Rep g M z d ∧ dkOk ds kd = true ∧ ds.length < sizeLine ∧ ∀ o', RepO g M D o' (.dic (dput ds kd d)) → Nx (upd H D o')
theorem dput_len (ds : List (D × D)) (k v : D) : (dput ds k v).length ≤ ds.length + 1 := by
  unfold dput
  split
  · rw [List.length_map]; omega
  · simp
/-- the two ways to set -/
theorem dput_go {y z : V} {D : Addr} {u r : Value} {Nx : Hp → Prop} {P : Prop} (I : Inv X pins σ H s) (h : rDPut (gl X cl) y z D H Nx) (ry : RelV y u) (rz : RelV z r)
    (h1 : ∀ k vs, vs.length ≤ sizeLine → (mixKind X.prog X.w).is k u = true → s.heap.DictOf (mixKind X.prog X.w) D vs → (∀ h' t', h'.DictOf (mixKind X.prog X.w) D (stored vs k r) → Heap.SameBut D s.heap h' → ∃ H', Inv X pins σ H' { s with heap := h', toks := t' } ∧ Nx H') → P)
    (h2 : ∀ k b vs, vs.length ≤ sizeLine → u = .ref b → (nestedKind X.prog X.w).is s.heap k b → s.heap.DictOfH (nestedKind X.prog X.w) D vs → (∀ h' t', h'.DictOfH (nestedKind X.prog X.w) D (storedH vs k b r) → Heap.SameBut D s.heap h' → ∃ H', Inv X pins σ H' { s with heap := h', toks := t' } ∧ Nx H') → P) : P := by
  obtain ⟨M, o, ds, kd, d, hD, ro, sm, hk, hz, ok, hl, nx⟩ := h
  rcases dk_cases ok with ⟨k', rfl, hk1⟩ | ⟨l, k', rfl, hk1, hdp, hk2⟩
  · obtain ⟨ha, hl', xs, ys, g1, g2, g3⟩ := view_K I hD ro hk1
    obtain ⟨rfl, hr⟩ := prep_kD (H := H) (.inl hk)
    have hls : ys.length = ds.length := by rw [← g2.length, g1.length]
    refine h1 k' ys (by omega) (kV_is ry) g3 fun h' t' dd' hs => ?_
    have q := repK_put hr hz g1
    refine ⟨upd H D (.dK (putK xs k' z)), d_write I (by rw [hD]; exact mut_dic ro) hs (let ⟨q, _, _, hq, _⟩ := dd'; ⟨q, hq⟩) (dk_new ?_ ha (g2.put k' rz) dd'), nx _ (.dik q)⟩
    rw [q.length]
    have := dput_len ds (kD k') d
    omega
  · obtain ⟨ha, hl', xs, ys, g1, g2, g3⟩ := view_T I sm hD ro hk2
    obtain ⟨b, vs, rfl, _, _, hr, _⟩ := PRep.tup (H := H) sm (.inl hk)
    obtain rfl : u = Value.ref b := ry
    have hls : ys.length = ds.length := by rw [← g2.length, g1.length]
    refine h2 k' b ys (by omega) rfl ⟨nested_is I sm hr hk1 rfl, hdp⟩ g3 fun h' t' dd' hs => ?_
    have q := repT_put hk1 hdp hk hz g1
    refine ⟨upd H D (dtO X.prog X.w D (tput xs k' b z)), d_write I (by rw [hD]; exact mut_dic ro) hs (let ⟨q, _, _, hq, _⟩ := dd'; ⟨q, hq⟩) (dit_new ?_ ha (g2.put k' rz) dd'), nx _ (.dit q)⟩
    rw [q.length]
    have := dput_len ds (.tup l) d
    omega
theorem dput_item {y z : V} {D : Addr} {u r : Value} {Nx : Hp → Prop} (hu : X.A.units + 65 < cLine) (I : Inv X pins σ H s) (h : rDPut (gl X cl) y z D H Nx) (ry : RelV y u) (rz : RelV z r) :
    wpAny (model X.prog X.w) X.A (setItem (.ref D) u r) (fun _ s' => ∃ H', Inv X pins σ H' s' ∧ Nx H') X.xe s := by
  refine dput_go I h ry rz (fun k vs hz hk dd fin => ?_) fun k b vs hz eu hk dd fin => ?_
  · exact wpAny_setItem_pairs (hsz := hz) hk dd fun h' dd' hs => fin h' _ dd' hs
  · subst eu
    exact wpAny_setItem_heap (hsz := hz) (nroom hu) hk dd fun h' dd' hs => fin h' _ dd' hs
theorem dput_set {y z : V} {D : Addr} {u r : Value} {Nx : Hp → Prop} {E : Value → Shared → Prop} (hu : X.A.units + 65 < cLine) (I : Inv X pins σ H s) (h : rDPut (gl X cl) y z D H Nx) (ry : RelV y u) (rz : RelV z r) :
    wpAny (model X.prog X.w) X.A (dictSet D u r) (fun _ s' => ∃ H', Inv X pins σ H' s' ∧ Nx H') E s := by
  refine dput_go I h ry rz (fun k vs hz hk dd fin => ?_) fun k b vs hz eu hk dd fin => ?_
  · exact wpAny_dictSet_pairs (hsz := hz) hk dd fun h' dd' hs => fin h' _ dd' hs
  · subst eu
    refine wpAny_dictSet_heap (hsz := hz) ?_ hk dd fun h' dd' hs => fin h' _ dd' hs
    show X.A.units + 8 < cLine
    omega
def rDSet (g : Gl0) : TSet := fun o i v H Q => ∃ a, o = .ref a ∧ rDPut g i v a H Q
theorem set_dic (hu : X.A.units + 65 < cLine) : PSet X (rDSet (gl X cl)) := by
  intro pins s σ H o i v ov iv u Q I ro ri rv h
  obtain ⟨a, rfl, h⟩ := h
  obtain rfl : ov = Value.ref a := ro
  exact dput_item hu I h ri rv
/-! ### len, sorted -/
theorem len_raw {d : Addr} {es : Array DictEntry} {ep : Nat} {Q : Value → Shared → Prop} (hd : (d == sysModules) = false) (hm : s.heap.DictRaw d es ep) (hfit : (es.size : Int) < 2 ^ 63)
    (h : Q (.int es.size (s.toks + 1)) { s with toks := s.toks + 1 + 1 }) : wpAny (model X.prog X.w) A (call (.builtin "len") [.ref d]) Q E s := by
  refine Calls.call_function_entry kind_len plain_len entry_len (args_len1 _) ?_
  unfold Builtin.«len»
  refine wpAny_bind (m := oneArg "len" _) (wpAny_pure ?_)
  refine wpAny_bind (m := callSpecial? (.ref d) (Str.ofString "__len__")) (wpAny_callSpecial?_slot (name := Str.ofString "__len__") hm.typeIs F.slot_dict_len (call_len_raw hd hm ?_))
  show wpAny _ _ _ _ _ { s with toks := s.toks + 1 }
  refine wpAny_bind (wpAny_holding (wpAny_pure ?_))
  refine wpAny_bind (wpAny_letGo ?_)
  show wpAny _ _ (if ((es.size : Nat) : Int) < 0 then _ else _) _ _ _
  rw [if_neg (by omega)]
  show wpAny _ _ (if ((es.size : Nat) : Int) ≥ 2 ^ 63 then _ else _) _ _ _
  rw [if_neg (by omega)]
  exact wpAny_bind (wpAny_mkInt (wpAny_pure ⟨_, rfl, h⟩))
theorem cr_dlenP : CallR X (.builtin "len") (rPs (gl X cl) pDLen) := by
  intro pins s σ H xs us Q I r h
  obtain ⟨M, ds, w, sm, pr, hp, k⟩ := h
  unfold pDLen at hp
  split at hp
  · cases hp
    obtain ⟨x, rfl, q⟩ := preps1 pr
    obtain ⟨a, o, rfl, ea, ro⟩ := q.dic sm
    rw [Vals.ref1 r]
    obtain ⟨ha, hl, es, ep, h1, h2, _⟩ := draw_of I sm ea ro
    refine len_raw ha h1 (by rw [h2]; rw [sizeLine_eq] at hl; omega) ?_
    rw [h2]
    exact ⟨.int _, H, I.tok _, ⟨_, rfl⟩, rPs.fz k sm (.int _)⟩
  · cases hp
theorem collect_raw {d : Addr} {es : Array DictEntry} {ep : Nat} {R : List Value → Shared → Prop} (hd : (d == sysModules) = false) (hm : s.heap.DictRaw d es ep) (hh : A.handled = none) (hn : es.size ≤ sizeLine)
    (h : ∀ (h' : Heap) (tk : Nat), (∀ b o, s.heap.get? b = some o → h'.get? b = some o) → s.heap.objs.size < h'.objs.size → R (es.toList.map (·.key)) { s with heap := h', toks := tk }) : wpAny (model X.prog X.w) A (collect (.ref d)) R E s := by
  have K := KdlSrc.rawDict (prog := X.prog) (w := X.w) (es := es) (ep := ep) hd
  have hlt := K.there _ hm
  have hnew : (s.heap.push { cls := .type "list", data := .seq ([] : List Value).toArray }).get? s.heap.objs.size = some { cls := .type "list", data := .seq #[] } := Heap.get?_push_size _ rfl
  unfold collect
  refine wpAny_bind (wpAny_runValue (codeAny_builtin entry_proto_collect' ?_))
  rw [Around.under_plainId PySem.F.plain_proto_collect _]
  show wpAny _ A.in1 (newList [] >>= fun l => again (.builtin "list.__iadd__" ⟨[l, .ref d], []⟩)) _ _ s
  refine wpAny_bind (wpAny_newObj_type (wpAny_pure ⟨plainId_quiet PySem.F.plain_list_iadd _, codeAny_builtin entry_list_iadd' ?_⟩))
  rw [Around.under_plainId PySem.F.plain_list_iadd _]
  have fin : ∀ (h' : Heap) (tk : Nat) (acc : Array Value) (c : Nat), (∀ b o, b ≠ s.heap.objs.size → (s.heap.push { cls := .type "list", data := .seq ([] : List Value).toArray }).get? b = some o → h'.get? b = some o) →
      h'.get? s.heap.objs.size = some { cls := .type "list", dict := none, data := .seq acc c, slots := #[] } → ItemsOf (fun i v => ∃ hi : i < es.size, v = es[i].key) acc es.size →
      wpAny (model X.prog X.w) A (load s.heap.objs.size) (fun o s' => wpAny (model X.prog X.w) A (match o.data with | .seq xs _ => pure xs.toList | _ => unsupported "internal:collect") R E s') E { s with heap := h', toks := tk } := by
    intro h' tk acc c hk hS hacc
    refine wpAny_load hS (wpAny_pure ?_)
    have e1 : acc.toList = es.toList.map (·.key) := by
      apply List.ext_getElem
      · rw [List.length_map, Array.length_toList, Array.length_toList]; exact hacc.1
      · intro i h1 h2
        obtain ⟨hi, e⟩ := hacc.2 i acc.toList[i] (by rw [← Array.getElem?_toList]; exact List.getElem?_eq_getElem h1)
        rw [e, List.getElem_map, Array.getElem_toList]
    show R acc.toList _
    rw [e1]
    exact h h' tk (fun b o e => hk b o (Nat.ne_of_lt (Heap.lt_size e)) (Heap.get?_push_of_some _ e)) (Heap.lt_size hS)
  have key := PySem.W.kdl_extend (A := A) (s := { s with heap := s.heap.push { cls := .type "list", data := .seq ([] : List Value).toArray } })
    (R := fun (q : Result) (s' : Shared) => ∃ (h' : Heap) (tk : Nat) (acc : Array Value) (c : Nat), q = .ok (.ret (.ref s.heap.objs.size)) ∧ s' = { s with heap := h', toks := tk } ∧
      (∀ b o, b ≠ s.heap.objs.size → (s.heap.push { cls := .type "list", data := .seq ([] : List Value).toArray }).get? b = some o → h'.get? b = some o) ∧ h'.get? s.heap.objs.size = some { cls := .type "list", dict := none, data := .seq acc c, slots := #[] } ∧ ItemsOf (fun i v => ∃ hi : i < es.size, v = es[i].key) acc es.size)
    K hh (K.keep _ _ hm fun b _ o e => Heap.get?_push_of_some _ e) s.heap.objs.size (Nat.ne_of_gt hlt.1) (Nat.ne_of_gt hlt.2) (.ref s.heap.objs.size) 0 hnew
    (fun h' tk acc c hk hS hacc => ⟨h', tk, acc, c, rfl, rfl, hk, hS, hacc⟩) hn
  refine wpAny_mono key (fun fi s' x => ?_) fun e s' x => ?_
  · cases fi with
    | done f =>
      obtain ⟨h', tk, acc, c, e, rfl, hk, hS, hacc⟩ := x
      cases e
      exact wpAny_bind (fin h' tk acc c hk hS hacc)
    | again c₁ =>
      refine ⟨x.1, codeAny_mono x.2 fun q s₂ y => ?_⟩
      obtain ⟨h', tk, acc, c, rfl, rfl, hk, hS, hacc⟩ := y
      exact wpAny_bind (fin h' tk acc c hk hS hacc)
  · obtain ⟨_, _, _, _, e', _⟩ := x
    cases e'
theorem sorted_raw {d : Addr} {es : Array DictEntry} {ep : Nat} {Q : Value → Shared → Prop} (hd : (d == sysModules) = false) (hm : s.heap.DictRaw d es ep) (hh : A.handled = none) (hn : es.size ≤ sizeLine)
    (h : ∀ (h' : Heap) (tk : Nat), (∀ b o, s.heap.get? b = some o → h'.get? b = some o) → s.heap.objs.size < h'.objs.size →
      wpAny (model X.prog X.w) A.in1 (call (.builtin "list.sort") [.ref h'.objs.size]) (fun _ s' => Q (.ref h'.objs.size) s') E { s with heap := h'.push { cls := .type "list", data := .seq (es.toList.map (·.key)).toArray }, toks := tk }) :
    wpAny (model X.prog X.w) A (call (.builtin "sorted") [.ref d]) Q E s := by
  refine Calls.call_function_entry kind_sorted plain_sorted entry_sorted (args_sorted1 _) ?_
  unfold Builtin.«sorted»
  refine wpAny_bind (m := checkCount "sorted" 1 1 _) (wpAny_pure ?_)
  refine wpAny_bind (collect_raw (A := A.in1) hd hm hh hn fun h' tk hk hlt => ?_)
  refine wpAny_bind (wpAny_newList ?_ (by rw [List.length_map, Array.length_toList]; exact hn))
  refine wpAny_bind (wpAny_holding (wpAny_mono (h h' tk hk hlt) (fun _ s' x => ?_) fun _ _ e => e))
  exact wpAny_pure ⟨_, rfl, x⟩
end
mutual
theorem reads_lt {h : Heap} : ∀ {v : Value} {d : PyData} {as : List Addr}, Reads h v d as → ∀ b ∈ as, b < h.objs.size
  | _, _, _, .none, b, hb => (List.not_mem_nil hb).elim
  | _, _, _, .bool _, b, hb => (List.not_mem_nil hb).elim
  | _, _, _, .int _ _, b, hb => (List.not_mem_nil hb).elim
  | _, _, _, .str _ _, b, hb => (List.not_mem_nil hb).elim
  | _, _, _, .list h1 _ _ h4, b, hb => by
    rcases List.mem_cons.mp hb with e | hb
    · rw [e]; exact Heap.lt_size h1
    · exact reads_lts h4 b hb
  | _, _, _, .tuple _ _ _ h4, b, hb => reads_lts h4 b hb
  | _, _, _, .dict h1 _ _ h4 h5, b, hb => by
    rcases List.mem_cons.mp hb with e | hb
    · rw [e]; exact Heap.lt_size h1
    · rcases List.mem_append.mp hb with hb | hb
      · exact reads_lts h4 b hb
      · exact reads_lts h5 b hb
theorem reads_lts {h : Heap} : ∀ {v : List Value} {d : List PyData} {as : List Addr}, ReadsAll h v d as → ∀ b ∈ as, b < h.objs.size
  | _, _, _, .nil, b, hb => (List.not_mem_nil hb).elim
  | _, _, _, .cons h1 h2, b, hb => by
    rcases List.mem_append.mp hb with hb | hb
    · exact reads_lt h1 b hb
    · exact reads_lts h2 b hb
end
open Classical in
noncomputable def pDSorted : List D → Option Vl
  | [.dic ds] => pSorted [.lst (ds.map (·.1))]
  | _ => none
section
variable {X : Cx} {cl : Str → Option Addr}
theorem each_vals {M : Hp} : ∀ {vs : List V} {us : List Value} {ds : List D}, Vals vs us → Reps (gl X cl) M vs ds → PySem.W.EachIs (fun u d => ∃ v, RelV v u ∧ Rep (gl X cl) M v d) us ds := each_reps
theorem cr_dsortedP (hc : X.calm = true) (hu : X.A.units + 64 < cLine) : CallR X (.builtin "sorted") (rPs (gl X cl) pDSorted) := by
  intro pins s σ H xs us Q I r h
  obtain ⟨M, ds, w, sm, pr, hp, k⟩ := h
  unfold pDSorted at hp
  split at hp
  · rename_i ds
    unfold pSorted at hp
    dsimp only at hp
    split at hp
    · rename_i hcd
      obtain ⟨h1, h2, h3⟩ := hcd
      cases hp
      obtain ⟨x, rfl, q⟩ := preps1 pr
      obtain ⟨a, o, rfl, ea, ro⟩ := q.dic sm
      rw [Vals.ref1 r]
      obtain ⟨ha, hl, es, ep, g1, g2, ks, g3, g4⟩ := draw_of I sm ea ro
      refine sorted_raw ha g1 (I.ok.hd hc) (by rw [g2]; exact hl) fun h' tk hk hlt0 => ?_
      have er := each_reads (X := X) (cl := cl) I sm g4 g3 fun d hd => (h3 d hd).1
      have e := each_reps g4 g3
      refine PySem.W.list_sort_data (n := 0) (enc := D.py) (R := fun u d => ∃ v, RelV v u ∧ Rep (gl X cl) M v d) (Heap.get?_push_size _ rfl) e ?_ h1 h2 (by rw [List.length_map]; exact hl) (fun b hb => ?_) fun out hlen ho => ?_
      · refine er.mono fun v b ⟨as, rd⟩ => ⟨as, PyProof.Rows.Reads.keeps (fun c ob q => Heap.get?_push_of_some _ (hk c ob q)) rd, fun z => ?_⟩
        have l1 := reads_lt rd _ z
        exact absurd l1 (Nat.not_lt.mpr (Nat.le_of_lt hlt0))
      · have := (h3 b hb).2
        show X.A.units + 1 + 1 + (D.py b).depth < cLine
        omega
      · obtain ⟨ep', he'⟩ := PyProof.Rows.sortedHeap_at (h := h'.push { cls := .type "list", data := .seq (es.toList.map (·.key)).toArray }) (a := h'.objs.size) (vs := es.toList.map (·.key)) (n := 0) (out := out.toArray) (Heap.get?_push_size _ rfl)
        obtain ⟨vs', rv', rr'⟩ := reps_each ho
        have hlen' : vs'.length ≤ sizeLine := by rw [rv'.length, hlen, List.length_map]; exact hl
        have l2 := Nat.le_of_lt hlt0
        refine ⟨.ref _, upd H h'.objs.size (.lst vs'), I.laid (t' := tk) (fun b ob q => ?_) l2 ⟨hlen', out, ep', rv', he'⟩, rfl, rPs.nwl k sm rr' (by rw [List.length_mergeSort, List.length_map]; exact hl) _ (I.hok.fresh l2)⟩
        have hb : b < s.heap.objs.size := Heap.lt_size q
        rw [PyProof.Rows.sortedHeap_old (Nat.ne_of_lt (Nat.lt_trans hb hlt0)) (by rw [Heap.size_push]; exact Nat.lt_succ_of_lt (Nat.lt_trans hb hlt0))]
        exact Heap.get?_push_of_some _ (hk b ob q)
    · cases hp
  · cases hp
end
end Ev
set_option Elab.async false
set_option linter.all false
set_option autoImplicit false
set_option maxRecDepth 100000
/-! Methods, stores, += 1, is, chains. -/
namespace Ev
open PySem L2 PySem.Spec PyProof.Rows
inductive MTy where
  | lst | dic | str
def MTy.is : MTy → D → Bool
  | .lst, .lst _ => true
  | .dic, .dic _ => true
  | .str, .str _ => true
  | _, _ => false
def MTy.nm : MTy → String
  | .lst => "list"
  | .dic => "dict"
  | .str => "str"
def tyG (g : Gl0) (T : MTy) (x : V) (H : Hp) : Prop := ∃ M d, Sub M H ∧ PRep g M H x d ∧ T.is d = true
def tBMG (g : Gl0) (T : MTy) (r : V → List V → Hp → VK → Prop) (to : TE) (t : TA) : TE := fun σ H Q => to σ H fun x H1 => tyG g T x H1 ∧ t σ H1 fun xs H2 => r x xs H2 Q
def tBMG0 (g : Gl0) (T : MTy) (r : V → List V → Hp → VK → Prop) (to : TE) : TE := fun σ H Q => to σ H fun x H1 => tyG g T x H1 ∧ r x [] H1 Q
section
variable {X : Cx} {cl : Str → Option Addr} {pins : List (Addr × Obj)} {σ : L2.St} {H : Hp} {s : Shared}
theorem tyG_is {T : MTy} {x : V} {v : Value} (I : Inv X pins σ H s) (r : RelV x v) (h : tyG (gl X cl) T x H) : s.TypeIs v T.nm ∧ ∀ a, v = .ref a → ∃ ob, s.heap.get? a = some ob ∧ ob.dict = none := by
  obtain ⟨M, d, sm, pr, e⟩ := h
  cases T with
  | lst =>
    cases d with
    | lst ds =>
      obtain ⟨a, vs, rfl, hs, _, _⟩ := pr.lst sm
      obtain rfl : v = Value.ref a := r
      obtain ⟨its, _, pl, _⟩ := I.list (.of hs)
      refine ⟨pl.isList.typeIs, fun b e => ?_⟩
      cases e
      obtain ⟨o, n, e, c, hd, _⟩ := pl
      exact ⟨o, e, hd⟩
    | _ => cases e
  | dic =>
    cases d with
    | dic ds =>
      obtain ⟨a, o, rfl, ea, ro⟩ := pr.dic sm
      obtain rfl : v = Value.ref a := r
      obtain ⟨_, _, es, ep, hr, _⟩ := draw_of I sm ea ro
      refine ⟨hr.typeIs, fun b e => ?_⟩
      cases e
      obtain ⟨o, h1, h2, _⟩ := hr
      exact ⟨o, h1, h2.2.1⟩
    | _ => cases e
  | str =>
    cases d with
    | str z =>
      obtain ⟨rfl, _⟩ := pr.str
      obtain ⟨t, rfl⟩ := r
      exact ⟨typeIs_str s z t, fun _ e => nomatch e⟩
    | _ => cases e
variable {o e : Expr} {es : List Expr} {to : TE} {t : TA} {name : Str} {apos cpos : Pos} {T : MTy} {id : String} {r : V → List V → Hp → VK → Prop}
theorem pe_bmG0 (pa : PlainAttrs T.nm) (slot : PySem.Slot T.nm name id) (hty : typeOf (.builtin id) = pure (.type "method_descriptor")) (hm : MtR X id r) (ho : PE X o to)
    (hbase : attributeBase o name X.env (eval o X.env) = eval o X.env) (hline : (apos.endLine == cpos.line) = true) : PE X (.Call (.Attribute o name apos) [] [] cpos) (tBMG0 (gl X cl) T r to) := by
  refine ⟨fun pins s σ H Q I h => ?_⟩
  refine wpAny_Call_method0_late hbase hline (thn (ho.run pins s σ H _ I h) fun v s1 ⟨x, H1, I1, r1, ty, q1⟩ => ?_)
  obtain ⟨h1, h2⟩ := tyG_is I1 r1 ty
  exact ⟨T.nm, id, pa, slot, hty, h1, h2, Calls.callWith_builtin rfl (PySem.evalArgs_none (hm pins s1 σ H1 x [] v [] Q I1 r1 .nil q1))⟩
theorem pe_bmG (pa : PlainAttrs T.nm) (slot : PySem.Slot T.nm name id) (hty : typeOf (.builtin id) = pure (.type "method_descriptor")) (hm : MtR X id r) (ho : PE X o to) (ha : PA X (e :: es) t)
    (hbase : attributeBase o name X.env (eval o X.env) = eval o X.env)
    (hfew : ((backTo cpos (starEach (e :: es) X.env)).all (fun x => !x.1) && (backToKw cpos (keywordEach [] X.env)).all (fun x => x.1.isSome)
      && decide ((e :: es).length + ([] : List Keyword).length + (if ([] : List Keyword).isEmpty then 0 else 1) < 30)) = true)
    (hline : (apos.endLine == cpos.line) = true) (hs : starEach (e :: es) X.env = (false, eval e X.env) :: starEach es X.env) (hplain : (backTo cpos (starEach es X.env)).any (·.1) = false) :
    PE X (.Call (.Attribute o name apos) (e :: es) [] cpos) (tBMG (gl X cl) T r to t) := by
  refine ⟨fun pins s σ H Q I h => ?_⟩
  refine wpAny_Call_method_late hbase hfew hline rfl (thn (ho.run pins s σ H _ I h) fun v s1 ⟨x, H1, I1, r1, ty, q1⟩ => ?_)
  obtain ⟨h1, h2⟩ := tyG_is I1 r1 ty
  refine ⟨T.nm, id, pa, slot, hty, h1, h2, ?_⟩
  have hA := ha.run cpos pins s1 σ H1 _ I1 q1
  rw [hs] at hA ⊢
  refine Calls.callWith_builtin (by show (false || (backTo cpos (starEach es X.env)).any (·.1)) = false; rw [hplain] <;> rfl) (Calls.evalArgs_plain ?_)
  exact thn hA fun us s2 ⟨vs, H2, I2, r2, q2⟩ => hm pins s2 σ H2 x vs v us Q I2 r1 r2 q2
end
/-! ### methods that change their object -/
def sMeth (T : MTy) (p : D → List D → Option (D × D)) (modes : List Bool) (i : Nat) (ms : List (Sx Opd)) : Sx Vl := fun e => match res e (.sl i) with
  | some d0 => if T.is d0 = true then (sOps ms e).bind fun os e => if okModes modes os = true then (match ress e os, e[i]? with
    | some ds, some (.ow d) => (match p d ds with
      | some (v, d') => .ok (fz v) (e.set i (.ow d'))
      | none => .stuck)
    | some ds, some (.bx d) => (match p d ds with
      | some (v, d') => .ok (fz v) (e.set i (.bx d'))
      | none => .stuck)
    | _, _ => .stuck) else .stuck else .stuck
  | none => .stuck
def rMut (g : Gl0) (modes : List Bool) (p : D → List D → Option (D × D)) : V → List V → Hp → VK → Prop := fun x xs H Q => ∃ a M o d ds v d', x = .ref a ∧ H a = some o ∧ RepO g M a o d ∧ M a = none ∧ Sub M H ∧ ArgR g M H modes xs ds ∧ p d ds = some (v, d') ∧
  ∀ z o', RepO g M a o' d' → Rep g M z v → Q z (upd H a o')
def pAppend : D → List D → Option (D × D)
  | .lst ds, [d] => if ds.length < sizeLine then some (.non, .lst (ds ++ [d])) else none
  | _, _ => none
def pExtend : D → List D → Option (D × D)
  | .lst ds, [.lst es] => if ds.length + es.length ≤ sizeLine then some (.non, .lst (ds ++ es)) else none
  | _, _ => none
def pPop : D → List D → Option (D × D)
  | .lst ds, [] => (ds[ds.length - 1]?).map fun d => (d, .lst ds.dropLast)
  | _, _ => none
noncomputable def pSetdef : D → List D → Option (D × D)
  | .dic ds, [k, v] => if dkOk ds k = true ∧ ds.length < sizeLine then some (match dget ds k with
    | some d => (d, .dic ds)
    | none => (v, .dic (ds ++ [(k, v)]))) else none
  | _, _ => none
section
variable {X : Cx} {cl : Str → Option Addr}
theorem RepO.lstI {g : Gl0} {M : Hp} {a : Addr} {o : HO} {ds : List D} (h : RepO g M a o (.lst ds)) : ∃ vs, o = .lst vs ∧ Reps g M vs ds ∧ ds.length ≤ sizeLine := by
  cases h with
  | lst r z => exact ⟨_, rfl, r, z⟩
theorem mt_appendP : MtR X "list.append" (rMut (gl X cl) [false] pAppend) := by
  intro pins s σ H x xs v us Q I rx rxs h
  obtain ⟨a, M, o, d, ds, w, d', rfl, ha, ro, mn, sm, ar, hp, k⟩ := h
  unfold pAppend at hp
  split at hp
  · split at hp
    · rename_i hl
      cases hp
      obtain ⟨vs, rfl, hr, hz⟩ := ro.lstI
      cases ar with
      | held q t =>
        cases t
        refine mt_append pins s σ H _ _ v us Q I rx rxs ⟨a, vs, _, rfl, rfl, ha, by rw [hr.length]; exact hl, ?_⟩
        exact k _ _ (.lst (hr.append (.cons q .nil)) (by rw [List.length_append]; exact hl)) .non
    · cases hp
  · cases hp
theorem mt_extendP : MtR X "list.extend" (rMut (gl X cl) [true] pExtend) := by
  intro pins s σ H x xs v us Q I rx rxs h
  obtain ⟨a, M, o, d, ds, w, d', rfl, ha, ro, mn, sm, ar, hp, k⟩ := h
  unfold pExtend at hp
  split at hp
  · split at hp
    · rename_i hl
      cases hp
      obtain ⟨vs, rfl, hr, hz⟩ := ro.lstI
      cases ar with
      | lent q t =>
        cases t
        obtain ⟨b, ws, rfl, hb, hr2, _⟩ := q.lst sm
        refine mt_extend pins s σ H _ _ v us Q I rx rxs ⟨a, b, vs, ws, rfl, rfl, ha, hb, by rw [hr.length, hr2.length]; exact hl, ?_⟩
        exact k _ _ (.lst (hr.append hr2) (by rw [List.length_append]; exact hl)) .non
    · cases hp
  · cases hp
theorem Reps.dropLast {g : Gl0} {M : Hp} : ∀ {vs : List V} {ds : List D}, Reps g M vs ds → Reps g M vs.dropLast ds.dropLast
  | _, _, .nil => .nil
  | _, _, .cons q .nil => .nil
  | _, _, .cons q (.cons r t) => .cons q (Reps.dropLast (.cons r t))
theorem mt_popP : MtR X "list.pop" (rMut (gl X cl) [] pPop) := by
  intro pins s σ H x xs v us Q I rx rxs h
  obtain ⟨a, M, o, d, ds, w, d', rfl, ha, ro, mn, sm, ar, hp, k⟩ := h
  unfold pPop at hp
  split at hp
  · obtain ⟨y, hy, e⟩ := Option.map_eq_some_iff.mp hp
    cases e
    obtain ⟨vs, rfl, hr, hz⟩ := ro.lstI
    cases ar
    obtain ⟨u, hu, ru⟩ := hr.get hy
    refine mt_pop pins s σ H _ _ v us Q I rx rxs ⟨a, vs, u, rfl, rfl, ha, by rw [hr.length]; exact hu, ?_⟩
    exact k _ _ (.lst hr.dropLast (by rw [List.length_dropLast]; omega)) ru
  · cases hp
variable {W : WX}
/-- behind the arguments of a method that changes its object -/
theorem meth_end {g : Gl0} {G : Gh} {e : En} {M H : Hp} {σ : L2.St} {Q : VK} {p : D → List D → Option (D × D)} {modes : List Bool} {i : Nat} {x : V} {os : List Opd} {xs : List V} (r : Rel g G e M σ H) (hx : σ[i]? = some (some x)) (x1 : OpdRs g M σ xs os)
    (h : tPost g W (VR g) G σ Q (if okModes modes os = true then (match ress e os, e[i]? with
    | some ds, some (.ow d) => (match p d ds with
      | some (v, d') => Out.ok (fz v) (e.set i (.ow d'))
      | none => .stuck)
    | some ds, some (.bx d) => (match p d ds with
      | some (v, d') => .ok (fz v) (e.set i (.bx d'))
      | none => .stuck)
    | _, _ => .stuck) else .stuck)) : rMut g modes p x xs H Q := by
  by_cases hm : okModes modes os = true
  · rw [if_pos hm] at h
    cases hr : ress e os with
    | none => rw [hr] at h; exact h.elim
    | some ds =>
      have ar := args_of r hm hr x1
      rw [hr] at h
      cases hs : e[i]? with
      | none => rw [hs] at h; exact h.elim
      | some s =>
        rw [hs] at h
        have sl := r.slot i s _ hs hx
        cases s with
        | ow d =>
          obtain ⟨a, o, e2, ha, ro, ma, _⟩ := sl
          cases e2
          have h' : tPost g W (VR g) G σ Q (match p d ds with | some (v, d') => Out.ok (fz v) (e.set i (.ow d')) | none => .stuck) := h
          cases hp : p d ds with
          | none => rw [hp] at h'; exact h'.elim
          | some q =>
            obtain ⟨v, d'⟩ := q
            rw [hp] at h'
            exact ⟨a, M, o, d, ds, v, d', rfl, ha, ro, ma, r.sub, ar, hp, fun z o' ro' rz => h' z M _ (r.mut hs hx (.inl ⟨d, rfl, rfl⟩) ro') rz⟩
        | bx d =>
          obtain ⟨a, o, e2, ha, ro, ma, _⟩ := sl
          cases e2
          have h' : tPost g W (VR g) G σ Q (match p d ds with | some (v, d') => Out.ok (fz v) (e.set i (.bx d')) | none => .stuck) := h
          cases hp : p d ds with
          | none => rw [hp] at h'; exact h'.elim
          | some q =>
            obtain ⟨v, d'⟩ := q
            rw [hp] at h'
            exact ⟨a, M, o, d, ds, v, d', rfl, ha, ro, ma, r.sub, ar, hp, fun z o' ro' rz => h' z M _ (r.mut hs hx (.inr ⟨d, rfl, rfl⟩) ro') rz⟩
        | _ => exact h.elim
  · rw [if_neg hm] at h
    exact h.elim
/-- a slot's value -/
theorem slot_val {g : Gl0} {G : Gh} {e : En} {M H : Hp} {σ : L2.St} {i : Nat} {d : D} (r : Rel g G e M σ H) (h : res e (.sl i) = some d) : ∃ x, σ[i]? = some (some x) ∧ PRep g M H x d := by
  have h' : (match e[i]? with | some s => s.look | none => none) = some d := h
  cases hs : e[i]? with
  | none => rw [hs] at h'; cases h'
  | some s =>
    rw [hs] at h'
    obtain ⟨x, h1, q⟩ := r.at hs
    have : ∃ y, x = some y := by
      cases s with
      | unb => cases h'
      | sh d => obtain ⟨v, rfl, _⟩ := q; exact ⟨v, rfl⟩
      | ow d => obtain ⟨a, o, rfl, _⟩ := q; exact ⟨_, rfl⟩
      | bx d => obtain ⟨a, o, rfl, _⟩ := q; exact ⟨_, rfl⟩
      | ro d => obtain ⟨v, rfl, _⟩ := q; exact ⟨v, rfl⟩
    obtain ⟨y, rfl⟩ := this
    exact ⟨y, h1, r.res h h1⟩
variable {nm : Str} {pp : Pos} {e : Expr} {es : List Expr} {name : Str} {apos cpos : Pos} {T : MTy} {id : String} {p : D → List D → Option (D × D)} {modes : List Bool} {i : Nat} {ms : List (Sx Opd)}
theorem ve_meth (pa : PlainAttrs T.nm) (slot : PySem.Slot T.nm name id) (hty : typeOf (.builtin id) = pure (.type "method_descriptor")) (hm : MtR X id (rMut (gl X cl) modes p))
    (hN : X.N[i]? = some nm) (hv : Vis X.env.scope nm) (hd : (nm == ("__debug__" : Str)) = false) (hcd : (nm == ("__classdict__" : Str)) = false) (ha : PA X (e :: es) (tAs (gl X cl) W (sOps ms)))
    (hbase : attributeBase (.Name nm pp) name X.env (eval (.Name nm pp) X.env) = eval (.Name nm pp) X.env)
    (hfew : ((backTo cpos (starEach (e :: es) X.env)).all (fun x => !x.1) && (backToKw cpos (keywordEach [] X.env)).all (fun x => x.1.isSome)
      && decide ((e :: es).length + ([] : List Keyword).length + (if ([] : List Keyword).isEmpty then 0 else 1) < 30)) = true)
    (hline : (apos.endLine == cpos.line) = true) (hs : starEach (e :: es) X.env = (false, eval e X.env) :: starEach es X.env) (hplain : (backTo cpos (starEach es X.env)).any (·.1) = false) :
    PE X (.Call (.Attribute (.Name nm pp) name apos) (e :: es) [] cpos) (tE (gl X cl) W (sMeth T p modes i ms)) :=
  PE_imp (pe_bmG (cl := cl) (T := T) pa slot hty hm (pe_var hN hv hd hcd) ha hbase hfew hline hs hplain) fun σ H Q ⟨G, e, M, r, h⟩ => by
    unfold sMeth at h
    cases hr : res e (.sl i) with
    | none => rw [hr] at h; exact h.elim
    | some d0 =>
      rw [hr] at h
      have h' : tPost (gl X cl) W (VR (gl X cl)) G σ Q (if T.is d0 = true then (sOps ms e).bind fun os e => if okModes modes os = true then (match ress e os, e[i]? with
        | some ds, some (.ow d) => (match p d ds with
          | some (v, d') => .ok (fz v) (e.set i (.ow d'))
          | none => .stuck)
        | some ds, some (.bx d) => (match p d ds with
          | some (v, d') => .ok (fz v) (e.set i (.bx d'))
          | none => .stuck)
        | _, _ => .stuck) else .stuck else .stuck) := h
      by_cases ht : T.is d0 = true
      · rw [if_pos ht] at h'
        obtain ⟨x, hx, pr⟩ := slot_val r hr
        refine ⟨x, hx, ⟨M, d0, r.sub, pr, ht⟩, ?_⟩
        exact tG_last r h' fun os e1 xs M1 H1 _ r1 _ x1 h1 => meth_end r1 hx x1 h1
      · rw [if_neg ht] at h'
        exact h'.elim
theorem ve_meth0 (pa : PlainAttrs T.nm) (slot : PySem.Slot T.nm name id) (hty : typeOf (.builtin id) = pure (.type "method_descriptor")) (hm : MtR X id (rMut (gl X cl) modes p))
    (hN : X.N[i]? = some nm) (hv : Vis X.env.scope nm) (hd : (nm == ("__debug__" : Str)) = false) (hcd : (nm == ("__classdict__" : Str)) = false)
    (hbase : attributeBase (.Name nm pp) name X.env (eval (.Name nm pp) X.env) = eval (.Name nm pp) X.env) (hline : (apos.endLine == cpos.line) = true) :
    PE X (.Call (.Attribute (.Name nm pp) name apos) [] [] cpos) (tE (gl X cl) W (sMeth T p modes i [])) :=
  PE_imp (pe_bmG0 (cl := cl) (T := T) pa slot hty hm (pe_var hN hv hd hcd) hbase hline) fun σ H Q ⟨G, e, M, r, h⟩ => by
    unfold sMeth at h
    cases hr : res e (.sl i) with
    | none => rw [hr] at h; exact h.elim
    | some d0 =>
      rw [hr] at h
      have h' : tPost (gl X cl) W (VR (gl X cl)) G σ Q (if T.is d0 = true then (sOps [] e).bind fun os e => if okModes modes os = true then (match ress e os, e[i]? with
        | some ds, some (.ow d) => (match p d ds with
          | some (v, d') => .ok (fz v) (e.set i (.ow d'))
          | none => .stuck)
        | some ds, some (.bx d) => (match p d ds with
          | some (v, d') => .ok (fz v) (e.set i (.bx d'))
          | none => .stuck)
        | _, _ => .stuck) else .stuck else .stuck) := h
      by_cases ht : T.is d0 = true
      · rw [if_pos ht] at h'
        obtain ⟨x, hx, pr⟩ := slot_val r hr
        exact ⟨x, hx, ⟨M, d0, r.sub, pr, ht⟩, meth_end r hx .nil h'⟩
      · rw [if_neg ht] at h'
        exact h'.elim
end
end Ev
set_option Elab.async false
set_option linter.all false
set_option autoImplicit false
set_option maxRecDepth 100000
/-! Methods that only look, stores to items and fields, += , is, chains. -/
namespace Ev
open PySem L2 PySem.Spec PyProof.Rows
/-! ### methods that look -/
def sVMeth (T : MTy) (p : List D → Option Vl) (m : Sx Opd) (ms : List (Sx Opd)) : Sx Vl := fun e => (m e).bind fun o e => match res e o with
  | some d0 => if T.is d0 = true then (sOps ms e).bind fun os e => match ress e (o :: os) with
    | some ds => (match p ds with
      | some v => .ok v e
      | none => .stuck)
    | none => .stuck else .stuck
  | none => .stuck
def rVM (g : Gl0) (p : List D → Option Vl) : V → List V → Hp → VK → Prop := fun x xs H Q => rPs g p (x :: xs) H Q
/-- the first place of an equal one -/
def pIndex : List D → Option Vl
  | [.lst ds, d] => if ((D.lst ds).cmp && d.cmp) = true then (ds.findIdx? fun z => pyEq z d).map fun j => fz (.int (j : Nat)) else none
  | _ => none
theorem pys_get : ∀ {ds : List D} (i : Nat), (D.pys ds)[i]? = (ds[i]?).map D.py
  | ds, i => by rw [D.pys_eq, List.getElem?_map]
section
variable {X : Cx} {cl : Str → Option Addr} {W : WX}
theorem mt_indexP (hu : X.A.units + 65 < cLine) : MtR X "list.index" (rVM (gl X cl) pIndex) := by
  intro pins s σ H x xs v us Q I rx rxs h
  obtain ⟨M, ds, w, sm, pr, hp, k⟩ := h
  unfold pIndex at hp
  split at hp
  · split at hp
    · rename_i hc
      rename_i ds d
      rw [Bool.and_eq_true] at hc
      obtain ⟨j, hj, rfl⟩ := Option.map_eq_some_iff.mp hp
      obtain ⟨x', y, e, q1, q2⟩ := preps2' pr
      cases e
      have r1 := q1.rep sm
      have r2 := q2.rep sm
      have c1 := (Bool.and_eq_true_iff.mp (show (_ && _) = true from hc.1)).1
      have c2 := (Bool.and_eq_true_iff.mp (show (_ && _) = true from hc.2)).1
      have d1 := r1.dp c1
      have s1 := shaped_of r1 hc.1
      rw [D.py] at d1 s1
      obtain ⟨a, vs, rfl, _⟩ := q1.lst sm
      obtain ⟨hlt, hz, hno⟩ := List.findIdx?_eq_some_iff_getElem.mp hj
      refine mt_indexD hu pins s σ H _ _ v us Q I rx rxs ⟨a, y, d.py, D.pys ds, j, (ds[j]).py, rfl, rfl, d1, r2.dp c2, s1, shaped_of r2 hc.2, ?_, hz, fun m z' hm hz' => ?_, rPs.fz k sm (.int _)⟩
      · rw [pys_get, List.getElem?_eq_getElem hlt]; rfl
      · rw [pys_get, List.getElem?_eq_getElem (Nat.lt_trans hm hlt)] at hz'
        cases hz'
        exact Bool.eq_false_iff.mpr (hno m hm)
    · cases hp
  · cases hp
theorem mt_dgetP (hu : X.A.units + 65 < cLine) : MtR X "dict.get" (rVM (gl X cl) pDGet) := by
  intro pins s σ H x xs v us Q I rx rxs h
  obtain ⟨M, ds, w, sm, pr, hp, k⟩ := h
  unfold pDGet at hp
  split at hp
  · split at hp
    · rename_i ds kd hok
      cases hp
      obtain ⟨x', y, e, q1, q2⟩ := preps2' pr
      cases e
      cases rxs with
      | cons ry rt =>
        cases rt
        have fin : ∀ (o : Option V) (w' : Option Value) (t : Nat), RelO o w' → OR (Rep (gl X cl) M) o (dget ds kd) → EP X pins σ Q (w'.getD .none) { s with toks := t } := by
          intro o w' t ro hor
          refine ⟨o.getD .non, H, I.tok _, RelO.getD ro rfl, rPs.fz k sm ?_⟩
          cases hq : dget ds kd with
          | none =>
            rw [hq] at hor
            cases o with
            | none => exact .non
            | some z => exact hor.elim
          | some d =>
            obtain ⟨z, rfl, rz⟩ := hor.get hq
            exact rz
        refine dread I sm q1 q2 ry hok (fun a k' vs o e ha dd hk ro hor => ?_) (fun a b k' ys o e eu ha dd hk ro hor => ?_)
        · subst e
          obtain rfl : v = Value.ref a := rx
          exact call_meetsIn PySem.F.slot_dict_get dd.typeIs PySem.F.entry_dict_get (PySem.F.args_dict_get_2 _ _) (meets_dict_get (mixKind X.prog X.w) a hk ha) ⟨_, dd.mapOf, fin _ _ _ ro hor⟩
        · subst e eu
          obtain rfl : v = Value.ref a := rx
          exact call_meetsIn PySem.F.slot_dict_get dd.typeIs PySem.F.entry_dict_get (PySem.F.args_dict_get_2 _ _) (meetsH_dict_get (nestedKind X.prog X.w) a b ha) ⟨nroom hu, k', ys, hk, dd, fin _ _ _ ro hor⟩
    · cases hp
  · cases hp
variable {o e : Expr} {es : List Expr} {m : Sx Opd} {ms : List (Sx Opd)} {name : Str} {apos cpos pos : Pos} {T : MTy} {id : String} {p : List D → Option Vl}
theorem ve_vmeth (pa : PlainAttrs T.nm) (slot : PySem.Slot T.nm name id) (hty : typeOf (.builtin id) = pure (.type "method_descriptor")) (hm : MtR X id (rVM (gl X cl) p)) (ho : PE X o (tO (gl X cl) W m)) (ha : PA X (e :: es) (tAs (gl X cl) W (sOps ms)))
    (hbase : attributeBase o name X.env (eval o X.env) = eval o X.env)
    (hfew : ((backTo cpos (starEach (e :: es) X.env)).all (fun x => !x.1) && (backToKw cpos (keywordEach [] X.env)).all (fun x => x.1.isSome)
      && decide ((e :: es).length + ([] : List Keyword).length + (if ([] : List Keyword).isEmpty then 0 else 1) < 30)) = true)
    (hline : (apos.endLine == cpos.line) = true) (hs : starEach (e :: es) X.env = (false, eval e X.env) :: starEach es X.env) (hplain : (backTo cpos (starEach es X.env)).any (·.1) = false) :
    PE X (.Call (.Attribute o name apos) (e :: es) [] cpos) (tE (gl X cl) W (sVMeth T p m ms)) :=
  PE_imp (pe_bmG (cl := cl) (T := T) pa slot hty hm ho ha hbase hfew hline hs hplain) fun σ H Q ⟨G, e, M, r, h⟩ => by
    unfold sVMeth at h
    refine tG_last r h fun o e1 x M1 H1 _ r1 _ x1 h1 => ?_
    cases hr : res e1 o with
    | none => rw [hr] at h1; exact h1.elim
    | some d0 =>
      rw [hr] at h1
      have h' : tPost (gl X cl) W (VR (gl X cl)) G σ Q (if T.is d0 = true then (sOps ms e1).bind fun os e => match ress e (o :: os) with
        | some ds => (match p ds with
          | some v => .ok v e
          | none => .stuck)
        | none => .stuck else .stuck) := h1
      by_cases ht : T.is d0 = true
      · rw [if_pos ht] at h'
        refine ⟨⟨M1, d0, r1.sub, r1.res hr x1, ht⟩, ?_⟩
        refine tG_bind r1 h' fun os e2 xs M2 H2 _ r2 x2 h2 => ?_
        have r2' := r1.back r2
        have h2' : tPost (gl X cl) W (VR (gl X cl)) G σ Q ((match ress e2 (o :: os) with | some ds => Out.ok ds e2 | none => .stuck).bind fun ds e => match p ds with | some v => .ok v e | none => .stuck) := by
          cases hq : ress e2 (o :: os) with
          | none => rw [hq] at h2; exact h2
          | some ds => rw [hq] at h2; exact h2
        exact prim_end r2' (.cons (x1.mono r2.base) x2) h2'
      · rw [if_neg ht] at h'
        exact h'.elim
/-! ### is -/
open Classical in
noncomputable def pIs : List D → Option Vl
  | [d, .non] => some (fz (.bl (decide (d = .non))))
  | [.bl a, .bl b] => some (fz (.bl (decide (a = b))))
  | _ => none
open Classical in
noncomputable def pIsNot : List D → Option Vl
  | [d, .non] => some (fz (.bl (!decide (d = .non))))
  | [.bl a, .bl b] => some (fz (.bl (!decide (a = b))))
  | _ => none
theorem prep_isN {g : Gl0} {M H : Hp} {x : V} {d : D} (h : PRep g M H x d) : x = .non ↔ d = .non := by
  rcases h with h | ⟨a, o, rfl, _, r⟩
  · cases h <;> simp
  · cases r <;> simp
theorem op_isP : OpR X (compareOp .Is) (rP2 (gl X cl) pIs) := by
  intro pins s σ H x y v u Q I rx ry h
  obtain ⟨M, ds, w, sm, pr, hp, k⟩ := h
  unfold pIs at hp
  split at hp
  · cases hp
    obtain ⟨q1, q2⟩ := preps2 pr
    refine op_isN pins s σ H x y v u Q I rx ry ⟨q2.non, ?_⟩
    rw [decide_eq_decide.mpr (prep_isN q1)]
    exact rPs.fz k sm (.bl _)
  · cases hp
    obtain ⟨q1, q2⟩ := preps2 pr
    refine op_isBl pins s σ H x y v u Q I rx ry ⟨_, _, q1.bl, q2.bl, ?_⟩
    rw [show ∀ (a b : Bool) (i j : Decidable (a = b)), @decide _ i = @decide _ j from fun a b i j => by congr]
    exact rPs.fz k sm (.bl _)
  · cases hp
theorem op_isNotP : OpR X (compareOp .IsNot) (rP2 (gl X cl) pIsNot) := by
  intro pins s σ H x y v u Q I rx ry h
  obtain ⟨M, ds, w, sm, pr, hp, k⟩ := h
  unfold pIsNot at hp
  split at hp
  · cases hp
    obtain ⟨q1, q2⟩ := preps2 pr
    refine op_notN pins s σ H x y v u Q I rx ry ⟨q2.non, ?_⟩
    rw [decide_eq_decide.mpr (prep_isN q1)]
    exact rPs.fz k sm (.bl _)
  · cases hp
    obtain ⟨q1, q2⟩ := preps2 pr
    refine op_notBl pins s σ H x y v u Q I rx ry ⟨_, _, q1.bl, q2.bl, ?_⟩
    rw [show ∀ (a b : Bool) (i j : Decidable (a = b)), @decide _ i = @decide _ j from fun a b i j => by congr]
    exact rPs.fz k sm (.bl _)
  · cases hp
end
end Ev
set_option Elab.async false
set_option linter.all false
set_option autoImplicit false
set_option maxRecDepth 100000
/-! Chains, stores to items and fields, += . -/
namespace Ev
open PySem L2 PySem.Spec PyProof.Rows
/-! ### a op b op' c -/
def sChain (p q : List D → Option Vl) (ma mb mc : Sx Opd) : Sx Vl := fun e => (ma e).bind fun a e => (mb e).bind fun b e => match ress e [a, b] with
  | some ds => (match p ds with
    | some ⟨.bl true, _⟩ => (mc e).bind fun c e => (match ress e [b, c] with
      | some ds => (match q ds with
        | some v => .ok v e
        | none => .stuck)
      | none => .stuck)
    | some ⟨.bl false, _⟩ => .ok (fz (.bl false)) e
    | _ => .stuck)
  | none => .stuck
section
variable {X : Cx} {cl : Str → Option Addr} {W : WX} {a b c : Expr} {ma mb mc : Sx Opd} {p q : List D → Option Vl} {pos : Pos}
theorem chain_read {σ : L2.St} {H : Hp} {Q : VK} (h : tE (gl X cl) W (sChain p q ma mb mc) σ H Q) : tChain (rP2 (gl X cl) p) (rP2 (gl X cl) q) (tO (gl X cl) W ma) (tO (gl X cl) W mb) (tO (gl X cl) W mc) σ H Q := by
  obtain ⟨G, e, M, r, h⟩ := h
  unfold sChain at h
  refine tG_last r h fun oa e1 x M1 H1 _ r1 _ x1 h1 => ?_
  refine tG_bind r1 h1 fun ob e2 y M2 H2 _ r2 y2 h2 => ?_
  have r2' := r1.back r2
  have xs2 : OpdRs (gl X cl) M2 σ [x, y] [oa, ob] := .cons (x1.mono r2.base) (.cons y2 .nil)
  cases hr : ress e2 [oa, ob] with
  | none => rw [hr] at h2; exact h2.elim
  | some ds =>
    rw [hr] at h2
    have h2' : tPost (gl X cl) W (VR (gl X cl)) G σ Q (match p ds with
      | some ⟨.bl true, _⟩ => (mc e2).bind fun c e => (match ress e [ob, c] with
        | some ds => (match q ds with
          | some v => .ok v e
          | none => .stuck)
        | none => .stuck)
      | some ⟨.bl false, _⟩ => .ok (fz (.bl false)) e2
      | _ => .stuck) := h2
    cases hp : p ds with
    | none => rw [hp] at h2'; exact h2'.elim
    | some v =>
      rw [hp] at h2'
      refine ⟨M2, ds, v, r2'.sub, r2'.ress hr xs2, hp, fun z M' H' w px hm => ?_⟩
      obtain ⟨r3, vr⟩ := r2'.px w px hm
      obtain ⟨d, bb⟩ := v
      cases d with
      | bl k =>
        refine ⟨k, vr_bl vr, ?_⟩
        cases k with
        | false =>
          rw [if_neg (by decide)]
          exact h2' _ M' H' r3 (.bl false)
        | true =>
          rw [if_pos rfl]
          have h3 : tPost (gl X cl) W (VR (gl X cl)) G σ Q ((mc e2).bind fun c e => (match ress e [ob, c] with
            | some ds => (match q ds with
              | some v => .ok v e
              | none => .stuck)
            | none => .stuck)) := h2'
          refine tG_bind r3 h3 fun oc e4 u M4 H4 _ r4 u4 h4 => ?_
          have h4' : tPost (gl X cl) W (VR (gl X cl)) G σ Q ((match ress e4 [ob, oc] with | some ds => Out.ok ds e4 | none => .stuck).bind fun ds e => match q ds with | some v => .ok v e | none => .stuck) := by
            cases hq : ress e4 [ob, oc] with
            | none => rw [hq] at h4; exact h4
            | some ds => rw [hq] at h4; exact h4
          exact prim_end (r3.back r4) (.cons ((y2.mono w.mono).mono r4.base) (.cons u4 .nil)) h4'
      | _ => exact h2'.elim
theorem ve_chain {op op' : CmpOp} (ho : OpR X (compareOp op) (rP2 (gl X cl) p)) (ho' : OpR X (compareOp op') (rP2 (gl X cl) q)) (ha : PE X a (tO (gl X cl) W ma)) (hb : PE X b (tO (gl X cl) W mb)) (hc : PE X c (tO (gl X cl) W mc)) (hm : lastMarks [op, op'] [b, c] = false) :
    PE X (.Compare a [op, op'] [b, c] pos) (tE (gl X cl) W (sChain p q ma mb mc)) := PE_imp (pe_chain ho ho' ha hb hc hm) fun _ _ _ h => chain_read h
theorem vt_chain {op op' : CmpOp} (ho : OpR X (compareOp op) (rP2 (gl X cl) p)) (ho' : OpR X (compareOp op') (rP2 (gl X cl) q)) (ha : PE X a (tO (gl X cl) W ma)) (hb : PE X b (tO (gl X cl) W mb)) (hc : PE X c (tO (gl X cl) W mc)) (hm : lastMarks [op, op'] [b, c] = false) :
    PT X (.Compare a [op, op'] [b, c] pos) (tT (gl X cl) W (tBool (sChain p q ma mb mc))) :=
  PT_imp (pt_chain ho ho' ha hb hc hm) fun _ _ _ ⟨_, _, _, r, h⟩ => test_of (fun _ _ _ h => chain_read h) r h
end
/-! ### o[k] = v -/
def sSetI (p : D → List D → Option D) (i : Nat) (mk : Sx Opd) (mv : Sx Vl) : SS := fun e => match mv e with
  | .ok v e1 => (match e1[i]? with
    | some s => (match s.look with
      | some _ => (match mk e1 with
        | .ok o e2 => (match res e2 o, e2[i]? with
          | some k, some (.ow d) => (match p d [k, v.d] with
            | some d' => .nx (e2.set i (.ow d'))
            | none => .stuck)
          | some k, some (.bx d) => (match p d [k, v.d] with
            | some d' => .nx (e2.set i (.bx d'))
            | none => .stuck)
          | _, _ => .stuck)
        | .exc x e2 => .exc x e2
        | .stuck => .stuck)
      | none => .stuck)
    | none => .stuck)
  | .exc x e1 => .exc x e1
  | .stuck => .stuck
def rSet1 (g : Gl0) (p : D → List D → Option D) : TSet := fun o i v H Q => ∃ a M ob d k dv d', o = .ref a ∧ H a = some ob ∧ RepO g M a ob d ∧ M a = none ∧ Sub M H ∧ PRep g M H i k ∧ Rep g M v dv ∧ p d [k, dv] = some d' ∧
  ∀ o', RepO g M a o' d' → Q (upd H a o')
def pSetL : D → List D → Option D
  | .lst ds, [.int k, v] => (ixN ds.length k).map fun j => .lst (ds.set j v)
  | _, _ => none
noncomputable def pSetD : D → List D → Option D
  | .dic ds, [k, v] => if dkOk ds k = true ∧ ds.length < sizeLine then some (.dic (dput ds k v)) else none
  | _, _ => none
section
variable {X : Cx} {cl : Str → Option Addr} {W : WX}
theorem set_listP : PSet X (rSet1 (gl X cl) pSetL) := by
  intro pins s σ H o i v ov iv u Q I ro ri rv h
  obtain ⟨a, M, ob, d, k, dv, d', rfl, ha, rr, mn, sm, pr, rvv, hp, q⟩ := h
  unfold pSetL at hp
  split at hp
  · rename_i e
    obtain ⟨j, hj, rfl⟩ := Option.map_eq_some_iff.mp hp
    cases e
    obtain ⟨vs, rfl, hr, hz⟩ := rr.lstI
    refine set_list pins s σ H _ i v ov iv u Q I ro ri rv ⟨a, vs, _, j, rfl, pr.int, ha, by rw [hr.length]; exact hj, q _ (.lst (hr.set rvv j) (by rw [List.length_set]; exact hz))⟩
  · cases hp
theorem key_rep {M H : Hp} {ds : List (D × D)} {y : V} {k : D} (sm : Sub M H) (h : PRep (gl X cl) M H y k) (ok : dkOk ds k = true) : Rep (gl X cl) M y k := by
  rcases dk_cases ok with ⟨k', rfl, _⟩ | ⟨l, k', rfl, _⟩
  · obtain ⟨e, r⟩ := prep_kD h
    rw [e]; exact r
  · obtain ⟨a, vs, _, _, _, r, _⟩ := h.tup sm
    exact r
theorem set_dicP (hu : X.A.units + 65 < cLine) : PSet X (rSet1 (gl X cl) pSetD) := by
  intro pins s σ H o i v ov iv u Q I ro ri rv h
  obtain ⟨a, M, ob, d, k, dv, d', rfl, ha, rr, mn, sm, pr, rvv, hp, q⟩ := h
  unfold pSetD at hp
  split at hp
  · split at hp
    · rename_i e hc
      cases hp
      cases e
      exact set_dic hu pins s σ H _ i v ov iv u Q I ro ri rv ⟨a, rfl, M, ob, _, _, _, ha, rr, sm, key_rep sm pr hc.1, rvv, hc.1, hc.2, q⟩
    · cases hp
  · cases hp
variable {i : Nat} {nm : Str} {pp p2 pos : Pos} {k value : Expr} {mk : Sx Opd} {mv : Sx Vl} {p : D → List D → Option D}
theorem vs_setItem (hset : PSet X (rSet1 (gl X cl) p)) (hN : X.N[i]? = some nm) (hv : Vis X.env.scope nm) (hd : (nm == ("__debug__" : Str)) = false) (hcd : (nm == ("__classdict__" : Str)) = false) (hk : PE X k (tO (gl X cl) W mk)) (he : PE X value (tE (gl X cl) W mv))
    (ha : ∀ v, assign (.Subscript (.Name nm pp) k p2) X.env v = (do
      let ov ← holding [v] (eval (.Name nm pp) X.env)
      let iv ← holding [v, ov] (eval k X.env)
      standAt p2
      holding [v, ov, iv] (setItem ov iv v)
      release [v, ov, iv] []))
    (hs : swapsWithSole [.Subscript (.Name nm pp) k p2] value pos.line X.env = pure false) (hw : swappedStores [.Subscript (.Name nm pp) k p2] value X.env = pure none)
    (h1 : (assignEach [.Subscript (.Name nm pp) k p2] X.env).map (·.2) = [assign (.Subscript (.Name nm pp) k p2) X.env]) :
    PS X (.Assign [.Subscript (.Name nm pp) k p2] value pos) (tS (gl X cl) W (sSetI p i mk mv)) :=
  PS_imp (ps_asg he (pg_sub (pe_var hN hv hd hcd) hk hset ha) hs hw h1) fun D σ H ⟨G, e, M, r, h⟩ => by
    unfold sSetI at h
    refine stm_expr r h fun v e1 y M1 H1 _ r1 v1 h1 => ?_
    obtain ⟨M2, s2, r2, rv⟩ := r1.freeze v1
    cases hs : e1[i]? with
    | none => rw [hs] at h1; exact h1.elim
    | some sl =>
      rw [hs] at h1
      cases hl : sl.look with
      | none =>
        have h1' : sPost (gl X cl) W G D (match sl.look with
          | some _ => (match mk e1 with
            | .ok o e2 => (match res e2 o, e2[i]? with
              | some k, some (.ow d) => (match p d [k, v.d] with
                | some d' => .nx (e2.set i (.ow d'))
                | none => .stuck)
              | some k, some (.bx d) => (match p d [k, v.d] with
                | some d' => .nx (e2.set i (.bx d'))
                | none => .stuck)
              | _, _ => .stuck)
            | .exc x e2 => .exc x e2
            | .stuck => .stuck)
          | none => .stuck) := h1
        rw [hl] at h1'
        exact h1'.elim
      | some d0 =>
        have h1' : sPost (gl X cl) W G D (match sl.look with
          | some _ => (match mk e1 with
            | .ok o e2 => (match res e2 o, e2[i]? with
              | some k, some (.ow d) => (match p d [k, v.d] with
                | some d' => .nx (e2.set i (.ow d'))
                | none => .stuck)
              | some k, some (.bx d) => (match p d [k, v.d] with
                | some d' => .nx (e2.set i (.bx d'))
                | none => .stuck)
              | _, _ => .stuck)
            | .exc x e2 => .exc x e2
            | .stuck => .stuck)
          | none => .stuck) := h1
        rw [hl] at h1'
        obtain ⟨x, hx, _⟩ := slot_val (i := i) (d := d0) r2 (by show (match e1[i]? with | some s => s.look | none => none) = some d0; rw [hs]; exact hl)
        refine ⟨x, hx, ?_⟩
        have h2 : sPost (gl X cl) W G D (match mk e1 with
          | .ok o e2 => (match res e2 o, e2[i]? with
            | some k, some (.ow d) => (match p d [k, v.d] with
              | some d' => .nx (e2.set i (.ow d'))
              | none => .stuck)
            | some k, some (.bx d) => (match p d [k, v.d] with
              | some d' => .nx (e2.set i (.bx d'))
              | none => .stuck)
            | _, _ => .stuck)
          | .exc x e2 => .exc x e2
          | .stuck => .stuck) := h1'
        refine ⟨G.here e1 M2 σ H1, e1, M2, r2.here, ?_⟩
        cases qk : mk e1 with
        | stuck => rw [qk] at h2; exact h2
        | exc z e2 => rw [qk] at h2; exact fun c d M3 H3 r3 x3 => h2 c d σ M3 H3 (r2.back r3) x3
        | ok o e2 =>
          rw [qk] at h2
          intro ky M3 H3 r3' k3
          have sM : Sub M2 M3 := r3'.base
          have r3 := r2.back r3'
          have h3 : sPost (gl X cl) W G D (match res e2 o, e2[i]? with
            | some k, some (.ow d) => (match p d [k, v.d] with
              | some d' => .nx (e2.set i (.ow d'))
              | none => .stuck)
            | some k, some (.bx d) => (match p d [k, v.d] with
              | some d' => .nx (e2.set i (.bx d'))
              | none => .stuck)
            | _, _ => .stuck) := h2
          cases hk : res e2 o with
          | none => rw [hk] at h3; exact h3.elim
          | some kd =>
            rw [hk] at h3
            have pk := r3.res hk k3
            cases hs2 : e2[i]? with
            | none => rw [hs2] at h3; exact h3.elim
            | some s2 =>
              rw [hs2] at h3
              have sl2 := r3.slot i s2 _ hs2 hx
              cases s2 with
              | ow d =>
                obtain ⟨a, ob, ea, ha, ro, ma, _⟩ := sl2
                cases ea
                have h4 : sPost (gl X cl) W G D (match p d [kd, v.d] with | some d' => .nx (e2.set i (.ow d')) | none => .stuck) := h3
                cases hp : p d [kd, v.d] with
                | none => rw [hp] at h4; exact h4.elim
                | some d' =>
                  rw [hp] at h4
                  exact ⟨a, M3, ob, d, kd, v.d, d', rfl, ha, ro, ma, r3.sub, pk, rv.mono sM, hp, fun o' ro' => h4 σ M3 _ (r3.mut hs2 hx (.inl ⟨d, rfl, rfl⟩) ro')⟩
              | bx d =>
                obtain ⟨a, ob, ea, ha, ro, ma, _⟩ := sl2
                cases ea
                have h4 : sPost (gl X cl) W G D (match p d [kd, v.d] with | some d' => .nx (e2.set i (.bx d')) | none => .stuck) := h3
                cases hp : p d [kd, v.d] with
                | none => rw [hp] at h4; exact h4.elim
                | some d' =>
                  rw [hp] at h4
                  exact ⟨a, M3, ob, d, kd, v.d, d', rfl, ha, ro, ma, r3.sub, pk, rv.mono sM, hp, fun o' ro' => h4 σ M3 _ (r3.mut hs2 hx (.inr ⟨d, rfl, rfl⟩) ro')⟩
              | _ => exact h3.elim
end
/-! ### o.f = v -/
def putD (f : Str) (v : D) : List (Str × D) → List (Str × D)
  | [] => [(f, v)]
  | (g, x) :: r => if g = f then (g, v) :: r else (g, x) :: putD f v r
theorem repF_put {g : Gl0} {M : Hp} {f : Str} {v : V} {d : D} (h : Rep g M v d) : ∀ {fs : List (Str × V)} {ds : List (Str × D)}, RepF g M fs ds → RepF g M (putF f v fs) (putD f d ds)
  | _, _, .nil => .cons h .nil
  | _, _, .cons (f := f') q t => by
    unfold putF putD
    by_cases e : f' = f
    · rw [if_pos e, if_pos e]; exact .cons h t
    · rw [if_neg e, if_neg e]; exact .cons q (repF_put h t)
theorem RepF.length {g : Gl0} {M : Hp} : ∀ {fs : List (Str × V)} {ds : List (Str × D)}, RepF g M fs ds → fs.length = ds.length
  | _, _, .nil => rfl
  | _, _, .cons _ t => congrArg (· + 1) (RepF.length t)
def sSetF (at_ : Str → Str → Bool) (f : Str) (i : Nat) (mv : Sx Vl) : SS := fun e => match mv e with
  | .ok v e1 => (match e1[i]? with
    | some (.ow (.obj c fs)) => if at_ c f = true ∧ fs.length < 1000 then .nx (e1.set i (.ow (.obj c (putD f v.d fs)))) else .stuck
    | some (.bx (.obj c fs)) => if at_ c f = true ∧ fs.length < 1000 then .nx (e1.set i (.bx (.obj c (putD f v.d fs)))) else .stuck
    | _ => .stuck)
  | .exc x e1 => .exc x e1
  | .stuck => .stuck
/-- n += e -/
def sAug (p : List D → Option Vl) (i : Nat) (m : Sx Opd) : SS := fun e => match res e (.sl i) with
  | some d0 => (match m e with
    | .ok o e1 => (match res e1 o with
      | some d => (match p [d0, d] with
        | some v => .nx (e1.set i v.slot)
        | none => .stuck)
      | none => .stuck)
    | .exc x e1 => .exc x e1
    | .stuck => .stuck)
  | none => .stuck
def pAugI : List D → Option Vl
  | [.int i, .int j] => some (fz (.int (i + j)))
  | _ => none
section
variable {X : Cx} {cl : Str → Option Addr} {W : WX} {i : Nat} {nm : Str} {pp p2 pos : Pos} {value : Expr} {mv : Sx Vl}
theorem vs_setF {at_ : Str → Str → Bool} {f : Str} (hat : ∀ c f C, at_ c f = true → cl c = some C → Cls X.K C ∧ NoAttr X.K C f) (hN : X.N[i]? = some nm) (hv : Vis X.env.scope nm) (hd : (nm == ("__debug__" : Str)) = false) (hcd : (nm == ("__classdict__" : Str)) = false)
    (he : PE X value (tE (gl X cl) W mv)) (hs : swapsWith value (some (.Attribute (.Name nm pp) f p2)) pos.line X.env = pure false) :
    PS X (.Assign [.Attribute (.Name nm pp) f p2] value pos) (tS (gl X cl) W (sSetF at_ f i mv)) :=
  PS_imp (ps_fld (pe_var hN hv hd hcd) he hs) fun D σ H ⟨G, e, M, r, h⟩ => by
    unfold sSetF at h
    refine stm_expr r h fun v e1 y M1 H1 _ r1 v1 h1 => ?_
    obtain ⟨M2, s2, r2, rv⟩ := r1.freeze v1
    cases hs : e1[i]? with
    | none => rw [hs] at h1; exact h1.elim
    | some sl =>
      rw [hs] at h1
      obtain ⟨x, hx, q⟩ := r2.at hs
      have go : ∀ (d : Ev.D) (mk : Ev.D → Ev.Slot) (a : Addr) (ob : HO), x = some (.ref a) → H1 a = some ob → RepO (gl X cl) M2 a ob d → (∀ d', (sl = .ow d ∧ mk d' = .ow d') ∨ (sl = .bx d ∧ mk d' = .bx d')) →
          sPost (gl X cl) W G D (match d with | .obj c fs => if at_ c f = true ∧ fs.length < 1000 then .nx (e1.set i (mk (.obj c (putD f v.d fs)))) else .stuck | _ => .stuck) →
          ∃ x, σ[i]? = some (some x) ∧ ∃ a C dx fs, x = .ref a ∧ H1 a = some (.ins C dx fs) ∧ Cls X.K C ∧ NoAttr X.K C f ∧ fs.length < 1000 ∧ D.nx σ (upd H1 a (.ins C dx (putF f y fs))) := by
        intro d mk a ob ex ha ro hk h2
        cases d with
        | obj c fs =>
          have h2' : sPost (gl X cl) W G D (if at_ c f = true ∧ fs.length < 1000 then .nx (e1.set i (mk (.obj c (putD f v.d fs)))) else .stuck) := h2
          by_cases hc : at_ c f = true ∧ fs.length < 1000
          · rw [if_pos hc] at h2'
            cases ro with
            | obj hcl hf =>
              rename_i C dx gs
              obtain ⟨c1, c2⟩ := hat _ _ C hc.1 hcl
              subst ex
              refine ⟨_, hx, a, C, dx, gs, rfl, ha, c1, c2, by rw [hf.length]; exact hc.2, ?_⟩
              exact h2' σ M2 _ (r2.mut hs hx (by rcases hk (.obj c (putD f v.d fs)) with ⟨e1, e2⟩ | ⟨e1, e2⟩; exact .inl ⟨_, e1, e2⟩; exact .inr ⟨_, e1, e2⟩) (.obj hcl (repF_put rv hf)))
          · rw [if_neg hc] at h2'; exact h2'.elim
        | _ => exact h2.elim
      cases sl with
      | ow d =>
        obtain ⟨a, ob, ea, ha, ro, ma, _⟩ := q
        refine go d Slot.ow a ob ea ha ro (fun d' => .inl ⟨rfl, rfl⟩) ?_
        cases d <;> first | exact h1 | exact h1.elim
      | bx d =>
        obtain ⟨a, ob, ea, ha, ro, ma, _⟩ := q
        refine go d Slot.bx a ob ea ha ro (fun d' => .inr ⟨rfl, rfl⟩) ?_
        cases d <;> first | exact h1 | exact h1.elim
      | _ => exact h1.elim
theorem vs_augI {k : Expr} {m : Sx Opd} (hN : X.N.Nodup) (hi : X.N[i]? = some nm) (hx : Loc X.env.scope nm) (he : PE X k (tO (gl X cl) W m)) (hf : X.fn nm = true ∨ X.env.scope.names.lookup nm = some .local) :
    PS X (.AugAssign (.Name nm pp) .Add k pos) (tS (gl X cl) W (sAug pAugI i m)) :=
  PS_imp (ps_aug hN hi hx he ip_add hf) fun D σ H ⟨G, e, M, r, h⟩ => by
    unfold sAug at h
    cases hr : res e (.sl i) with
    | none => rw [hr] at h; exact h.elim
    | some d0 =>
      rw [hr] at h
      obtain ⟨x, hx0, pr0⟩ := slot_val r hr
      refine ⟨x, hx0, G, e, M, r, ?_⟩
      have h' : sPost (gl X cl) W G D (match m e with
        | .ok o e1 => (match res e1 o with
          | some d => (match pAugI [d0, d] with
            | some v => .nx (e1.set i v.slot)
            | none => .stuck)
          | none => .stuck)
        | .exc x e1 => .exc x e1
        | .stuck => .stuck) := h
      cases q : m e with
      | stuck => rw [q] at h'; exact h'
      | exc z e1 => rw [q] at h'; exact fun c d M1 H1 r1 x1 => h' c d σ M1 H1 r1 x1
      | ok o e1 =>
        rw [q] at h'
        intro y M1 H1 r1 y1
        cases hr1 : res e1 o with
        | none =>
          have h2 : sPost (gl X cl) W G D (match res e1 o with | some d => (match pAugI [d0, d] with | some v => .nx (e1.set i v.slot) | none => .stuck) | none => .stuck) := h'
          rw [hr1] at h2; exact h2.elim
        | some d =>
          have h2 : sPost (gl X cl) W G D (match res e1 o with | some d => (match pAugI [d0, d] with | some v => .nx (e1.set i v.slot) | none => .stuck) | none => .stuck) := h'
          rw [hr1] at h2
          have h3 : sPost (gl X cl) W G D (match pAugI [d0, d] with | some v => .nx (e1.set i v.slot) | none => .stuck) := h2
          have pr := r1.res hr1 y1
          unfold pAugI at h3
          split at h3
          · rename_i v hv
            split at hv
            · rename_i i0 j0 heq
              cases hv
              cases heq
              exact ⟨i0, j0, pr0.int, pr.int, h3 _ M1 H1 (r1.setSh (.int _))⟩
            · cases hv
          · exact h3.elim
end
end Ev
set_option Elab.async false
set_option linter.all false
set_option autoImplicit false
set_option maxRecDepth 100000
/-! enumerate, zip. -/
namespace Ev
open PySem L2 PySem.Spec PyProof.Rows RZ
def pairUp (p : D × D) : D := .tup [p.1, p.2]
def enumUp (p : Nat × D) : D := .tup [.int (p.1 : Nat), p.2]
def enumItems (ds : List D) : List D := ((List.range ds.length).zip ds).map enumUp
def zipItems (ds es : List D) : List D := (ds.zip es).map pairUp
def sEnum (m : Sx Opd) : Sx Src := fun e => (m e).bind fun o e => match res e o with
  | some (.lst ds) => .ok ⟨enumItems ds, chkOf o (.lst ds)⟩ e
  | _ => .stuck
def sZip (m n : Sx Opd) : Sx Src := fun e => (m e).bind fun o e => (n e).bind fun o2 e => match o2 with
  | .dt d2 => (match res e o, d2 with
    | some (.lst ds), .lst es => .ok ⟨zipItems ds es, chkOf o (.lst ds)⟩ e
    | some (.tup ds), .tup es => .ok ⟨zipItems ds es, chkOf o (.tup ds)⟩ e
    | _, _ => .stuck)
  | _ => .stuck
theorem enum_get {ds : List D} {i : Nat} {d : D} (h : ds[i]? = some d) : (enumItems ds)[i]? = some (.tup [.int (i : Nat), d]) := by
  have hl := (List.getElem?_eq_some_iff.mp h).1
  unfold enumItems
  rw [List.getElem?_map, (List.getElem?_zip_eq_some (z := (i, d))).mpr ⟨(by rw [List.getElem?_range hl] : (List.range ds.length)[i]? = some i), h⟩]
  rfl
theorem enum_len (ds : List D) : (enumItems ds).length = ds.length := by simp [enumItems]
theorem zip_len (ds es : List D) : (zipItems ds es).length = min ds.length es.length := by simp [zipItems]
theorem zip_get {ds es : List D} {i : Nat} {d e : D} (h : ds[i]? = some d) (h' : es[i]? = some e) : (zipItems ds es)[i]? = some (.tup [d, e]) := by
  unfold zipItems
  rw [List.getElem?_map, (List.getElem?_zip_eq_some (z := (d, e))).mpr ⟨h, h'⟩]
  rfl
theorem two_line : (2 : Nat) ≤ sizeLine := by decide
theorem pair_rep {g : Gl0} {M H : Hp} {T : Addr} {x y : V} {d e : D} (sm : Sub M H) (hT : H T = none) (rx : Rep g M x d) (ry : Rep g M y e) : ∃ M', Ext M H M' (upd H T (.tup [x, y])) ∧ Rep g M' (.ref T) (.tup [d, e]) :=
  ⟨upd M T (.tup [x, y]), .newM sm hT, .tup (.of upd_same) (.cons (rx.mono (.upd (sm.none hT))) (.cons (ry.mono (.upd (sm.none hT))) .nil)) two_line⟩
theorem jok_enum {g : Gl0} {a : Addr} {ds : List D} : JOk g (Ite g.K a) (enumItems ds) (fun M H => PRep g M H (.ref a) (.lst ds)) where
  go := fun i M H st sm hi => by
    obtain ⟨b, vs, e, hs, hr, _⟩ := st.lst sm
    cases e
    rw [enum_len] at hi
    obtain ⟨v, hv, _⟩ := hr.get (List.getElem?_eq_getElem hi)
    exact ⟨vs, v, .of hs, hv⟩
  stop := fun M H st sm => by
    obtain ⟨b, vs, e, hs, hr, _⟩ := st.lst sm
    cases e
    exact ⟨vs, .of hs, by rw [hr.length, enum_len]; exact Nat.le_refl _⟩
  yld := fun i M H x H' st sm y d hd => by
    obtain ⟨b, vs, e, hs, hr, _⟩ := st.lst sm
    cases e
    obtain ⟨T, x0, rfl, hT, rfl, hx⟩ := y
    have hl : i < ds.length := by rw [← enum_len]; exact (List.getElem?_eq_some_iff.mp hd).1
    have hg := List.getElem?_eq_getElem hl
    rw [enum_get hg] at hd
    cases hd
    obtain ⟨v, hv, rv⟩ := hr.get hg
    have := hx vs (.of hs)
    rw [hv] at this; cases this
    exact pair_rep sm hT (.int _) rv
theorem jok_zip {g : Gl0} {a b : Addr} {ds es : List D} : JOk g (Itz g.K a b) (zipItems ds es) (fun M H => PRep g M H (.ref a) (.lst ds) ∧ PRep g M H (.ref b) (.lst es)) where
  go := fun i M H st sm hi => by
    obtain ⟨b1, vs, e1, hs, hr, _⟩ := st.1.lst sm
    obtain ⟨b2, ws, e2, hs2, hr2, _⟩ := st.2.lst sm
    cases e1; cases e2
    rw [zip_len] at hi
    obtain ⟨v, hv, _⟩ := hr.get (List.getElem?_eq_getElem (show i < ds.length by omega))
    obtain ⟨w, hw, _⟩ := hr2.get (List.getElem?_eq_getElem (show i < es.length by omega))
    exact ⟨vs, ws, v, w, .of hs, .of hs2, hv, hw⟩
  stop := fun M H st sm => by
    obtain ⟨b1, vs, e1, hs, hr, _⟩ := st.1.lst sm
    obtain ⟨b2, ws, e2, hs2, hr2, _⟩ := st.2.lst sm
    cases e1; cases e2
    exact ⟨vs, ws, .of hs, .of hs2, by rw [hr.length, hr2.length, zip_len]; omega⟩
  yld := fun i M H x H' st sm y d hd => by
    obtain ⟨b1, vs, e1, hs, hr, _⟩ := st.1.lst sm
    obtain ⟨b2, ws, e2, hs2, hr2, _⟩ := st.2.lst sm
    cases e1; cases e2
    obtain ⟨T, x0, y0, rfl, hT, rfl, hx, hy⟩ := y
    have hl : i < min ds.length es.length := by rw [← zip_len]; exact (List.getElem?_eq_some_iff.mp hd).1
    have hg := List.getElem?_eq_getElem (show i < ds.length by omega)
    have hg2 := List.getElem?_eq_getElem (show i < es.length by omega)
    rw [zip_get hg hg2] at hd
    cases hd
    obtain ⟨v, hv, rv⟩ := hr.get hg
    obtain ⟨w, hw, rw'⟩ := hr2.get hg2
    have h1 := hx vs (.of hs)
    have h2 := hy ws (.of hs2)
    rw [hv] at h1; cases h1
    rw [hw] at h2; cases h2
    exact pair_rep sm hT rv rw'
theorem jok_zipT {g : Gl0} {a b : Addr} {ds es : List D} : JOk g (ItzT g.K a b) (zipItems ds es) (fun M H => PRep g M H (.ref a) (.tup ds) ∧ PRep g M H (.ref b) (.tup es)) where
  go := fun i M H st sm hi => by
    obtain ⟨b1, vs, e1, hs, hr, _⟩ := st.1.tup sm
    obtain ⟨b2, ws, e2, hs2, hr2, _⟩ := st.2.tup sm
    cases e1; cases e2
    rw [zip_len] at hi
    obtain ⟨v, hv, _⟩ := hr.get (List.getElem?_eq_getElem (show i < ds.length by omega))
    obtain ⟨w, hw, _⟩ := hr2.get (List.getElem?_eq_getElem (show i < es.length by omega))
    exact ⟨vs, ws, v, w, hs, hs2, hv, hw⟩
  stop := fun M H st sm => by
    obtain ⟨b1, vs, e1, hs, hr, _⟩ := st.1.tup sm
    obtain ⟨b2, ws, e2, hs2, hr2, _⟩ := st.2.tup sm
    cases e1; cases e2
    exact ⟨vs, ws, hs, hs2, by rw [hr.length, hr2.length, zip_len]; omega⟩
  yld := fun i M H x H' st sm y d hd => by
    obtain ⟨b1, vs, e1, hs, hr, _⟩ := st.1.tup sm
    obtain ⟨b2, ws, e2, hs2, hr2, _⟩ := st.2.tup sm
    cases e1; cases e2
    obtain ⟨T, x0, y0, rfl, hT, rfl, hx, hy⟩ := y
    have hl : i < min ds.length es.length := by rw [← zip_len]; exact (List.getElem?_eq_some_iff.mp hd).1
    have hg := List.getElem?_eq_getElem (show i < ds.length by omega)
    have hg2 := List.getElem?_eq_getElem (show i < es.length by omega)
    rw [zip_get hg hg2] at hd
    cases hd
    obtain ⟨v, hv, rv⟩ := hr.get hg
    obtain ⟨w, hw, rw'⟩ := hr2.get hg2
    have h1 := hx vs hs
    have h2 := hy ws hs2
    rw [hv] at h1; cases h1
    rw [hw] at h2; cases h2
    exact pair_rep sm hT rv rw'
section
variable {X : Cx} {cl : Str → Option Addr} {W : WX} {e e2 : Expr} {m n : Sx Opd} {p pos tpos : Pos} {elts : List Expr} {kk : Nat}
/-- an operand stays what it is while nothing of it changes -/
theorem opd_stay {g : Gl0} {M1 : Hp} {σ : L2.St} {o : Opd} {x : V} {e1 : En} (x1 : OpdR g M1 σ x o) {d : D} (hd : res e1 o = some d) : ∀ (G' : Gh) (e' : En) (M' H' : Hp) (σ' : L2.St), Rel g G' e' M' σ' H' → Sub M1 M' → (Src.mk [] (chkOf o d)).ok e' → (∀ i d', chkOf o d = some (i, d') → σ'[i]? = σ[i]?) → PRep g M' H' x d := by
  intro G' e' M' H' σ' r' sm hok hσ
  cases o with
  | dt d' => cases hd; exact .inl (Rep.mono sm x1)
  | sl i => exact r'.res hok (by show σ'[i]? = some (some x); rw [hσ i d rfl]; exact x1)
theorem vi_enum (hg : Gl X "enumerate") (hm : X.mg "enumerate" = none) (ha : PA X [e] (tAs (gl X cl) W (sOps [m]))) (hs : starEach [e] X.env = [(false, eval e X.env)]) :
    PI X (.Tuple elts kk tpos) (.Call (.Name "enumerate" p) [e] [] pos) (tI (gl X cl) W (sEnum m)) :=
  PI_imp (pi_enum hg hm ha hs) fun σ H Q ⟨G, e, M, r, h⟩ => by
    unfold sEnum at h
    have h0 : tPost (gl X cl) W (SrcR (gl X cl)) G σ Q ((sOps [m] e).bind fun os e => match os with
      | [o] => (match res e o with
        | some (.lst ds) => .ok ⟨enumItems ds, chkOf o (.lst ds)⟩ e
        | _ => .stuck)
      | _ => .stuck) := by
      unfold sOps
      rw [Out.bind_assoc]
      unfold sOps
      exact h
    refine tG_last r h0 fun os e1 xs M1 H1 _ r1 _ x1 h1 => ?_
    cases x1 with
    | nil => exact h1.elim
    | @cons x xs o os x1 x2 =>
      cases x2 with
      | cons _ _ => exact h1.elim
      | nil =>
        have h2 : tPost (gl X cl) W (SrcR (gl X cl)) G σ Q (match res e1 o with
          | some (.lst ds) => .ok ⟨enumItems ds, chkOf o (.lst ds)⟩ e1
          | _ => .stuck) := h1
        cases hr : res e1 o with
        | none => rw [hr] at h2; exact h2.elim
        | some d =>
          rw [hr] at h2
          have pr := r1.res hr x1
          cases d with
          | lst ds =>
            obtain ⟨a, vs, rfl, hs, _, hz⟩ := pr.lst r1.sub
            exact ⟨a, vs, rfl, .of hs, h2 _ M1 H1 r1 ⟨_, jok_enum, by show (enumItems ds).length ≤ _; rw [enum_len]; exact hz, fun G' e' M' H' σ' q1 q2 q3 q4 => opd_stay x1 hr G' e' M' H' σ' q1 q2 q3 q4⟩⟩
          | _ => exact h2.elim
theorem vi_zip (hg : Gl X "zip") (hm : X.mg "zip" = none) (ha : PA X [e, e2] (tAs (gl X cl) W (sOps [m, n])))
    (hs : starEach [e, e2] X.env = (false, eval e X.env) :: starEach [e2] X.env) (hpl : (backTo pos (starEach [e2] X.env)).any (·.1) = false) :
    PI X (.Tuple elts kk tpos) (.Call (.Name "zip" p) [e, e2] [] pos) (tI (gl X cl) W (sZip m n)) :=
  PI_imp (pi_zipA hg hm ha hs hpl) fun σ H Q ⟨G, e, M, r, h⟩ => by
    unfold sZip at h
    have h0 : tPost (gl X cl) W (SrcR (gl X cl)) G σ Q ((sOps [m, n] e).bind fun os e => match os with
      | [o, .dt d2] => (match res e o, d2 with
        | some (.lst ds), .lst es => .ok ⟨zipItems ds es, chkOf o (.lst ds)⟩ e
        | some (.tup ds), .tup es => .ok ⟨zipItems ds es, chkOf o (.tup ds)⟩ e
        | _, _ => .stuck)
      | _ => .stuck) := by
      unfold sOps
      rw [Out.bind_assoc]
      unfold sOps
      simp only [Out.bind_assoc]
      unfold sOps
      simp only [Out.bind_ok]
      cases hme : m e with
      | stuck => rw [hme] at h; exact h
      | exc x e1 => rw [hme] at h; exact h
      | ok o e1 =>
        rw [hme] at h
        simp only [Out.bind_ok] at h ⊢
        cases hn : n e1 with
        | stuck => rw [hn] at h; exact h
        | exc x e2 => rw [hn] at h; exact h
        | ok o2 e2 =>
          rw [hn] at h
          simp only [Out.bind_ok] at h ⊢
          cases o2 <;> exact h
    refine tG_last r h0 fun os e1 xs M1 H1 _ r1 _ x1 h1 => ?_
    cases x1 with
    | nil => exact h1.elim
    | @cons x xs o os x1 x2 =>
      cases x2 with
      | nil => exact h1.elim
      | @cons y ys o2 os2 x2 x3 =>
        cases x3 with
        | cons _ _ => cases o2 <;> exact h1.elim
        | nil =>
          cases o2 with
          | sl j => exact h1.elim
          | dt d2 =>
            have h2 : tPost (gl X cl) W (SrcR (gl X cl)) G σ Q (match (generalizing := false) res e1 o, d2 with
              | some (.lst ds), .lst es => .ok ⟨zipItems ds es, chkOf o (.lst ds)⟩ e1
              | some (.tup ds), .tup es => .ok ⟨zipItems ds es, chkOf o (.tup ds)⟩ e1
              | _, _ => .stuck) := h1
            cases hr : res e1 o with
            | none => rw [hr] at h2; exact h2.elim
            | some d =>
              rw [hr] at h2
              have pr := r1.res hr x1
              have pr2 : PRep (gl X cl) M1 H1 y d2 := .inl x2
              cases d with
              | lst ds =>
                cases d2 with
                | lst es =>
                  obtain ⟨a, vs, rfl, hs, _, hz⟩ := pr.lst r1.sub
                  obtain ⟨b, ws, rfl, hs2, _, hz2⟩ := pr2.lst r1.sub
                  exact ⟨a, b, vs, ws, rfl, .inl ⟨.of hs, .of hs2, h2 _ M1 H1 r1 ⟨_, jok_zip, by show (zipItems ds es).length ≤ _; rw [zip_len]; omega, fun G' e' M' H' σ' q1 q2 q3 q4 => ⟨opd_stay x1 hr G' e' M' H' σ' q1 q2 q3 q4, .inl (Rep.mono q2 x2)⟩⟩⟩⟩
                | _ => exact h2.elim
              | tup ds =>
                cases d2 with
                | tup es =>
                  obtain ⟨a, vs, rfl, hs, _, _, hz⟩ := pr.tup r1.sub
                  obtain ⟨b, ws, rfl, hs2, _, _, hz2⟩ := pr2.tup r1.sub
                  exact ⟨a, b, vs, ws, rfl, .inr ⟨hs, hs2, h2 _ M1 H1 r1 ⟨_, jok_zipT, by show (zipItems ds es).length ≤ _; rw [zip_len]; omega, fun G' e' M' H' σ' q1 q2 q3 q4 => ⟨opd_stay x1 hr G' e' M' H' σ' q1 q2 q3 q4, .inl (Rep.mono q2 x2)⟩⟩⟩⟩
                | _ => exact h2.elim
              | _ => exact h2.elim
end
end Ev
set_option Elab.async false
set_option linter.all false
set_option autoImplicit false
set_option maxRecDepth 100000
/-! Dict comprehensions with keys of any kind. -/
namespace Ev
open PySem L2 PySem.Spec PyProof.Rows
section
variable {X : Cx} {cl : Str → Option Addr}
/-- the reading; D is the new dict -/
def tDcG (g : Gl0) (wi : TI) (gt : TG) (tt : TT) (tk tv : TE) (vs : List Nat) : TE := fun σ H Q => wi σ H fun J H1 => ∀ D, H1 D = none → ∃ W : Nat → Nat → Hp → Prop, (∃ m, W 0 m (upd H1 D (.dK []))) ∧ ∀ i m H, W i m H →
  (J.stop i H ∧ Q (.ref D) H) ∨ (J.go i H ∧ ∃ Nx : Hp → Prop, (∀ H', Nx H' → ∃ m', m' < m ∧ W (i + 1) m' H') ∧ ∀ x H', J.yld i H x H' → gt x (wipe σ vs) H' fun σ2 H2 => wipe σ2 vs = wipe σ vs ∧ tt σ2 H2 fun b H3 =>
    if b = true then tk σ2 H3 fun y H4 => tv σ2 H4 fun z H5 => rDPut g y z D H5 Nx else Nx H3)
theorem pe_dcG (hu : X.A.units + 65 < cLine) {kx vx tg iter : Expr} {ifs : List Expr} {scope : Scope} {own : List (Str × Nat)} {pos : Pos} {wi : TI} {gt : TG} {tt : TT} {tk tv : TE} (hc : X.calm = true) (hN : X.N.Nodup) (hi : PI X tg iter wi) (ok : BlkOk X.N X.env.scope scope own)
    (hg : ∀ (s : Shared) (H : Hp) (C : Addr) (cl : List (Str × Addr)) (fp : List Addr), PG (X.blk s H scope (compEnvC scope cl C X.env) fp) tg gt) (ht : ∀ (s : Shared) (H : Hp) (C : Addr) (cl : List (Str × Addr)) (fp : List Addr), PTs (X.blk s H scope (compEnvC scope cl C X.env) fp) ifs tt)
    (hk : ∀ (s : Shared) (H : Hp) (C : Addr) (cl : List (Str × Addr)) (fp : List Addr), PE (X.blk s H scope (compEnvC scope cl C X.env) fp) kx tk)
    (he : ∀ (s : Shared) (H : Hp) (C : Addr) (cl : List (Str × Addr)) (fp : List Addr), PE (X.blk s H scope (compEnvC scope cl C X.env) fp) vx tv) (hs : ∀ x, foldedSetIterable iter X.env x = pure x) :
    PE X (.DictComp kx vx [⟨tg, iter, ifs, 0⟩] scope pos) (tDcG (gl X cl) wi gt tt tk tv (own.map (·.2))) := by
  refine ⟨fun pins s σ H Q I h => ?_⟩
  rw [arm_eval_DictComp]
  have hfree : ∀ y ∈ scope.names, y.2 = .free → ∃ c, X.env.cells.lookup y.1 = some c := fun y hy e => (ok.free y hy e).elim (fun k => I.ok.has _ (.inl k)) (fun k => I.ok.has _ (.inr k))
  refine wpAny_comprehension_free (use := none) rfl hs (closure_ok hfree) ok.kind (fun y hy e => by rw [ok.uniq y hy, e]) (thn (hi.run pins s σ H _ I h) fun xv s1 hx => thn hx fun itv s2 h2 => ?_)
  obtain ⟨it, fp, tn, J, H2, e, I2, T, st2, f2, q⟩ := h2
  subst e
  refine wpAny_newObj_type (newEnv_comp ?_)
  generalize hD : s2.heap.objs.size = D
  have hDn : H2 D = none := I2.hok.fresh (Nat.le_of_eq hD)
  obtain ⟨W, ⟨m0, w0⟩, turn⟩ := q D hDn
  generalize hs3 : ({ s2 with heap := s2.heap.push { cls := .type "dict", data := .dict #[] } } : Shared) = s3
  have h3 : s3.heap = s2.heap.push { cls := .type "dict", data := .dict #[] } := by rw [← hs3]
  have I3 : Inv X pins σ (upd H2 D (.dK [])) s3 := by
    rw [← hs3]
    refine I2.laid (t' := s2.toks) (fun b o e => Heap.get?_push_of_some _ e) (Nat.le_of_eq hD) ?_
    rw [← hD]
    exact dk_empty s2.heap I2.big
  have f3 : ∀ b ∈ fp, FpOk X pins (upd H2 D (.dK [])) b ∧ b < s3.heap.objs.size := fun b hb => by
    obtain ⟨o, e, _⟩ := T.obj _ _ st2 b hb
    have hlt := Heap.lt_size e
    refine ⟨⟨?_, (f2 b hb).2⟩, by rw [h3, Heap.size_push]; exact Nat.lt_succ_of_lt hlt⟩
    rw [upd_ne (by rw [← hD]; exact Nat.ne_of_lt hlt)]
    exact (f2 b hb).1
  have st3 : tn 0 s3.heap := T.keep _ _ _ st2 fun b _ o e => by rw [h3]; exact Heap.get?_push_of_some _ e
  have I4 := block_start I3 ok hN f3
  have all := fun (P : Cx → Prop) (h : ∀ (s : Shared) (H : Hp) (C : Addr) (cl : List (Str × Addr)) (fp : List Addr), P (X.blk s H scope (compEnvC scope cl C X.env) fp)) => h s3 (upd H2 D (.dK [])) s3.heap.objs.size (cellsFrom (s3.heap.objs.size + 1) scope.names (cloFrom X.env.cells scope.names [])) fp
  have pg := all (fun Y => PG Y tg gt) hg
  have pt := all (fun Y => PTs Y ifs tt) ht
  have pk := all (fun Y => PE Y kx tk) hk
  have pe := all (fun Y => PE Y vx tv) he
  clear all
  show codeAny _ _ (.compStart (.DictComp kx vx [⟨tg, iter, ifs, 0⟩] scope pos) 0 (.ref it) (.ref D) (compEnvC scope (cellsFrom (s3.heap.objs.size + 1) scope.names (cloFrom X.env.cells scope.names [])) s3.heap.objs.size X.env)) (compPost (model X.prog X.w) X.A X.xe none (fun v s' => EP X pins σ Q v s') (.ref D) s3.heap.objs.size) { s3 with heap := pushCells (s3.heap.push { cls := .type "dict", data := .dict #[] }) scope.names }
  have nfp : ∀ b ∈ fp, (upd H2 D (.dK [])) b = none := fun b hb => (f3 b hb).1.1
  generalize hce : compEnvC scope (cellsFrom (s3.heap.objs.size + 1) scope.names (cloFrom X.env.cells scope.names [])) s3.heap.objs.size X.env = ce at I4 pg pt pk pe ⊢
  have cL : ce.locals = s3.heap.objs.size := by subst hce; rfl
  generalize hH3 : upd H2 D (.dK []) = H3 at I3 I4 pg pt pk pe w0 nfp f3
  generalize hs4 : ({ s3 with heap := pushCells (s3.heap.push { cls := .type "dict", data := .dict #[] }) scope.names } : Shared) = s4 at I4 ⊢
  have st4 : tn 0 s4.heap := T.keep _ _ _ st3 fun b _ o e => by rw [← hs4]; exact pushCells_keeps _ _ _ _ (Heap.get?_push_of_some _ e)
  have stat : ∀ {σ' : L2.St} {H' : Hp} {s' : Shared}, Inv (X.blk s3 H3 scope ce fp) [] σ' H' s' → (∀ b ∈ fp, H' b = none) → ∀ b ∈ fp, FpOk (X.blk s3 H3 scope ce fp) [] H' b := fun {σ' H' s'} I' hn b hb =>
    ⟨hn b hb, (I'.ok.exf b hb).1, I'.ok.exfs b hb, .inl hb, fun x c e => (I'.ok.exf b hb).2 x c e, fun p hp => absurd (show p ∈ ([] : List (Addr × Obj)) ++ [] from hp) (by simp)⟩
  have loop : codeAny (model X.prog X.w) X.A (.compLoop (.DictComp kx vx [⟨tg, iter, ifs, 0⟩] scope pos) 0 (.ref it) (.ref D) ce) (compPost (model X.prog X.w) X.A X.xe none (fun v s' => EP X pins σ Q v s') (.ref D) s3.heap.objs.size) s4 := by
    refine compLoop_anyD (fun n s' => ∃ i H', Inv (X.blk s3 H3 scope ce fp) [] (wipe σ (own.map (·.2))) H' s' ∧ tn i s'.heap ∧ (∀ b ∈ fp, H' b = none) ∧ W i n H') ?_ m0 ⟨0, H3, I4, st4, nfp, w0⟩
    rintro n s5 ⟨i, H5, I5, st5, n5, w5⟩
    rcases turn i n H5 w5 with ⟨stop, qq⟩ | ⟨go, Nx, hNx, step⟩
    · refine thnF (T.done (X.blk s3 H3 scope ce fp) rfl rfl rfl hc i [] s5 _ H5 (fun _ _ => False) I5 (stat I5 n5) st5 stop) fun r s6 ⟨hr, I6⟩ => ?_
      subst hr
      have I7 : Inv X pins σ H5 s6 := I3.call' (ch := fp) I6.os I6.base I6.hok I6.bare fun b hb => ⟨(f3 b hb).1.2.2.2.1, (f3 b hb).1.2.1, (f3 b hb).1.2.2.2.2.1, (f3 b hb).1.2.2.2.2.2⟩
      have nC : H5 s3.heap.objs.size = none := by
        have z : H5 ce.locals = none := I6.free
        rw [cL] at z
        exact z
      obtain ⟨m, hn, _⟩ := I6.loc
      have hn : s6.heap.Ns ce.locals m := hn
      rw [cL] at hn
      obtain ⟨f0, f1, f2, f3, f4, f5⟩ := I3.fpOk (Nat.le_refl _) nC
      exact ⟨m, hn, fun h'' sb => ⟨.ref D, H5, I7.turned (t' := s6.toks) (fun b o hb e => (sb.2 b hb).trans e) f0 f1 f3 f4 f5, rfl, qq⟩⟩
    · refine thnF (T.item (X.blk s3 H3 scope ce fp) rfl rfl rfl hc i [] s5 _ H5 (fun _ _ => False) I5 (stat I5 n5) st5 go) fun r s6 ⟨u, hr, h6⟩ => ?_
      subst hr
      refine thnF h6 fun _ s7 ⟨x, H7, I7, r7, y7, st7, n7⟩ => ?_
      refine thnF (pg.run _ s7 _ H7 x u _ (I7.pinned (stat I7 n7) (T.obj _ _ st7)) r7 (step x H7 y7)) fun _ s8 ⟨σ8, H8, I8, hw8, q8⟩ => ?_
      refine thnF (pt.run _ s8 σ8 H8 _ I8 q8) fun b s9 ⟨H9, I9, q9⟩ => ?_
      have fin : ∀ {s' : Shared} {H' : Hp}, Inv (X.blk s3 H3 scope ce fp) ([] ++ pinsAt fp s7.heap) σ8 H' s' → Nx H' → ∃ m, m < n ∧ ∃ i H', Inv (X.blk s3 H3 scope ce fp) [] (wipe σ (own.map (·.2))) H' s' ∧ tn i s'.heap ∧ (∀ b ∈ fp, H' b = none) ∧ W i m H' := fun {s' H'} I' nx => by
        obtain ⟨m', hm, w'⟩ := hNx H' nx
        have pin' : ∀ b ∈ fp, ∀ o, s7.heap.get? b = some o → s'.heap.get? b = some o ∧ H' b = none := fun b hb o e =>
          let z := I'.pin (b, o) (List.mem_append_right _ (List.mem_append_right _ (mem_pinsAt hb e)))
          ⟨z.1, z.2.1⟩
        refine ⟨m', hm, i + 1, H', (I'.unpinned (pins := [])).weak (by rw [← hw8, wipe_length]) (fun j v e => by rw [← hw8] at e; exact (wipe_some e).1), T.keep _ _ _ st7 fun b hb o e => (pin' b hb o e).1, fun b hb => ?_, w'⟩
        obtain ⟨o, e, _⟩ := T.obj _ _ st7 b hb
        exact (pin' b hb o e).2
      cases b with
      | false =>
        simp only [Bool.false_eq_true, if_false] at q9 ⊢
        exact fin I9 q9
      | true =>
        simp only [if_true] at q9 ⊢
        refine thnF (pk.run _ s9 σ8 H9 _ I9 q9) fun z s10 ⟨yk, H10, I10, r10, q10⟩ => ?_
        refine thnF (pe.run _ s10 σ8 H10 _ I10 q10) fun z2 s11 ⟨yv, H11, I11, r11, nx⟩ => ?_
        exact wpAny_mono (dput_set (X := X.blk s3 H3 scope ce fp) (cl := cl) hu I11 nx r10 r11) (fun _ s12 ⟨H12, I12, q12⟩ => fin I12 q12) fun _ _ e => e
  exact codeAny_compStart_dict loop (T.self X.A 0 _ _ _ st4 loop)
end
end Ev
set_option Elab.async false
set_option linter.all false
set_option autoImplicit false
set_option maxRecDepth 100000
/-! Dict comprehensions, by values; displays of dicts. -/
namespace Ev
open PySem L2 PySem.Spec PyProof.Rows
open Classical in
noncomputable def dcGo (s : Src) (vs : List Nat) (tg : Tg) (t : Sx Bool) (mk mv : Sx Opd) : List D → List (D × D) → En → Out (List (D × D))
  | [], acc, e => if s.ok e then .ok acc e else .stuck
  | x :: xs, acc, e => if s.ok e then (match setTg tg x e with
    | none => .stuck
    | some e1 => (noX t e1).bind fun k e2 => if k = true then ((noX mk e2).bind fun o e3 => (noX mv e3).bind fun o2 e4 => match o, o2 with
        | .dt kd, .dt d => if dkOk acc kd = true ∧ acc.length < sizeLine then dcGo s vs tg t mk mv xs (dput acc kd d) (wipeE vs e4) else .stuck
        | _, _ => .stuck)
      else dcGo s vs tg t mk mv xs acc (wipeE vs e2)) else .stuck
noncomputable def sDComp (vs : List Nat) (tg : Tg) (s : Sx Src) (t : Sx Bool) (mk mv : Sx Opd) : Sx Vl := fun e => (s e).bind fun src e1 => if (hidOk vs e1 && src.apart vs && tg.ix.all vs.contains) = true then
    ((dcGo src vs tg t mk mv src.items [] (wipeE vs e1)).bind fun ds e2 => .ok (nw (.dic ds)) (restoreE vs e1 e2)) else .stuck
theorem noX_exc {α : Type} (m : Sx α) (e : En) (x : Exn) (e' : En) : noX m e ≠ .exc x e' := by
  intro q
  unfold noX at q
  split at q <;> cases q
theorem dcGo_exc {s : Src} {vs : List Nat} {tg : Tg} {t : Sx Bool} {mk mv : Sx Opd} : ∀ (xs : List D) (acc : List (D × D)) (e : En) (x : Exn) (e' : En), dcGo s vs tg t mk mv xs acc e ≠ .exc x e' := by
  intro xs
  induction xs with
  | nil => intro acc e x e' q; unfold dcGo at q; split at q <;> cases q
  | cons y ys ih =>
    intro acc e x e' q
    unfold dcGo at q
    split at q
    · split at q
      · cases q
      · cases q1 : noX t _ with
        | stuck => rw [q1] at q; cases q
        | exc x2 e2 => exact noX_exc _ _ _ _ q1
        | ok k e2 =>
          rw [q1, Out.bind_ok] at q
          split at q
          · cases q2 : noX mk e2 with
            | stuck => rw [q2] at q; cases q
            | exc x2 e3 => exact noX_exc _ _ _ _ q2
            | ok o e3 =>
              rw [q2, Out.bind_ok] at q
              cases q3 : noX mv e3 with
              | stuck => rw [q3] at q; cases q
              | exc x2 e4 => exact noX_exc _ _ _ _ q3
              | ok o2 e4 =>
                rw [q3, Out.bind_ok] at q
                split at q
                · split at q
                  · exact ih _ _ _ _ q
                  · cases q
                · cases q
          · exact ih _ _ _ _ q
    · cases q
theorem restore_vr {g : Gl0} {G : Gh} {e1 e : En} {M1 M H1 Hi : Hp} {σ : L2.St} {vs : List Nat} {D : Addr} {d : Ev.D} (r1 : Rel g G e1 M1 σ H1) (hhid : hidOk vs e1 = true) (vi : VR g G e M (wipe σ vs) Hi (.ref D) (nw d)) : VR g G (restoreE vs e1 e) M σ Hi (.ref D) (nw d) := by
  obtain ⟨q, o, e2, hp, ro, mp, h0, nb, nr, ne⟩ := vi
  cases e2
  refine ⟨D, o, rfl, hp, ro, mp, h0, nb, nr, fun j oj => ?_⟩
  obtain ⟨sl, q1, q2, q3⟩ := oj
  by_cases hj : j ∈ vs
  · have : ∀ (us : List Nat) (a : En), hidOk us e1 = true → j ∈ us → ∀ sl, (restoreE us e1 a)[j]? = some sl → ¬ sl.own := by
      intro us
      induction us with
      | nil => intro a _ hm; cases hm
      | cons u us ih =>
        intro a hh hm sl hsl
        unfold hidOk at hh
        rw [List.all_cons, Bool.and_eq_true] at hh
        unfold restoreE at hsl
        cases hu : e1[u]? with
        | none => rw [hu] at hh; exact absurd hh.1 (by simp)
        | some t0 =>
          rw [hu] at hsl hh
          by_cases huj : u = j
          · subst huj
            have hl := (List.getElem?_eq_some_iff.mp hsl).1
            rw [List.length_set] at hl
            rw [List.getElem?_set_self hl] at hsl
            cases hsl
            intro so
            cases sl with
            | ow d => exact absurd hh.1 (by simp)
            | bx d => exact absurd hh.1 (by simp)
            | _ => exact so
          · rw [List.getElem?_set_ne huj] at hsl
            rcases List.mem_cons.mp hm with z | z
            · exact absurd z.symm huj
            · exact ih a hh.2 z sl hsl
    exact this vs _ hhid hj sl q1 q2
  · have : ∀ (us : List Nat) (a : En), j ∉ us → (restoreE us e1 a)[j]? = a[j]? := by
      intro us
      induction us with
      | nil => intro a _; rfl
      | cons u us ih =>
        intro a hm
        unfold restoreE
        cases hu : e1[u]? with
        | none => exact ih a fun z => hm (List.mem_cons_of_mem _ z)
        | some t0 =>
          show ((restoreE us e1 a).set u t0)[j]? = a[j]?
          rw [List.getElem?_set_ne (fun z => hm (by rw [z]; exact List.mem_cons_self)), ih a fun z => hm (List.mem_cons_of_mem _ z)]
    rw [this vs _ hj] at q1
    exact ne j ⟨sl, q1, q2, by rw [wipe_get, if_neg hj]; exact q3⟩
theorem dcomp_read {g : Gl0} {W : WX} {vs : List Nat} {tg : Tg} {s : Sx Src} {t : Sx Bool} {mk mv : Sx Opd} {tt : TT} (htt : ∀ σ H Q, tT g W0 t σ H Q → tt σ H Q) {σ : L2.St} {H : Hp} {Q : VK} (h : tE g W (sDComp vs tg s t mk mv) σ H Q) :
    tDcG g (tI g W s) (gTg g.K tg) tt (tO g W0 mk) (tO g W0 mv) vs σ H Q := by
  obtain ⟨G, e, M, r, h⟩ := h
  unfold sDComp at h
  refine tG_last r h fun src e1 J M1 H1 _ r1 _ x1 h1 => ?_
  obtain ⟨S, jok, hlen, per⟩ := x1
  intro D hD
  by_cases hc : (hidOk vs e1 && src.apart vs && tg.ix.all vs.contains) = true
  · rw [if_pos hc] at h1
    rw [Bool.and_eq_true, Bool.and_eq_true] at hc
    obtain ⟨⟨hhid, hap⟩, htg⟩ := hc
    cases hgo : dcGo src vs tg t mk mv src.items [] (wipeE vs e1) with
    | stuck => rw [hgo] at h1; exact h1.elim
    | exc x e' => exact absurd hgo (dcGo_exc _ _ _ _ _)
    | ok dsA e4 =>
      rw [hgo, Out.bind_ok] at h1
      have rD := r1.ext (.new r1.sub (o := .dK []) hD)
      have vD : VR g G e1 M1 σ (upd H1 D (.dK [])) (.ref D) (nw (.dic [])) :=
        ⟨D, _, rfl, upd_same, .dik .nil, r1.sub.none hD, r1.h0none hD, fun z => r1.bl D z hD, fun z => (r1.lent D z).1 hD, fun i q => by
          obtain ⟨_, _, o, ho⟩ := r1.owned q
          rw [hD] at ho; cases ho⟩
      refine ⟨fun i m H => m = src.items.length - i ∧ i ≤ src.items.length ∧ ∃ e M dacc, Rel g G e M (wipe σ vs) H ∧ VR g G e M (wipe σ vs) H (.ref D) (nw (.dic dacc)) ∧ Sub M1 M ∧ dcGo src vs tg t mk mv (src.items.drop i) dacc e = .ok dsA e4,
        ⟨src.items.length, rfl, Nat.zero_le _, _, M1, [], rD.wipe vs, VR.wipe rD vD vs, .refl, by rw [List.drop_zero]; exact hgo⟩, ?_⟩
      rintro i m Hi ⟨rfl, hi, e, M, dacc, ri, vi, sM, hrun⟩
      have stands : src.ok e → S M Hi := fun ok => per G e M Hi (wipe σ vs) ri sM ok fun j d hj => by
        rw [wipe_get, if_neg]
        intro hm
        unfold Src.apart at hap
        rw [hj] at hap
        have hap' : (!vs.contains j) = true := hap
        rw [Bool.not_eq_true', List.contains_eq_mem] at hap'
        exact absurd hm (by simpa using hap')
      by_cases hlt : i < src.items.length
      · refine .inr ?_
        have hdrop : src.items.drop i = src.items[i] :: src.items.drop (i + 1) := List.drop_eq_getElem_cons hlt
        rw [hdrop] at hrun
        unfold dcGo at hrun
        split at hrun
        · rename_i hok
          have st := stands hok
          refine ⟨jok.go i M Hi st ri.sub hlt, fun H' => src.items.length - (i + 1) = src.items.length - (i + 1) ∧ i + 1 ≤ src.items.length ∧ ∃ e M dacc, Rel g G e M (wipe σ vs) H' ∧ VR g G e M (wipe σ vs) H' (.ref D) (nw (.dic dacc)) ∧ Sub M1 M ∧ dcGo src vs tg t mk mv (src.items.drop (i + 1)) dacc e = .ok dsA e4,
            fun H' q => ⟨src.items.length - (i + 1), by omega, q⟩, fun x H' hy => ?_⟩
          obtain ⟨M', w, rx⟩ := jok.yld i M Hi x H' st ri.sub hy _ (List.getElem?_eq_getElem hlt)
          have ri' := ri.ext w
          have vi' := vi.ext w
          split at hrun
          · cases hrun
          · rename_i e' hset
            obtain ⟨σ2, r2, v2, s2, k2⟩ := tg_ok rx hset ri' vi'
            have hw2 : wipe σ2 vs = wipe σ vs := by
              have : Same' vs (wipe σ vs) σ2 := ⟨s2.1, fun j hj => s2.2 j fun hm => hj (by
                have := List.all_eq_true.mp htg j hm
                rw [List.contains_eq_mem] at this
                simpa using this)⟩
              rw [wipe_same this, wipe_wipe]
            refine k2 _ ⟨hw2, ?_⟩
            obtain ⟨k, e2, hk, hrun⟩ := bind_ok' hrun
            have hk' := noX_ok hk
            refine htt σ2 H' _ ⟨G.here e' M' σ2 H', e', M', r2.here, ?_⟩
            rw [hk']
            intro b M3 H3 r3 eb
            subst eb
            have r3' := r2.back r3
            have v3 := v2.stay r2 r3 r3.base
            have s13 : Sub M1 M3 := (sM.trans w.mono).trans r3.base
            cases b with
            | true =>
              have hrun' : ((noX mk e2).bind fun o e3 => (noX mv e3).bind fun o2 e4 => match o, o2 with
                | .dt kd, .dt d => if dkOk dacc kd = true ∧ dacc.length < sizeLine then dcGo src vs tg t mk mv (src.items.drop (i + 1)) (dput dacc kd d) (wipeE vs e4) else .stuck
                | _, _ => .stuck) = .ok dsA e4 := hrun
              obtain ⟨o, e3, ho, hrun2⟩ := bind_ok' hrun'
              obtain ⟨o2, e5, ho2, hrun3⟩ := bind_ok' hrun2
              have ho' := noX_ok ho
              have ho2' := noX_ok ho2
              rw [if_pos rfl]
              refine ⟨G.here e2 M3 σ2 H3, e2, M3, r3'.here, ?_⟩
              rw [ho']
              intro y M5 H5 r5 oy
              have r5' := r3'.back r5
              have v5 := v3.stay r3' r5 r5.base
              refine ⟨G.here e3 M5 σ2 H5, e3, M5, r5'.here, ?_⟩
              rw [ho2']
              intro z M6 H6 r6 oz
              have r6' := r5'.back r6
              have v6 := v5.stay r5' r6 r6.base
              have oy' := oy.mono r6.base
              cases o with
              | sl j => cases o2 <;> cases hrun3
              | dt kd =>
                cases o2 with
                | sl j => cases hrun3
                | dt d =>
                  have hrun4 : (if dkOk dacc kd = true ∧ dacc.length < sizeLine then dcGo src vs tg t mk mv (src.items.drop (i + 1)) (dput dacc kd d) (wipeE vs e5) else .stuck) = .ok dsA e4 := hrun3
                  by_cases hkd : dkOk dacc kd = true ∧ dacc.length < sizeLine
                  · rw [if_pos hkd] at hrun4
                    obtain ⟨q, o6, eq, hp6, ro6, _⟩ := id v6
                    cases eq
                    refine ⟨M6, o6, dacc, kd, d, hp6, ro6, r6'.sub, oy', oz, hkd.1, hkd.2, fun o' ro' => ?_⟩
                    obtain ⟨r7, v7⟩ := r6'.upT v6 ro'
                    refine ⟨rfl, hlt, wipeE vs e5, M6, dput dacc kd d, ?_, ?_, (s13.trans r5.base).trans r6.base, hrun4⟩
                    · have := r7.wipe vs
                      rw [hw2] at this
                      exact this
                    · have := VR.wipe r7 v7 vs
                      rw [hw2] at this
                      exact this
                  · rw [if_neg hkd] at hrun4
                    cases hrun4
            | false =>
              have hrun' : dcGo src vs tg t mk mv (src.items.drop (i + 1)) dacc (wipeE vs e2) = .ok dsA e4 := hrun
              rw [if_neg Bool.false_ne_true]
              refine ⟨rfl, hlt, wipeE vs e2, M3, dacc, ?_, ?_, s13, hrun'⟩
              · have := r3'.wipe vs
                rw [hw2] at this
                exact this
              · have := VR.wipe r3' v3 vs
                rw [hw2] at this
                exact this
        · cases hrun
      · refine .inl ?_
        have ei : i = src.items.length := by omega
        subst ei
        rw [List.drop_length] at hrun
        unfold dcGo at hrun
        split at hrun
        · rename_i hok
          cases hrun
          refine ⟨jok.stop M Hi (stands hok) ri.sub, ?_⟩
          have rr := Rel.restore r1 vs hhid ri sM ⟨wipe_length σ vs, fun j hj => by rw [wipe_get, if_neg hj]⟩
          exact h1 (.ref D) M Hi rr (restore_vr r1 hhid vi)
        · cases hrun
  · rw [if_neg hc] at h1
    exact h1.elim
section
variable {X : Cx} {cl : Str → Option Addr} {W : WX} {pos : Pos}
theorem ve_dcomp (hu : X.A.units + 65 < cLine) {kx vx tgt iter : Expr} {ifs : List Expr} {scope : Scope} {own : List (Str × Nat)} {tg : Tg} {s : Sx Src} {t : Sx Bool} {mk mv : Sx Opd} {tt : TT} (htt : ∀ σ H Q, tT (gl X cl) W0 t σ H Q → tt σ H Q) (hc : X.calm = true) (hN : X.N.Nodup) (hi : PI X tgt iter (tI (gl X cl) W s)) (ok : BlkOk X.N X.env.scope scope own)
    (hg : ∀ (s : Shared) (H : Hp) (C : Addr) (cl : List (Str × Addr)) (fp : List Addr), PG (X.blk s H scope (compEnvC scope cl C X.env) fp) tgt (gTg X.K tg)) (ht : ∀ (s : Shared) (H : Hp) (C : Addr) (cl : List (Str × Addr)) (fp : List Addr), PTs (X.blk s H scope (compEnvC scope cl C X.env) fp) ifs tt)
    (hk : ∀ (s : Shared) (H : Hp) (C : Addr) (cl' : List (Str × Addr)) (fp : List Addr), PE (X.blk s H scope (compEnvC scope cl' C X.env) fp) kx (tO (gl X cl) W0 mk))
    (he : ∀ (s : Shared) (H : Hp) (C : Addr) (cl' : List (Str × Addr)) (fp : List Addr), PE (X.blk s H scope (compEnvC scope cl' C X.env) fp) vx (tO (gl X cl) W0 mv)) (hs : ∀ x, foldedSetIterable iter X.env x = pure x) :
    PE X (.DictComp kx vx [⟨tgt, iter, ifs, 0⟩] scope pos) (tE (gl X cl) W (sDComp (own.map (·.2)) tg s t mk mv)) :=
  PE_imp (pe_dcG (cl := cl) hu hc hN hi ok hg ht hk he hs) fun σ H Q h => dcomp_read htt h
/-- {} -/
def sDic0 : Sx Vl := fun e => .ok (nw (.dic [])) e
theorem ve_dic0 : PE X (.Dict [] [] pos) (tE (gl X cl) W sDic0) := PE_imp pe_dnewK fun σ H Q ⟨G, e, M, r, h⟩ => fun p hp => by
  obtain ⟨q1, q2⟩ := r.px (v := nw (.dic [])) (.new r.sub hp) ⟨p, _, rfl, hp, upd_same, .dik .nil⟩ (fun _ q e => by cases e; exact r.sub.none hp)
  exact h _ _ _ q1 q2
end
end Ev
set_option Elab.async false
set_option linter.all false
set_option autoImplicit false
set_option maxRecDepth 100000
/-! Displays of dicts with one pair; isinstance. -/
namespace Ev
open PySem L2 PySem.Spec PyProof.Rows
def sDic1 (flat : Bool) (mk mv : Sx Opd) : Sx Vl := fun e => (mk e).bind fun o e => (mv e).bind fun o2 e => match o, o2 with
  | .dt kd, .dt d => if dkOk [] kd = true ∧ kd.isTup = !flat then .ok (nw (.dic [(kd, d)])) e else .stuck
  | _, _ => .stuck
theorem Rel.stayO {g : Gl0} {G : Gh} {e e' : En} {M M' H H' : Hp} {σ σ' : L2.St} {p : Addr} {d : D} {o : HO} (r : Rel g G e M σ H) (h : VR g G e M σ H (.ref p) (nw d)) (hp : H p = some o) (r' : Rel g (G.here e M σ H) e' M' σ' H') : H' p = some o := by
  obtain ⟨q, o', e1, hp', ro, mp, h0, nb, nr, ne⟩ := h
  cases e1
  refine r'.keep p o hp fun y => ?_
  rcases r.hereB.mp y with y | ⟨j, y⟩
  · exact nb y
  · exact ne j y
section
variable {X : Cx} {cl : Str → Option Addr} {W : WX} {pos : Pos} {k v : Expr} {mk mv : Sx Opd}
/-- while the pair is evaluated -/
theorem dic1_read {flat : Bool} {σ : L2.St} {H : Hp} {Q : VK} (h : tE (gl X cl) W (sDic1 flat mk mv) σ H Q) (p : Addr) (hp : H p = none) :
    tO (gl X cl) W mk σ (upd H p (.dK [])) fun x H1 => tO (gl X cl) W mv σ H1 fun y H2 => ∃ M kd d, H2 p = some (.dK []) ∧ Sub M H2 ∧ Rep (gl X cl) M x kd ∧ Rep (gl X cl) M y d ∧ dkOk [] kd = true ∧ kd.isTup = !flat ∧
      ∀ o', RepO (gl X cl) M p o' (.dic [(kd, d)]) → Q (.ref p) (upd H2 p o') := by
  obtain ⟨G, e, M, r, h⟩ := h
  have w : Ext M H M (upd H p (.dK [])) := .new r.sub hp
  have r0 := r.ext w
  obtain ⟨_, v0⟩ := r.px (v := nw (.dic [])) w ⟨p, _, rfl, hp, upd_same, .dik .nil⟩ (fun _ q e => by cases e; exact r.sub.none hp)
  unfold sDic1 at h
  refine tG_bind r0 h fun o e1 x M1 H1 _ r1 x1 h1 => ?_
  have p1 := r0.stayO v0 upd_same r1
  have v1 := v0.stay r0 r1 r1.base
  have r1' := r0.back r1
  refine tG_bind r1' h1 fun o2 e2 y M2 H2 _ r2 y2 h2 => ?_
  have p2 := r1'.stayO v1 p1 r2
  have v2 := v1.stay r1' r2 r2.base
  have r2' := r1'.back r2
  have x2 := x1.mono r2.base
  cases o with
  | sl i => cases o2 <;> exact h2.elim
  | dt kd =>
    cases o2 with
    | sl i => exact h2.elim
    | dt d =>
      have h3 : tPost (gl X cl) W (VR (gl X cl)) G σ Q (if dkOk [] kd = true ∧ kd.isTup = !flat then .ok (nw (.dic [(kd, d)])) e2 else .stuck) := h2
      by_cases hc : dkOk [] kd = true ∧ kd.isTup = !flat
      · rw [if_pos hc] at h3
        refine ⟨M2, kd, d, p2, r2'.sub, x2, y2, hc.1, hc.2, fun o' ro' => ?_⟩
        obtain ⟨r3, v3⟩ := r2'.upT v2 ro'
        exact h3 _ _ _ r3 v3
      · rw [if_neg hc] at h3; exact h3.elim
theorem ve_dic1K (hk : PE X k (tO (gl X cl) W mk)) (hv : PE X v (tO (gl X cl) W mv)) : PE X (.Dict [some k] [v] pos) (tE (gl X cl) W (sDic1 true mk mv)) :=
  PE_imp (pe_disp (pps_cons hk hv pps_nil) rfl rfl (by simp) (show (1 : Nat) ≤ 15 by decide)) fun σ H Q h => fun p hp => by
    obtain ⟨G, e, M, r, q⟩ := dic1_read h p hp
    refine ⟨G, e, M, r, ?_⟩
    cases qk : mk e with
    | stuck => rw [qk] at q; exact q
    | exc x e1 => rw [qk] at q; exact q
    | ok o e1 =>
      rw [qk] at q
      intro x M1 H1 r1 x1
      obtain ⟨G2, e2, M2, r2, q2⟩ := q x M1 H1 r1 x1
      refine ⟨G2, e2, M2, r2, ?_⟩
      cases qv : mv e2 with
      | stuck => rw [qv] at q2; exact q2
      | exc x e1 => rw [qv] at q2; exact q2
      | ok o2 e3 =>
        rw [qv] at q2
        intro y M3 H3 r3 y3
        obtain ⟨M4, kd, d, hp4, sm, rk, rd, hok, hfl, fin⟩ := q2 y M3 H3 r3 y3
        rcases dk_cases hok with ⟨k', rfl, _⟩ | ⟨l, k', rfl, _⟩
        · obtain ⟨rfl, rk'⟩ := prep_kD (H := H3) (.inl rk)
          exact ⟨hp4, [(k', y)], rfl, (show (1 : Nat) ≤ 15 by decide), fin (.dK [(k', y)]) (.dik (.cons rk' rd .nil))⟩
        · cases hfl
theorem ve_dic1T (hu : X.A.units + 65 < cLine) (hk : PE X k (tO (gl X cl) W mk)) (hv : PE X v (tO (gl X cl) W mv)) : PE X (.Dict [some k] [v] pos) (tE (gl X cl) W (sDic1 false mk mv)) := by
  refine ⟨fun pins s σ H Q I h => ?_⟩
  have hn := I.hok.fresh (Nat.le_refl s.heap.objs.size)
  have I1 := I.laid (a := s.heap.objs.size) (o := .dK []) (h' := s.heap.push { cls := .type "dict", data := .dict #[] }) (t' := s.toks) (fun _ _ q => Heap.get?_push_of_some _ q) (Nat.le_refl _) (dk_empty s.heap I.big)
  have q := dic1_read h _ hn
  rw [arm_eval_Dict, zip_pairTrees [some k] [v] X.env pos rfl rfl, dictDisplay_pairs (pairTrees [some k] [v] X.env pos) (by intro z; cases z) (by show 1 < _; decide)]
  refine wpAny_bind (wpAny_standAt (wpAny_bind (wpAny_subDictH (knd := nestedKind X.prog X.w) (Q := fun d s' => wpAny (model X.prog X.w) X.A (pure (Value.ref d)) (EP X pins σ Q) X.xe s') (by show X.A.units + 8 < cLine; omega) (by show 1 ≤ 15; decide) ?_)))
  refine pairTrees_cons_walk (thn (hk.run pins _ σ _ _ I1 q) fun u s1 ⟨x, H1, I2, rx, q1⟩ => thn (hv.run pins s1 σ H1 _ I2 q1) fun z s2 ⟨y, H2, I3, ry, q2⟩ => pairTrees_nil_walk ?_)
  obtain ⟨M, kd, d, hp, sm, rk, rd, hok, hfl, fin⟩ := q2
  rcases dk_cases hok with ⟨k', rfl, _⟩ | ⟨l, k', rfl, hk1, hz, _⟩
  · cases k' <;> cases hfl
  · obtain ⟨b, vs, rfl, _, _, hr, _⟩ := PRep.tup (H := H2) sm (.inl rk)
    obtain rfl : u = Value.ref b := rx
    obtain ⟨ha, _, xs, ys, g1, g2, g3⟩ := view_T (cl := cl) (ds := []) I3 sm hp (.dik .nil) rfl
    cases g1
    cases g2
    refine ⟨[(k', b, z)], ⟨rfl, rfl, ⟨nested_is I3 sm hr hk1 rfl, hz⟩, trivial⟩, g3, fun h' tk dd hs => wpAny_pure ?_⟩
    have dd' : h'.DictOfH (nestedKind X.prog X.w) s.heap.objs.size [(k', b, z)] := dd
    exact ⟨.ref s.heap.objs.size, _, d_write I3 (by rw [hp]; exact True.intro) hs (let ⟨q, _, _, hq, _⟩ := dd'; ⟨q, hq⟩) (dit_new (xs := [(k', b, y)]) (show (1 : Nat) ≤ sizeLine by decide) ha (.cons ⟨rfl, rfl, ry⟩ .nil) dd'), rfl, fin _ (.dit (.cons hk1 hz rk rd .nil))⟩
/-! ### isinstance -/
def D.tyn : D → Option String
  | .non => some "NoneType"
  | .bl _ => some "bool"
  | .int _ => some "int"
  | .str _ => some "str"
  | .tup _ => some "tuple"
  | .lst _ => some "list"
  | _ => none
def pIsi (f : String → Option Bool) : List D → Option Vl
  | [d] => (d.tyn.bind f).map fun b => fz (.bl b)
  | _ => none
def pIsiO (c : Str) : List D → Option Vl
  | [.obj c' _] => if c' = c then some (fz (.bl true)) else none
  | _ => none
theorem tyn_of {M H : Hp} {x : V} {d : D} {t : String} (sm : Sub M H) (h : PRep (gl X cl) M H x d) (e : d.tyn = some t) : TyX X.K H x (.type t) := by
  cases d with
  | non => cases e; rw [h.non]; exact .base .non
  | bl b => cases e; rw [h.bl]; exact .base (.bl b)
  | int i => cases e; rw [h.int]; exact .base (.int i)
  | str z => cases e; rw [h.str.1]; exact .base (.str z)
  | lst l =>
    cases e
    obtain ⟨a, vs, rfl, hs, _⟩ := h.lst sm
    exact .base (.lst hs)
  | tup l =>
    cases e
    obtain ⟨a, vs, rfl, hs, _⟩ := h.tup sm
    rcases hs with (hs | ⟨o, hs⟩) | hs
    · exact .base (.tup hs)
    · exact .fTuple hs
    · obtain ⟨o, its, n, h1, h2, _⟩ := hs
      exact .kTuple h1 h2
  | dic l => cases e
  | obj c fs => cases e
  | scr l => cases e
theorem pa_two {a b : Expr} {ta tb : TE} (ha : PE X a ta) (hb : PE X b tb) (hs : starEach [a, b] X.env = (false, eval a X.env) :: starEach [b] X.env) (hs2 : starEach [b] X.env = (false, eval b X.env) :: starEach [] X.env) : PA X [a, b] (tCons ta (tCons tb tNil)) := pa_cons ha (pa_cons hb pa_nil hs2) hs
theorem ve_isi {x : Str} {u : Str} {T : String} {pp p2 : Pos} {e : Expr} {m : Sx Opd} {f : String → Option Bool} (hf : ∀ t b, f t = some b → kitB t T = some b) (he : PE X e (tO (gl X cl) W m)) (hg : Gl X x) (hm : X.mg x = none) (hv : bootBuiltins x = some (.builtin "isinstance")) (hn : x ≠ "__name__") (hdb : (x == ("__debug__" : Str)) = false)
    (hg2 : Gl X u) (hm2 : X.mg u = none) (hv2 : bootBuiltins u = some (.type T)) (hn2 : u ≠ "__name__") (hdb2 : (u == ("__debug__" : Str)) = false)
    (hs : starEach [e, .Name u p2] X.env = (false, eval e X.env) :: starEach [.Name u p2] X.env) (hs2 : starEach [.Name u p2] X.env = (false, eval (.Name u p2) X.env) :: starEach [] X.env) (hpl : (backTo pos (starEach [.Name u p2] X.env)).any (·.1) = false) :
    PE X (.Call (.Name x pp) [e, .Name u p2] [] pos) (tE (gl X cl) W (sPrim (pIsi f) [m])) :=
  PE_imp (pe_callB call_isi hg hm hv (pa_two he (pe_bltn (v := .ty T) hg2 hm2 hv2 rfl hn2 hdb2) hs hs2) hn hdb hs hpl) fun σ H Q ⟨G, e, M, r, h⟩ => by
    obtain ⟨G', e', M', r', h'⟩ := one_op r h
    refine ⟨G', e', M', r', ?_⟩
    cases q : m e' with
    | stuck => rw [q] at h'; exact h'
    | exc x e1 => rw [q] at h'; exact h'
    | ok o e1 =>
      rw [q] at h'
      intro x M1 H1 r1 x1
      obtain ⟨M2, ds, v, sm, pr, hp, k⟩ := h' x M1 H1 r1 x1
      unfold pIsi at hp
      split at hp
      · obtain ⟨b, hb, rfl⟩ := Option.map_eq_some_iff.mp hp
        obtain ⟨t, ht, hft⟩ := Option.bind_eq_some_iff.mp hb
        obtain ⟨y, e, q⟩ := preps1 pr
        cases e
        exact ⟨_, .ty T, .type t, .type T, b, rfl, .ty T, tyn_of sm q ht, kit_ty (hf t b hft), rPs.fz k sm (.bl _)⟩
      · cases hp
theorem ve_isiO {x : Str} {u : Str} {C : Addr} {c : Str} {pp p2 : Pos} {e : Expr} {m : Sx Opd} (hC : cl c = some C) (hTy : ∀ (H : Hp) (a dx : Addr) (fs : List (Str × V)), H a = some (.ins C dx fs) → TyX X.K H (.ref a) (.ref C)) (hkit : PySem.W.kitOne X.K (.ref C) (.ref C) = some true)
    (he : PE X e (tO (gl X cl) W m)) (hg : Gl X x) (hm : X.mg x = none) (hv : bootBuiltins x = some (.builtin "isinstance")) (hn : x ≠ "__name__") (hdb : (x == ("__debug__" : Str)) = false)
    (hg2 : Gl X u) (hm2 : X.mg u = some (.ref C)) (hdb2 : (u == ("__debug__" : Str)) = false)
    (hs : starEach [e, .Name u p2] X.env = (false, eval e X.env) :: starEach [.Name u p2] X.env) (hs2 : starEach [.Name u p2] X.env = (false, eval (.Name u p2) X.env) :: starEach [] X.env) (hpl : (backTo pos (starEach [.Name u p2] X.env)).any (·.1) = false) :
    PE X (.Call (.Name x pp) [e, .Name u p2] [] pos) (tE (gl X cl) W (sPrim (pIsiO c) [m])) :=
  PE_imp (pe_callB call_isi hg hm hv (pa_two he (pe_glob (v := .ref C) hg2 hm2 rfl hdb2) hs hs2) hn hdb hs hpl) fun σ H Q ⟨G, e, M, r, h⟩ => by
    obtain ⟨G', e', M', r', h'⟩ := one_op r h
    refine ⟨G', e', M', r', ?_⟩
    cases q : m e' with
    | stuck => rw [q] at h'; exact h'
    | exc x e1 => rw [q] at h'; exact h'
    | ok o e1 =>
      rw [q] at h'
      intro x M1 H1 r1 x1
      obtain ⟨M2, ds, v, sm, pr, hp, k⟩ := h' x M1 H1 r1 x1
      unfold pIsiO at hp
      split at hp
      · split at hp
        · rename_i hcc
          cases hp
          subst hcc
          obtain ⟨y, e, q⟩ := preps1 pr
          cases e
          obtain ⟨a, C', dx, fs, rfl, ha, hc', _⟩ := q.obj sm
          have hc2 : cl _ = some C' := hc'
          rw [hC] at hc2
          cases hc2
          exact ⟨_, .ref C, .ref C, .ref C, true, rfl, .own C, hTy H1 a dx fs ha, hkit, rPs.fz k sm (.bl _)⟩
        · cases hp
      · cases hp
end
end Ev
set_option Elab.async false
set_option linter.all false
set_option autoImplicit false
set_option maxRecDepth 100000
/-! A def as a function of data. -/
namespace Ev
open PySem L2 PySem.Spec PyProof.Rows
def startE (modes : List Bool) (ds : List D) (n : Nat) : En := List.zipWith (fun b d => if b = true then Slot.ro d else Slot.sh d) modes ds ++ List.replicate (n - ds.length) .unb
def startB (d0 : D) (ds : List D) (n : Nat) : En := .bx d0 :: (ds.map Slot.sh ++ List.replicate (n - (ds.length + 1)) .unb)
def runF (t : SS) (modes : List Bool) (n : Nat) : List D → Res Vl := fun ds => if ds.length = modes.length then (match t (startE modes ds n) with
  | .rt v _ => .ok v
  | .nx _ => .ok (fz .non)
  | _ => .stuck) else .stuck
def boxOf (v : Vl) (e : En) : ResB := match e[0]? with
  | some (Slot.bx d) => .ok v d
  | _ => .stuck
def runB (t : SS) (m n : Nat) : D → List D → ResB := fun d0 ds => if ds.length = m then (match t (startB d0 ds n) with
  | .rt v e => boxOf v e
  | .nx e => boxOf (fz .non) e
  | _ => .stuck) else .stuck
section
variable {g : Gl0} {M H : Hp}
theorem argR_len2 : ∀ {bs : List Bool} {vs : List V} {ds : List D}, ArgR g M H bs vs ds → ds.length = bs.length
  | _, _, _, .nil => rfl
  | _, _, _, .held _ t => congrArg (· + 1) (argR_len2 t)
  | _, _, _, .lent _ t => congrArg (· + 1) (argR_len2 t)
theorem startE_slot : ∀ {bs : List Bool} {vs : List V} {ds : List D} {n : Nat} {i : Nat} {s : Slot}, ArgR g M H bs vs ds → (startE bs ds n)[i]? = some s →
    s = .unb ∨ ∃ v d, vs[i]? = some v ∧ ((s = .sh d ∧ Rep g M v d) ∨ (s = .ro d ∧ PRep g M H v d))
  | _, _, _, n, i, s, .nil, h => by
    left
    have h' : (List.replicate (n - 0) Slot.unb)[i]? = some s := h
    obtain ⟨hl, e⟩ := List.getElem?_eq_some_iff.mp h'
    rw [List.getElem_replicate] at e
    exact e.symm
  | _, _, _, n, 0, s, .held (d := d) r t, h => by
    right
    cases h
    exact ⟨_, d, rfl, .inl ⟨rfl, r⟩⟩
  | _, _, _, n, 0, s, .lent (d := d) r t, h => by
    right
    cases h
    exact ⟨_, d, rfl, .inr ⟨rfl, r⟩⟩
  | _, _, _, n, i + 1, s, .held (bs := bs) (ds := ds) r t, h => by
    have h' : (startE bs ds (n - 1))[i]? = some s := by
      unfold startE
      unfold startE at h
      simpa [List.length_cons, Nat.sub_sub, Nat.add_comm] using h
    have q := startE_slot t h'
    simpa using q
  | _, _, _, n, i + 1, s, .lent (bs := bs) (ds := ds) r t, h => by
    have h' : (startE bs ds (n - 1))[i]? = some s := by
      unfold startE
      unfold startE at h
      simpa [List.length_cons, Nat.sub_sub, Nat.add_comm] using h
    have q := startE_slot t h'
    simpa using q
theorem startE_len {bs : List Bool} {vs : List V} {ds : List D} {N : List Str} (h : ArgR g M H bs vs ds) : (startE bs ds N.length).length = (L2.start N vs).length := by
  have h1 := argR_len h
  have h2 := argR_len2 h
  unfold startE L2.start
  simp [h1, h2]
theorem start_get {N : List Str} {vs : List V} {i : Nat} {v : V} (h : vs[i]? = some v) : (L2.start N vs)[i]? = some (some v) := by
  unfold L2.start
  have hl := (List.getElem?_eq_some_iff.mp h).1
  rw [List.getElem?_append_left (by simpa using hl), List.getElem?_map, h]
  rfl
theorem rel_start {modes : List Bool} {ds : List D} {vs : List V} {N : List Str} (sm : Sub M H) (ar : ArgR g M H modes vs ds) : Rel g ⟨H, M, none, fun _ => False, fun a => H a ≠ none⟩ (startE modes ds N.length) M (L2.start N vs) H where
  sub := sm
  keep := fun _ _ h _ => h
  live := fun _ h => h
  fresh := fun _ h => .inl h
  base := .refl
  slot := fun i s x h1 h2 => by
    rcases startE_slot ar h1 with rfl | ⟨v, d, hv, ⟨rfl, r⟩ | ⟨rfl, r⟩⟩
    · trivial
    · rw [start_get hv] at h2; cases h2
      exact ⟨v, rfl, r⟩
    · rw [start_get hv] at h2; cases h2
      refine ⟨v, rfl, ?_⟩
      rcases r with r | ⟨a, o, e, ha, ro⟩
      · exact .inl r
      · exact .inr ⟨a, o, e, ha, by show H a ≠ none; rw [ha]; exact Option.some_ne_none o, ro⟩
  len := startE_len ar
  dist := fun i j a hij ⟨s, h1, h2, _⟩ _ => by
    rcases startE_slot ar h1 with rfl | ⟨v, d, hv, ⟨rfl, r⟩ | ⟨rfl, r⟩⟩ <;> exact h2
  lent := fun a h => ⟨h, fun z => by rcases z with z | z; cases z; exact z, fun j ⟨s, h1, h2, _⟩ => by
    rcases startE_slot ar h1 with rfl | ⟨v, d, hv, ⟨rfl, r⟩ | ⟨rfl, r⟩⟩ <;> exact h2⟩
  bl := fun a h => by rcases h with h | h; cases h; exact h.elim
theorem nB {a : Addr} : ¬ (Gh.mk H M none (fun _ => False) (fun a => H a ≠ none)).B a := fun z => by rcases z with z | z; cases z; exact z
theorem pure_fn {t : SS} {modes : List Bool} {N : List Str} {vs : List V} {Q : VK} {E : XK} (h : spFn g modes (runF t modes N.length) vs H Q E) : tS g W0 t { nx := fun _ H' => Q .non H', rt := Q } (L2.start N vs) H := by
  obtain ⟨M, ds, sm, ar, hF⟩ := h
  refine ⟨_, _, M, rel_start sm ar, ?_⟩
  unfold runF at hF
  rw [if_pos (argR_len2 ar)] at hF
  have ext : ∀ {e M' σ' H'}, Rel g ⟨H, M, none, fun _ => False, fun a => H a ≠ none⟩ e M' σ' H' → Ext M H M' H' := fun {e M' σ' H'} r => ⟨fun a o e => r.keep a o e nB, r.base, r.sub, fun a ha => by
    rcases r.fresh a ha with z | z | z
    · exact .inl z
    · exact .inr z
    · exact z.elim⟩
  cases q : t (startE modes ds N.length) with
  | rt v e =>
    rw [q] at hF
    intro x σ' M' H' r' vr
    have hF' : Gives g M H v Q := hF
    refine hF' x M' H' (ext r') ?_ ?_
    · obtain ⟨d, b⟩ := v
      cases b with
      | false => exact vr
      | true =>
        obtain ⟨p, o, e1, hp, ro, mp, h0⟩ := vr
        refine ⟨p, o, e1, ?_, hp, ro⟩
        rcases h0 with h0 | h0
        · exact h0
        · exact h0.elim
    · obtain ⟨d, b⟩ := v
      cases b with
      | false => exact fun z => by cases z
      | true =>
        intro _ q0 eq
        obtain ⟨p, o, e1, hp, ro, mp, h0⟩ := vr
        rw [e1] at eq; cases eq
        exact mp
  | nx e =>
    rw [q] at hF
    intro σ' M' H' r'
    have hF' : Gives g M H (fz .non) Q := hF
    exact hF' .non M' H' (ext r') .non (fun z => by cases z)
  | bk e => rw [q] at hF; exact hF.elim
  | ct e => rw [q] at hF; exact hF.elim
  | exc x e => rw [q] at hF; exact hF.elim
  | stuck => rw [q] at hF; exact hF.elim
/-! a def that changes its first argument -/
theorem all_held : ∀ {m : Nat} {vs : List V} {ds : List D}, ArgR g M H (List.replicate m false) vs ds → Reps g M vs ds
  | 0, _, _, h => by cases h; exact .nil
  | m + 1, _, _, h => by
    rw [List.replicate_succ] at h
    cases h with
    | held r t => exact .cons r (all_held t)
theorem startB_slot {d0 : D} {ds : List D} {b : Addr} {us : List V} {n i : Nat} {s : Slot} (h : Reps g M us ds) (hs : (startB d0 ds n)[i]? = some s) : s = .unb ∨ (i = 0 ∧ s = .bx d0) ∨ ∃ v d, (V.ref b :: us)[i]? = some v ∧ s = .sh d ∧ Rep g M v d := by
  cases i with
  | zero => cases hs; exact .inr (.inl ⟨rfl, rfl⟩)
  | succ i =>
    have hs' : (ds.map Slot.sh ++ List.replicate (n - (ds.length + 1)) Slot.unb)[i]? = some s := hs
    by_cases hl : i < ds.length
    · right; right
      rw [List.getElem?_append_left (by simpa using hl), List.getElem?_map, List.getElem?_eq_getElem hl] at hs'
      cases hs'
      obtain ⟨v, hv, rv⟩ := h.get (List.getElem?_eq_getElem hl)
      exact ⟨v, _, hv, rfl, rv⟩
    · left
      rw [List.getElem?_append_right (by simpa using hl)] at hs'
      obtain ⟨hl2, e⟩ := List.getElem?_eq_some_iff.mp hs'
      rw [List.getElem_replicate] at e
      exact e.symm
theorem rel_startB {d0 : D} {ds : List D} {b : Addr} {o : HO} {us : List V} {N : List Str} (sm : Sub M H) (hb : H b = some o) (ro : RepO g M b o d0) (mb : M b = none) (hr : Reps g M us ds) :
    Rel g ⟨H, M, some b, fun _ => False, fun _ => False⟩ (startB d0 ds N.length) M (L2.start N (.ref b :: us)) H where
  sub := sm
  keep := fun _ _ h _ => h
  live := fun _ h => h
  fresh := fun _ h => .inl h
  base := .refl
  slot := fun i s x h1 h2 => by
    rcases startB_slot (b := b) hr h1 with rfl | ⟨rfl, rfl⟩ | ⟨v, d, hv, rfl, r⟩
    · trivial
    · have : (L2.start N (.ref b :: us))[0]? = some (some (.ref b)) := start_get rfl
      rw [this] at h2; cases h2
      exact ⟨b, o, rfl, hb, ro, mb, rfl⟩
    · rw [start_get hv] at h2; cases h2
      exact ⟨v, rfl, r⟩
  len := by
    unfold startB L2.start
    have := hr.length
    simp [this]
  dist := fun i j a hij ⟨s, h1, h2, _⟩ ⟨s', h1', h2', _⟩ => by
    rcases startB_slot (b := b) hr h1 with rfl | ⟨rfl, rfl⟩ | ⟨v, d, hv, rfl, r⟩
    · exact h2
    · rcases startB_slot (b := b) hr h1' with rfl | ⟨rfl, rfl⟩ | ⟨v, d, hv, rfl, r⟩
      · exact h2'
      · exact hij rfl
      · exact h2'
    · exact h2
  lent := fun a h => h.elim
  bl := fun a h => by
    rcases h with h | h
    · cases h; rw [hb]; exact Option.some_ne_none o
    · exact h.elim
theorem pure_bx {t : SS} {m : Nat} {N : List Str} {vs : List V} {Q : VK} {E : XK} (h : spBx g (List.replicate m false) (runB t m N.length) vs H Q E) : tS g W0 t { nx := fun _ H' => Q .non H', rt := Q } (L2.start N vs) H := by
  obtain ⟨b, o, d0, M, us, ds, rfl, hb, ro, mb, sm, ar, hF⟩ := h
  have hl : ds.length = m := by rw [argR_len2 ar, List.length_replicate]
  refine ⟨_, _, M, rel_startB (N := N) sm hb ro mb (all_held ar), ?_⟩
  unfold runB at hF
  rw [if_pos hl] at hF
  have ext : ∀ {e M' σ' H'}, Rel g ⟨H, M, some b, fun _ => False, fun _ => False⟩ e M' σ' H' → ExtB b M H M' H' := fun {e M' σ' H'} r => ⟨fun a o ne e => r.keep a o e (fun z => by rcases z with z | z; cases z; exact ne rfl; exact z), r.base, r.sub, fun a ha => by
    rcases r.fresh a ha with z | z | z
    · exact .inl z
    · exact .inr z
    · exact z.elim⟩
  have box : ∀ {e M' σ' H' d}, Rel g ⟨H, M, some b, fun _ => False, fun _ => False⟩ e M' σ' H' → e[0]? = some (.bx d) → ∃ o', H' b = some o' ∧ RepO g M' b o' d := fun {e M' σ' H' d} r he => by
    obtain ⟨x, _, a, o', _, ha, ro', _, e2⟩ := r.at he
    have : a = b := by
      have e3 : (some b : Option Addr) = some a := e2
      cases e3; rfl
    subst this
    exact ⟨o', ha, ro'⟩
  cases q : t (startB d0 ds N.length) with
  | rt v e =>
    rw [q] at hF
    intro x σ' M' H' r' vr
    have hF' : (match boxOf v e with
      | .ok v d1 => ∀ z M' H' o', ExtB b M H M' H' → H' b = some o' → RepO g M' b o' d1 → PX g M H M' H' z v → (v.nw = true → ∀ q, z = .ref q → M' q = none) → Q z H'
      | .exc x => ∀ c d M' H', ExtB b M H M' H' → ExR g M' c d x → E c d H'
      | .stuck => False) := hF
    unfold boxOf at hF'
    cases he : e[0]? with
    | none => rw [he] at hF'; exact hF'.elim
    | some s =>
      rw [he] at hF'
      cases s with
      | bx d =>
        obtain ⟨o', hb', ro'⟩ := box r' he
        refine hF' x M' H' o' (ext r') hb' ro' ?_ ?_
        · obtain ⟨d, bb⟩ := v
          cases bb with
          | false => exact vr
          | true =>
            obtain ⟨p, o, e1, hp, ro, mp, h0⟩ := vr
            refine ⟨p, o, e1, ?_, hp, ro⟩
            rcases h0 with h0 | h0
            · exact h0
            · exact h0.elim
        · obtain ⟨d, bb⟩ := v
          cases bb with
          | false => exact fun z => by cases z
          | true =>
            intro _ q0 eq
            obtain ⟨p, o, e1, hp, ro, mp, h0⟩ := vr
            rw [e1] at eq; cases eq
            exact mp
      | _ => exact hF'.elim
  | nx e =>
    rw [q] at hF
    intro σ' M' H' r'
    have hF' : (match boxOf (fz .non) e with
      | .ok v d1 => ∀ z M' H' o', ExtB b M H M' H' → H' b = some o' → RepO g M' b o' d1 → PX g M H M' H' z v → (v.nw = true → ∀ q, z = .ref q → M' q = none) → Q z H'
      | .exc x => ∀ c d M' H', ExtB b M H M' H' → ExR g M' c d x → E c d H'
      | .stuck => False) := hF
    unfold boxOf at hF'
    cases he : e[0]? with
    | none => rw [he] at hF'; exact hF'.elim
    | some s =>
      rw [he] at hF'
      cases s with
      | bx d =>
        obtain ⟨o', hb', ro'⟩ := box r' he
        exact hF' .non M' H' o' (ext r') hb' ro' .non (fun z => by cases z)
      | _ => exact hF'.elim
  | bk e => rw [q] at hF; exact hF.elim
  | ct e => rw [q] at hF; exact hF.elim
  | exc x e => rw [q] at hF; exact hF.elim
  | stuck => rw [q] at hF; exact hF.elim
end
end Ev
set_option Elab.async false
set_option linter.all false
set_option autoImplicit false
set_option maxRecDepth 100000
/-! The rules, with what is to be seen of the text looked at at once. -/
namespace Ev
open PySem L2 PySem.Spec PyProof.Rows
abbrev VE (X : Cx) (cl : Str → Option Addr) (W : WX) (e : Expr) (m : Sx Vl) : Prop := PE X e (tE (gl X cl) W m)
abbrev VO (X : Cx) (cl : Str → Option Addr) (W : WX) (e : Expr) (m : Sx Opd) : Prop := PE X e (tO (gl X cl) W m)
abbrev VT (X : Cx) (cl : Str → Option Addr) (W : WX) (e : Expr) (m : Sx Bool) : Prop := PT X e (tT (gl X cl) W m)
abbrev VW (X : Cx) (cl : Str → Option Addr) (W : WX) (e : Expr) (m : Sx Bool) : Prop := PW X e (tT (gl X cl) W m)
abbrev VA (X : Cx) (cl : Str → Option Addr) (W : WX) (e : List Expr) (m : List (Sx Opd)) : Prop := PA X e (tAs (gl X cl) W (sOps m))
abbrev VI (X : Cx) (cl : Str → Option Addr) (W : WX) (tg e : Expr) (m : Sx Src) : Prop := PI X tg e (tI (gl X cl) W m)
abbrev VS (X : Cx) (cl : Str → Option Addr) (W : WX) (s : Stmt) (m : SS) : Prop := PS X s (tS (gl X cl) W m)
abbrev VSs (X : Cx) (cl : Str → Option Addr) (W : WX) (s : List Stmt) (m : SS) : Prop := PSs X s (tS (gl X cl) W m)
/-! ### what is seen -/
def visB (sc : Scope) (x : Str) : Bool := match sc.names.lookup x with
  | some .local => true
  | some .cell => true
  | some .free => true
  | _ => false
def locB (sc : Scope) (x : Str) : Bool := match sc.names.lookup x with
  | some .local => true
  | some .cell => true
  | _ => false
theorem visB_vis {sc : Scope} {x : Str} (h : visB sc x = true) : Vis sc x := by
  unfold visB at h
  unfold Vis
  split at h <;> simp_all
theorem locB_loc {sc : Scope} {x : Str} (h : locB sc x = true) : Loc sc x := by
  unfold locB at h
  unfold L2.Loc
  split at h <;> simp_all
def nmB (X : Cx) (i : Nat) (x : Str) : Bool := decide (X.N[i]? = some x) && visB X.env.scope x && !(x == ("__debug__" : Str)) && !(x == ("__classdict__" : Str))
def glB (X : Cx) (x : Str) : Bool := decide (X.env.kindOf x = some .globalImplicit) && !(x == ("__debug__" : Str))
def tgB (X : Cx) (i : Nat) (x : Str) : Bool := decide (X.N[i]? = some x) && locB X.env.scope x && (X.fn x || decide (X.env.scope.names.lookup x = some .local))
/-- a name of the boot's -/
def btB (X : Cx) (x : Str) (v : Value → Bool) : Bool := glB X x && !decide (x = ("__name__" : Str)) && (match bootBuiltins x with | some u => v u | none => false)
section
variable {X : Cx} {cl : Str → Option Addr} {W : WX} {pos pos2 : Pos} {x : Str} {i : Nat}
theorem nmB_of (h : nmB X i x = true) : X.N[i]? = some x ∧ Vis X.env.scope x ∧ (x == ("__debug__" : Str)) = false ∧ (x == ("__classdict__" : Str)) = false := by
  unfold nmB at h
  simp only [Bool.and_eq_true, Bool.not_eq_true', decide_eq_true_eq] at h
  exact ⟨h.1.1.1, visB_vis h.1.1.2, h.1.2, h.2⟩
theorem glB_of (h : glB X x = true) : Gl X x ∧ (x == ("__debug__" : Str)) = false := by
  unfold glB at h
  simp only [Bool.and_eq_true, Bool.not_eq_true', decide_eq_true_eq] at h
  exact h
theorem tgB_of (h : tgB X i x = true) : X.N[i]? = some x ∧ Loc X.env.scope x ∧ (X.fn x = true ∨ X.env.scope.names.lookup x = some .local) := by
  unfold tgB at h
  simp only [Bool.and_eq_true, Bool.or_eq_true, decide_eq_true_eq] at h
  exact ⟨h.1.1, locB_loc h.1.2, h.2⟩
theorem kN (i : Nat) (h : nmB X i x = true := by kernel_rfl) : VE X cl W (.Name x pos) (sName i) := let ⟨a, b, c, d⟩ := nmB_of h; ve_name a b c d
theorem kO (i : Nat) (h : nmB X i x = true := by kernel_rfl) : VO X cl W (.Name x pos) (oName i) := let ⟨a, b, c, d⟩ := nmB_of h; vo_name a b c d
theorem kV {e : Expr} {m : Sx Vl} (h : VE X cl W e m) : VO X cl W e (oVal m) := vo_val h
theorem kNever {e : Expr} : VE X cl W e sStuck := PE_never
theorem const_ve {e : Expr} {v : V} {d : D} (h : PE X e (tC v)) (r : ∀ M : Hp, Rep (gl X cl) M v d) : VE X cl W e (sC d) := PE_imp h fun σ H Q ⟨G, e, M, rl, h⟩ => h v M H rl (r M)
theorem kInt {n : Int} {j : Nat} : VE X cl W (.Constant (.int n) j pos) (sC (.int n)) := const_ve pe_int fun _ => .int n
theorem kBool {b : Bool} {j : Nat} : VE X cl W (.Constant (.bool b) j pos) (sC (.bl b)) := const_ve pe_bl fun _ => .bl b
theorem kNone {j : Nat} : VE X cl W (.Constant .none j pos) (sC .non) := const_ve pe_non fun _ => .non
def strB (x : Str) : Bool := PyData.strOk x && decide (x.length ≤ 1000000)
theorem strB_of (h : strB x = true) : PyData.strOk x = true ∧ x.length ≤ sizeLine := by
  unfold strB at h
  simp only [Bool.and_eq_true, decide_eq_true_eq] at h
  refine ⟨h.1, ?_⟩
  rw [sizeLine_eq]
  omega
theorem kStr {j : Nat} (h : strB x = true := by kernel_rfl) : VE X cl W (.Constant (.str x) j pos) (sC (.str x)) := const_ve pe_str fun _ => .str x (strB_of h)
/-- a global constant of the text -/
theorem kGInt {n : Int} {t : Tok} (hm : X.mg x = some (.int n t)) (h : glB X x = true := by kernel_rfl) : VE X cl W (.Name x pos) (sC (.int n)) := let ⟨a, b⟩ := glB_of h; const_ve (pe_glob (v := .int n) a hm ⟨t, rfl⟩ b) fun _ => .int n
theorem kGStr {z : Str} {t : Tok} (hm : X.mg x = some (.str z t)) (hz : strB z = true) (h : glB X x = true := by kernel_rfl) : VE X cl W (.Name x pos) (sC (.str z)) := let ⟨a, b⟩ := glB_of h; const_ve (pe_glob (v := .str z) a hm ⟨t, rfl⟩ b) fun _ => .str z (strB_of hz)
/-! ### operands -/
theorem kNil : VA X cl W [] [] := va_nil
theorem kCons {e : Expr} {es : List Expr} {m : Sx Opd} {ms : List (Sx Opd)} (h : VO X cl W e m) (hs : VA X cl W es ms) (hst : starEach (e :: es) X.env = (false, eval e X.env) :: starEach es X.env := by rfl) : VA X cl W (e :: es) (m :: ms) := va_cons h hs hst
/-! ### operators -/
noncomputable def pInA := orP pIn pDIn
noncomputable def pNotInA := orP pNotIn pDNotIn
noncomputable def pIxA := orP pIx pDIx
def pLenA := orP pLen pDLen
noncomputable def pSortedA := orP pSorted pDSorted
section
variable {a b c : Expr} {ma mb mc : Sx Opd}
theorem kAdd (ha : VO X cl W a ma) (hb : VO X cl W b mb) : VE X cl W (.BinOp a .Add b pos) (sPrim pAdd [ma, mb]) := ve_op op_addP ha hb
theorem kSub (ha : VO X cl W a ma) (hb : VO X cl W b mb) : VE X cl W (.BinOp a .Sub b pos) (sPrim pSub [ma, mb]) := ve_op op_subP ha hb
theorem kMul (ha : VO X cl W a ma) (hb : VO X cl W b mb) : VE X cl W (.BinOp a .Mult b pos) (sPrim pMul [ma, mb]) := ve_op op_mulP ha hb
theorem kFdiv (ha : VO X cl W a ma) (hb : VO X cl W b mb) : VE X cl W (.BinOp a .FloorDiv b pos) (sPrim pFdiv [ma, mb]) := ve_op op_fdivP ha hb
theorem kMod (ha : VO X cl W a ma) (hb : VO X cl W b mb) : VE X cl W (.BinOp a .Mod b pos) (sPrim pMod [ma, mb]) := ve_op op_modP ha hb
theorem kPow (ha : VO X cl W a ma) (hb : VO X cl W b mb) : VE X cl W (.BinOp a .Pow b pos) (sPrim pPow [ma, mb]) := ve_op op_powP ha hb
theorem kNeg (ha : VO X cl W a ma) : VE X cl W (.UnaryOp .USub a pos) (sPrim pNeg1 [ma]) := ve_neg ha
/-- what stands for a comparison -/
structure CmpS (X : Cx) (cl : Str → Option Addr) (op : CmpOp) (p : List D → Option Vl) : Prop where
  r : OpR X (compareOp op) (rP2 (gl X cl) p)
theorem cLt : CmpS X cl .Lt pLt := ⟨op_ltP⟩
theorem cLe : CmpS X cl .LtE pLe := ⟨op_leP⟩
theorem cGt : CmpS X cl .Gt pGt := ⟨op_gtP⟩
theorem cGe : CmpS X cl .GtE pGe := ⟨op_geP⟩
theorem cEq (hu : X.A.units + 65 < cLine) : CmpS X cl .Eq pEq := ⟨op_eqP (by omega)⟩
theorem cNe (hu : X.A.units + 65 < cLine) : CmpS X cl .NotEq pNe := ⟨op_neP (by omega)⟩
theorem cIn (hu : X.A.units + 65 < cLine) : CmpS X cl .In pInA := ⟨opP_or (op_inP hu) (op_dinP hu)⟩
theorem cNotIn (hu : X.A.units + 65 < cLine) : CmpS X cl .NotIn pNotInA := ⟨opP_or (op_notInP hu) (op_dnotInP hu)⟩
theorem cIs : CmpS X cl .Is pIs := ⟨op_isP⟩
theorem cIsNot : CmpS X cl .IsNot pIsNot := ⟨op_isNotP⟩
variable {op op' : CmpOp} {p q : List D → Option Vl}
theorem kCmp (ho : CmpS X cl op p) (ha : VO X cl W a ma) (hb : VO X cl W b mb) (hm : behindInMarks op b = false := by first | with_unfolding_all rfl | exact nomark _) : VE X cl W (.Compare a [op] [b] pos) (sPrim p [ma, mb]) := ve_cmp ho.r ha hb hm
theorem tCmp (ho : CmpS X cl op p) (ha : VO X cl W a ma) (hb : VO X cl W b mb) (hm : behindInMarks op b = false := by first | with_unfolding_all rfl | exact nomark _) : VT X cl W (.Compare a [op] [b] pos) (tBool (sPrim p [ma, mb])) := vt_cmp ho.r ha hb hm
theorem kChain (ho : CmpS X cl op p) (ho' : CmpS X cl op' q) (ha : VO X cl W a ma) (hb : VO X cl W b mb) (hc : VO X cl W c mc) (hm : lastMarks [op, op'] [b, c] = false := by with_unfolding_all rfl) : VE X cl W (.Compare a [op, op'] [b, c] pos) (sChain p q ma mb mc) := ve_chain ho.r ho'.r ha hb hc hm
theorem tChain1 (ho : CmpS X cl op p) (ho' : CmpS X cl op' q) (ha : VO X cl W a ma) (hb : VO X cl W b mb) (hc : VO X cl W c mc) (hm : lastMarks [op, op'] [b, c] = false := by with_unfolding_all rfl) : VT X cl W (.Compare a [op, op'] [b, c] pos) (tBool (sChain p q ma mb mc)) := vt_chain ho.r ho'.r ha hb hc hm
theorem kIx (hu : X.A.units + 65 < cLine) (ha : VO X cl W a ma) (hb : VO X cl W b mb) (hs : PlainIx b := by intro _ _; rfl) : VE X cl W (.Subscript a b pos) (sPrim pIxA [ma, mb]) := ve_ix (ixP_or ix_P (ix_dicP hu)) ha hb hs
/-! ### tests -/
theorem tNot1 {t : Sx Bool} (hc : VT X cl W c t) : VT X cl W (.UnaryOp .Not c pos) (tNot t) := vt_not hc
theorem tTru (hc : VO X cl W c mc) (he : ∀ whole, isTrue c X.env whole = (do let v ← whole; standAt c.pos; holding [v] (truthy v)) := by intro _; rfl) : VT X cl W c (tVal mc) := vt_truth hc he
theorem wAnd1 {t : Sx Bool} (h : VT X cl W c t) : VW X cl W (.BoolOp .And [c] pos) t := vw_and1 h
theorem wOr1 {t : Sx Bool} (h : VT X cl W c t) : VW X cl W (.BoolOp .Or [c] pos) t := vw_or1 h
theorem wAnd {d : Expr} {rest : List Expr} {t u : Sx Bool} (h : VT X cl W c t) (h' : VW X cl W (.BoolOp .And (d :: rest) pos) u) : VW X cl W (.BoolOp .And (c :: d :: rest) pos) (Ev.tAnd t u) := vw_and h h'
theorem wOr {d : Expr} {rest : List Expr} {t u : Sx Bool} (h : VT X cl W c t) (h' : VW X cl W (.BoolOp .Or (d :: rest) pos) u) : VW X cl W (.BoolOp .Or (c :: d :: rest) pos) (Ev.tOr t u) := vw_or h h'
theorem tW {e : Expr} {t : Sx Bool} (h : VW X cl W e t) : VT X cl W e t := h.pt
/-! ### and, or, not, if -/
theorem kOne {op : BoolOp} {m : Sx Vl} (h : VE X cl W c m) : VE X cl W (.BoolOp op [c] pos) m := ve_one h
theorem kAnd {d : Expr} {rest : List Expr} {m n : Sx Vl} (h : VE X cl W c m) (h' : VE X cl W (.BoolOp .And (d :: rest) pos) n) : VE X cl W (.BoolOp .And (c :: d :: rest) pos) (sAnd m n) := ve_and h h'
theorem kOr {d : Expr} {rest : List Expr} {m n : Sx Vl} (h : VE X cl W c m) (h' : VE X cl W (.BoolOp .Or (d :: rest) pos) n) : VE X cl W (.BoolOp .Or (c :: d :: rest) pos) (sOr m n) := ve_or h h'
theorem kNot (hc : VO X cl W c mc) : VE X cl W (.UnaryOp .Not c pos) (sNot mc) := ve_not hc
theorem kIf {t : Sx Bool} {m n : Sx Vl} (hc : VT X cl W c t) (ha : VE X cl W a m) (hb : VE X cl W b n) : VE X cl W (.IfExp c a b pos) (sIf t m n) := ve_ite hc ha hb
end
/-! ### displays, slices, fields -/
theorem kTup {es : List Expr} {ms : List (Sx Opd)} {j : Nat} (h : VA X cl W es ms) : VE X cl W (.Tuple es j pos) (sTup ms) := ve_tup h
theorem kLst {es : List Expr} {ms : List (Sx Opd)} (h : VA X cl W es ms) : VE X cl W (.List es pos) (sLst ms) := ve_lst h
theorem kDic0 : VE X cl W (.Dict [] [] pos) sDic0 := ve_dic0
theorem kDicK {k v : Expr} {mk mv : Sx Opd} (hk : VO X cl W k mk) (hv : VO X cl W v mv) : VE X cl W (.Dict [some k] [v] pos) (sDic1 true mk mv) := ve_dic1K hk hv
theorem kDicT (hu : X.A.units + 65 < cLine) {k v : Expr} {mk mv : Sx Opd} (hk : VO X cl W k mk) (hv : VO X cl W v mv) : VE X cl W (.Dict [some k] [v] pos) (sDic1 false mk mv) := ve_dic1T hu hk hv
theorem pNone : PO X none (tPt (gl X cl) W (oPart none)) := vp_none
theorem pSome {c : Expr} {m : Sx Opd} (h : VO X cl W c m) : PO X (some c) (tPt (gl X cl) W (oPart (some m))) := vp_some h
theorem kSlice {c : Expr} {m : Sx Opd} {lo hi : Option Expr} {ml mh : Option (Sx Opd)} (h : VO X cl W c m) (hl : PO X lo (tPt (gl X cl) W (oPart ml))) (hh : PO X hi (tPt (gl X cl) W (oPart mh))) : VE X cl W (.Subscript c (.Slice lo hi none pos2) pos) (sSlice m ml mh) := ve_slice h hl hh
theorem kRev {c : Expr} {m : Sx Opd} {k : Nat} {p1 p2 p3 : Pos} (h : VO X cl W c m) : VE X cl W (.Subscript c (.Slice none none (some (.UnaryOp .USub (.Constant (.int 1) k p1) p2)) p3) pos) (sRev m) := ve_rev h
/-- the fields of the text's classes -/
def HAt (K : PySem.W.Frag) (cl : Str → Option Addr) (at_ : Str → Str → Bool) : Prop := ∀ c f C, at_ c f = true → cl c = some C → Cls K C ∧ NoAttr K C f
theorem kFld {at_ : Str → Str → Bool} (hat : HAt X.K cl at_) {c : Expr} {f : Str} {m : Sx Opd} (h : VO X cl W c m) (hb : attributeBase c f X.env (eval c X.env) = eval c X.env := by rfl) : VE X cl W (.Attribute c f pos) (sFld at_ f m) := ve_fld hat h hb
/-! ### calls of built-ins -/
section
variable {e : Expr} {es : List Expr} {ms : List (Sx Opd)} {p : List D → Option Vl}
def isB (id : String) : Value → Bool
  | .builtin n => n == id
  | _ => false
def isTy (T : String) : Value → Bool
  | .type n => n == T
  | _ => false
theorem btB_of {v : Value → Bool} (h : btB X x v = true) : Gl X x ∧ (x == ("__debug__" : Str)) = false ∧ x ≠ "__name__" ∧ ∃ u, bootBuiltins x = some u ∧ v u = true := by
  unfold btB at h
  simp only [Bool.and_eq_true, Bool.not_eq_true', decide_eq_false_iff_not] at h
  obtain ⟨⟨h1, h2⟩, h3⟩ := h
  obtain ⟨g1, g2⟩ := glB_of h1
  refine ⟨g1, g2, h2, ?_⟩
  split at h3
  · exact ⟨_, by assumption, h3⟩
  · cases h3
theorem kCallB {id : String} (hc : CallR X (.builtin id) (rPs (gl X cl) p)) (hm : X.mg x = none) (ha : VA X cl W (e :: es) ms) (h : btB X x (isB id) = true := by kernel_rfl)
    (he : starEach (e :: es) X.env = (false, eval e X.env) :: starEach es X.env := by rfl) (hpl : (backTo pos (starEach es X.env)).any (·.1) = false := by rfl) : VE X cl W (.Call (.Name x pos2) (e :: es) [] pos) (sPrim p ms) := by
  obtain ⟨a, b, c, u, hu, hv⟩ := btB_of h
  unfold isB at hv
  split at hv
  · have := beq_iff_eq.mp hv
    subst this
    exact ve_callB hc a hm hu ha c b he hpl
  · cases hv
theorem kCallTy {T : String} (hc : CallR X (.type T) (rPs (gl X cl) p)) (hm : X.mg x = none) (ha : VA X cl W (e :: es) ms) (h : btB X x (isTy T) = true := by kernel_rfl)
    (he : starEach (e :: es) X.env = (false, eval e X.env) :: starEach es X.env := by rfl) (hpl : (backTo pos (starEach es X.env)).any (·.1) = false := by rfl) : VE X cl W (.Call (.Name x pos2) (e :: es) [] pos) (sPrim p ms) := by
  obtain ⟨a, b, c, u, hu, hv⟩ := btB_of h
  unfold isTy at hv
  split at hv
  · have := beq_iff_eq.mp hv
    subst this
    exact ve_callTy hc a hm hu ha c b he hpl
  · cases hv
theorem bLen : CallR X (.builtin "len") (rPs (gl X cl) pLenA) := callP_or cr_len cr_dlenP
theorem bSorted (hc : X.calm = true) (hu : X.A.units + 65 < cLine) : CallR X (.builtin "sorted") (rPs (gl X cl) pSortedA) := callP_or (cr_sortedP (by omega)) (cr_dsortedP hc (by omega))
end
/-! ### isinstance -/
theorem kIsi {u : Str} {T : String} {f : String → Option Bool} {p1 p2 : Pos} {e : Expr} {m : Sx Opd} (hf : ∀ t b, f t = some b → kitB t T = some b) (he : VO X cl W e m) (hm : X.mg "isinstance" = none) (hm2 : X.mg u = none) (h : btB X "isinstance" (isB "isinstance") = true := by kernel_rfl) (h2 : btB X u (isTy T) = true := by kernel_rfl)
    (hs : starEach [e, .Name u p2] X.env = (false, eval e X.env) :: starEach [.Name u p2] X.env := by rfl) (hs2 : starEach [.Name u p2] X.env = (false, eval (.Name u p2) X.env) :: starEach [] X.env := by rfl) (hpl : (backTo pos (starEach [.Name u p2] X.env)).any (·.1) = false := by rfl) :
    VE X cl W (.Call (.Name "isinstance" p1) [e, .Name u p2] [] pos) (sPrim (pIsi f) [m]) := by
  obtain ⟨a, b, c, v, hv, hv2⟩ := btB_of h
  obtain ⟨a2, b2, c2, v2, hw, hw2⟩ := btB_of h2
  unfold isB at hv2
  split at hv2
  · have := beq_iff_eq.mp hv2
    subst this
    unfold isTy at hw2
    split at hw2
    · have := beq_iff_eq.mp hw2
      subst this
      exact ve_isi hf he a hm hv c b a2 hm2 hw c2 b2 hs hs2 hpl
    · cases hw2
  · cases hv2
end
end Ev
set_option Elab.async false
set_option linter.all false
set_option autoImplicit false
set_option maxRecDepth 100000
/-! Comprehensions, calls, statements: the rules with what is to be seen of the text. -/
namespace Ev
open PySem L2 PySem.Spec PyProof.Rows
section
variable {X : Cx} {cl : Str → Option Addr} {W : WX} {pos pos2 : Pos} {x : Str} {i : Nat}
/-! ### targets -/
abbrev VG (X : Cx) (e : Expr) (t : Tg) : Prop := PG X e (gTg X.K t)
abbrev VGs (X : Cx) (es : List Expr) (is : List Nat) : Prop := PGs X es (is.foldr (fun i t => gCons (gName i) t) gNil)
theorem g1 (hN : X.N.Nodup) (i : Nat) (h : tgB X i x = true := by kernel_rfl) : VG X (.Name x pos) (.one i) := let ⟨a, b, c⟩ := tgB_of h; pg_name hN a b c
theorem gsNil : VGs X [] [] := pgs_nil
theorem gsCons (hN : X.N.Nodup) (i : Nat) {es : List Expr} {is : List Nat} (t : VGs X es is) (h : tgB X i x = true := by kernel_rfl) (hs : (assignEach (.Name x pos :: es) X.env).map (·.2) = assign (.Name x pos) X.env :: (assignEach es X.env).map (·.2) := by rfl) : VGs X (.Name x pos :: es) (i :: is) :=
  let ⟨a, b, c⟩ := tgB_of h; pgs_cons (pg_name hN a b c) t hs
theorem gN {es : List Expr} {is : List Nat} {k : Nat} (hc : X.calm = true) (t : VGs X es is) (hn : (assignEach es X.env).length = is.length := by rfl) (hst : (assignEach es X.env).findIdx? (·.1) = none := by rfl) : VG X (.Tuple es k pos) (.many is) := pg_tup hc t hn hst
/-! ### sources -/
theorem iSeq1 {tg l : Expr} {m : Sx Opd} (h : VO X cl W l m) : VI X cl W tg l (sSeq m) := vi_seq h
theorem iRange1 {tg a : Expr} {m : Sx Opd} (hm : X.mg "range" = none) (ha : VA X cl W [a] [m]) (h : glB X "range" = true := by kernel_rfl) (hs : starEach [a] X.env = [(false, eval a X.env)] := by rfl) : VI X cl W tg (.Call (.Name "range" pos2) [a] [] pos) (sRange [m]) := vi_range1 (glB_of h).1 hm ha hs
theorem iRange2 {tg a b : Expr} {m n : Sx Opd} (hm : X.mg "range" = none) (ha : VA X cl W [a, b] [m, n]) (h : glB X "range" = true := by kernel_rfl) (hs : starEach [a, b] X.env = [(false, eval a X.env), (false, eval b X.env)] := by rfl) (hs2 : starEach [b] X.env = [(false, eval b X.env)] := by rfl) :
    VI X cl W tg (.Call (.Name "range" pos2) [a, b] [] pos) (sRange [m, n]) := vi_range2 (glB_of h).1 hm ha hs hs2
theorem iEnum1 {a : Expr} {m : Sx Opd} {elts : List Expr} {kk : Nat} {tpos : Pos} (hm : X.mg "enumerate" = none) (ha : VA X cl W [a] [m]) (h : glB X "enumerate" = true := by kernel_rfl) (hs : starEach [a] X.env = [(false, eval a X.env)] := by rfl) :
    VI X cl W (.Tuple elts kk tpos) (.Call (.Name "enumerate" pos2) [a] [] pos) (sEnum m) := vi_enum (glB_of h).1 hm ha hs
theorem iZip1 {a b : Expr} {m n : Sx Opd} {elts : List Expr} {kk : Nat} {tpos : Pos} (hm : X.mg "zip" = none) (ha : VA X cl W [a, b] [m, n]) (h : glB X "zip" = true := by kernel_rfl) (hs : starEach [a, b] X.env = (false, eval a X.env) :: starEach [b] X.env := by rfl) (hpl : (backTo pos (starEach [b] X.env)).any (·.1) = false := by rfl) :
    VI X cl W (.Tuple elts kk tpos) (.Call (.Name "zip" pos2) [a, b] [] pos) (sZip m n) := vi_zip (glB_of h).1 hm ha hs hpl
/-! ### comprehensions -/
/-- all the contexts of a block -/
abbrev Blk (X : Cx) (scope : Scope) (P : Cx → Prop) : Prop := ∀ (s : Shared) (H : Hp) (C : Addr) (cl : List (Str × Addr)) (fp : List Addr), P (X.blk s H scope (compEnvC scope cl C X.env) fp)
structure Tst (X : Cx) (cl : Str → Option Addr) (ifs : List Expr) (t : Sx Bool) : Prop where
  ex : ∃ tt, PTs X ifs tt ∧ ∀ σ H Q, tT (gl X cl) W0 t σ H Q → tt σ H Q
/-- the tests of a comprehension -/
inductive CIf (X : Cx) (cl : Str → Option Addr) (scope : Scope) : List Expr → Sx Bool → Prop
  | none : CIf X cl scope [] tTrue
  | one {c : Expr} {t : Sx Bool} (h : Blk X scope fun Y => VT Y cl W0 c t) : CIf X cl scope [c] t
theorem kComp {elt tgt iter : Expr} {ifs : List Expr} {scope : Scope} (own : List (Str × Nat)) {tg : Tg} {s : Sx Src} {t : Sx Bool} {el : Sx Opd} (hc : X.calm = true) (hN : X.N.Nodup) (hi : VI X cl W tgt iter s) (hg : Blk X scope fun Y => VG Y tgt tg) (ht : CIf X cl scope ifs t) (he : Blk X scope fun Y => VO Y cl W0 elt el)
    (ok : blkC X.N X.env.scope scope own = true := by kernel_rfl) (hs : ∀ x, foldedSetIterable iter X.env x = pure x := by intro _; rfl) : VE X cl W (.ListComp elt [⟨tgt, iter, ifs, 0⟩] scope pos) (sComp (own.map (·.2)) tg s t el) := by
  cases ht with
  | none => exact ve_comp (tt := tYes) yes_of hc hN hi (blkOk_by ok) hg (fun _ _ _ _ _ => pts_nil) he hs
  | one h => exact ve_comp (tt := tT (gl X cl) W0 t) (fun _ _ _ z => z) hc hN hi (blkOk_by ok) hg (fun a b c d e => pts_one (h a b c d e)) he hs
theorem sCompS {y : Str} {py spos : Pos} {elt tgt iter : Expr} {ifs : List Expr} {scope : Scope} (own : List (Str × Nat)) {tg : Tg} {s : Sx Src} {t : Sx Bool} {el : Sx Opd} (i : Nat) (hc : X.calm = true) (hN : X.N.Nodup) (hi : VI X cl W tgt iter s) (hg : Blk X scope fun Y => VG Y tgt tg) (ht : CIf X cl scope ifs t) (he : Blk X scope fun Y => VO Y cl W0 elt el)
    (hy : (decide (X.N[i]? = some y) && decide (X.env.scope.names.lookup y = some .local)) = true := by kernel_rfl) (hsw : swapsWith (.ListComp elt [⟨tgt, iter, ifs, 0⟩] scope pos) (some (.Name y py)) spos.line X.env = pure true := by rfl)
    (ok : blkC X.N X.env.scope scope own = true := by kernel_rfl) (hs : ∀ x, foldedSetIterable iter X.env x = pure x := by intro _; rfl) :
    VS X cl W (.Assign [.Name y py] (.ListComp elt [⟨tgt, iter, ifs, 0⟩] scope pos) spos) (sAsg (sComp (own.map (·.2)) tg s t el) i) := by
  rw [Bool.and_eq_true, decide_eq_true_eq, decide_eq_true_eq] at hy
  cases ht with
  | none => exact vs_setComp (tt := tYes) yes_of hc hN hy.1 hy.2 hsw hi (blkOk_by ok) hg (fun _ _ _ _ _ => pts_nil) he hs
  | one h => exact vs_setComp (tt := tT (gl X cl) W0 t) (fun _ _ _ z => z) hc hN hy.1 hy.2 hsw hi (blkOk_by ok) hg (fun a b c d e => pts_one (h a b c d e)) he hs
theorem kDComp {kx vx tgt iter : Expr} {ifs : List Expr} {scope : Scope} (own : List (Str × Nat)) {tg : Tg} {s : Sx Src} {t : Sx Bool} {mk mv : Sx Opd} (hu : X.A.units + 65 < cLine) (hc : X.calm = true) (hN : X.N.Nodup) (hi : VI X cl W tgt iter s) (hg : Blk X scope fun Y => VG Y tgt tg) (ht : CIf X cl scope ifs t) (hk : Blk X scope fun Y => VO Y cl W0 kx mk) (he : Blk X scope fun Y => VO Y cl W0 vx mv)
    (ok : blkC X.N X.env.scope scope own = true := by kernel_rfl) (hs : ∀ x, foldedSetIterable iter X.env x = pure x := by intro _; rfl) : VE X cl W (.DictComp kx vx [⟨tgt, iter, ifs, 0⟩] scope pos) (sDComp (own.map (·.2)) tg s t mk mv) := by
  cases ht with
  | none => exact ve_dcomp hu (tt := tYes) yes_of hc hN hi (blkOk_by ok) hg (fun _ _ _ _ _ => pts_nil) hk he hs
  | one h => exact ve_dcomp hu (tt := tT (gl X cl) W0 t) (fun _ _ _ z => z) hc hN hi (blkOk_by ok) hg (fun a b c d e => pts_one (h a b c d e)) hk he hs
/-! ### C(..), with a wish that knows the slots -/
section
variable {C f : Addr} {fd : FuncData} {ps : List Str} {sp : Sp} {ds : List Value} {dvs : List V} {k : Nat} {CX : CXT} {p : Pos} {e : Expr} {es : List Expr} {t : TA}
theorem run_makeSD {E : XK} {pins : List (Addr × Obj)} {σ : L2.St} {H : Hp} {s : Shared} {Q : VK} {us : List Value} {vs : List V} (M : Mk X.K C f) (F : FnOk X.prog X.w X.K X.mg X.base CX k f fd ps sp) (hr : Room (k + 1) X.A) (hb : Binds X.K fd ps ds) (hd : Vals dvs ds)
    (hx : PassesAt CX X σ E) (I : Inv X pins σ H s) (r : Vals vs us)
    (h : ∀ x dx, H x = none → H dx = none → dx ≠ x → sp (.ref x :: (vs ++ dvs)) (upd (upd H dx (.own x)) x (.ins C dx [])) (fun v H2 => v = .non ∧ Q (.ref x) H2) E) :
    wpAny (model X.prog X.w) X.A (call (.ref C) us) (EP X pins σ Q) X.xe s := by
  have hq := h (s.heap.objs.size + 1) s.heap.objs.size (I.hok.fresh (Nat.le_succ _)) (I.hok.fresh (Nat.le_refl _)) (Nat.ne_of_lt (Nat.lt_succ_self _))
  have I2 := Inv.made (C := C) I
  have r2 : Vals (V.ref (s.heap.objs.size + 1) :: (vs ++ dvs)) (Value.ref (s.heap.objs.size + 1) :: (us ++ ds)) := .cons rfl (r.append hd)
  have hl : (Value.ref (s.heap.objs.size + 1) :: us ++ ds).length = ps.length := by
    have e := r2.length
    rw [F.len _ _ _ _ hq] at e
    exact e.symm
  refine wpAny_call (make_map (f := f) I.kIn M.makes M.init (beq_iff_eq.mp M.fn) (codeAny_mono (F.run _ X.stack _ _ ⟨Value.ref (s.heap.objs.size + 1) :: us, []⟩ (Value.ref (s.heap.objs.size + 1) :: (us ++ ds)) _ _ E (hr.make C us [])
    (I2.env0.make C us []) (hb _ (Value.ref (s.heap.objs.size + 1) :: us) I2.kIn hl) r2 hq) fun r s' hq' => ?_))
  cases r with
  | error e => exact hx pins _ _ e s' I2 hq'
  | ok fl =>
    cases fl with
    | ret u =>
      obtain ⟨v, H', I3, rv, ev, q3⟩ := I2.after hq'
      subst ev
      exact ⟨rv, ⟨V.ref (s.heap.objs.size + 1), H', I3, rfl, q3⟩⟩
    | next => exact False.elim hq'
    | brk => exact False.elim hq'
    | cont => exact False.elim hq'
theorem pe_makeSD {E : L2.St → XK} (M : Mk X.K C f) (F : FnOk X.prog X.w X.K X.mg X.base CX k f fd ps sp) (hr : Room (k + 1) X.A) (hg : Gl X x) (hm : X.mg x = some (.ref C)) (hb : Binds X.K fd ps ds) (hd : Vals dvs ds) (hx : ∀ σ, PassesAt CX X σ (E σ))
    (ha : PA X (e :: es) t) (hdb : (x == ("__debug__" : Str)) = false := by decide) (he : starEach (e :: es) X.env = (false, eval e X.env) :: starEach es X.env := by rfl) (hpl : (backTo pos (starEach es X.env)).any (·.1) = false := by rfl) :
    PE X (.Call (.Name x p) (e :: es) [] pos) (fun σ H Q => tMake C sp dvs (E σ) t σ H Q) := by
  refine ⟨fun pins s σ H Q I h => ?_⟩
  refine wpAny_Call_Name_kw (ld_glob I hg hm ?_ hdb)
  refine PySem.W.callWith_K (h₀ := X.base) I.ok.mod.kin M.kp (thn (ha.run pos pins s σ H _ I h) fun us s1 ⟨vs, H1, I1, r, q⟩ => ⟨I1.kIn, ?_⟩) he hpl
  exact run_makeSD M F hr hb hd (hx σ) I1 r q
end
/-! ### calls of defs -/
abbrev CX0' : CXT := fun _ _ _ _ _ _ => False
/-- a def of the text, by its name -/
structure FnD (P : Program) (w : World) (K : PySem.W.Frag) (mg : Str → Option Value) (base : Heap) (k : Nat) (x : Str) (n : Nat) (sp : Sp) : Prop where
  ex : ∃ f fd ps, FnOk P w K mg base CX0' k f fd ps sp ∧ mg x = some (.ref f) ∧ PySem.W.keepIn K (.ref f) = true ∧ Binds K fd ps []
/-- a class of the text, by its name: what its __init__ does with the new object -/
structure ClD (P : Program) (w : World) (K : PySem.W.Frag) (mg : Str → Option Value) (base : Heap) (cl : Str → Option Addr) (k : Nat) (x : Str) (sp : Sp) : Prop where
  ex : ∃ C f fd ps, cl x = some C ∧ Mk K C f ∧ FnOk P w K mg base CX0' k f fd ps sp ∧ mg x = some (.ref C) ∧ Binds K fd ps []
abbrev FnX (X : Cx) (cl : Str → Option Addr) (k : Nat) (x : Str) (modes : List Bool) (F : List D → Res Vl) : Prop := FnD X.prog X.w X.K X.mg X.base k x modes.length (spFn (gl X cl) modes F)
section
variable {a : Expr} {es : List Expr} {ms : List (Sx Opd)} {modes : List Bool} {k k' : Nat}
theorem kCall {F : List D → Res Vl} (FO : FnD X.prog X.w X.K X.mg X.base k x modes.length (spFn (gl X cl) modes F)) {A : Around} (hr : Room k' A) (hk : k ≤ k') (ha : VA X cl W (a :: es) ms) (h : glB X x = true := by kernel_rfl) (eA : X.A = A := by rfl)
    (he : starEach (a :: es) X.env = (false, eval a X.env) :: starEach es X.env := by rfl) (hpl : (backTo pos (starEach es X.env)).any (·.1) = false := by rfl) : VE X cl W (.Call (.Name x pos2) (a :: es) [] pos) (sCall modes F ms) := by
  subst eA
  obtain ⟨f, fd, ps, ok, hm, hkp, hb⟩ := FO.ex
  obtain ⟨g1, g2⟩ := glB_of h
  exact ve_call (CX := CX0') ok (hr.mono hk) g1 hm hkp hb (fun _ _ _ _ _ _ _ z => z.elim) ha g2 he hpl
theorem kCallBx {F : D → List D → ResB} (FO : FnD X.prog X.w X.K X.mg X.base k x modes.length (spBx (gl X cl) modes F)) {A : Around} (hr : Room k' A) (hk : k ≤ k') (i : Nat) (ha : VA X cl W (a :: es) (oName i :: ms)) (h : glB X x = true := by kernel_rfl) (eA : X.A = A := by rfl)
    (he : starEach (a :: es) X.env = (false, eval a X.env) :: starEach es X.env := by rfl) (hpl : (backTo pos (starEach es X.env)).any (·.1) = false := by rfl) : VE X cl W (.Call (.Name x pos2) (a :: es) [] pos) (sCallB modes F i ms) := by
  subst eA
  obtain ⟨f, fd, ps, ok, hm, hkp, hb⟩ := FO.ex
  obtain ⟨g1, g2⟩ := glB_of h
  exact ve_callB' (CX := CX0') ok (hr.mono hk) g1 hm hkp hb (fun _ _ _ _ _ _ _ z => z.elim) ha g2 he hpl
theorem kMake {F : D → List D → ResB} (FO : ClD X.prog X.w X.K X.mg X.base cl k x (spBx (gl X cl) modes F)) {A : Around} (hr : Room k' A) (hk : k + 1 ≤ k') (ha : VA X cl W (a :: es) ms) (h : glB X x = true := by kernel_rfl) (eA : X.A = A := by rfl)
    (he : starEach (a :: es) X.env = (false, eval a X.env) :: starEach es X.env := by rfl) (hpl : (backTo pos (starEach es X.env)).any (·.1) = false := by rfl) : VE X cl W (.Call (.Name x pos2) (a :: es) [] pos) (sMake x modes F ms) := by
  subst eA
  obtain ⟨C, f, fd, ps, hC, MK, ok, hm, hb⟩ := FO.ex
  obtain ⟨g1, g2⟩ := glB_of h
  exact ve_make (CX := CX0') hC MK ok (hr.mono hk) g1 hm hb (fun t hp => pe_makeSD (E := WAt W) MK ok (hr.mono hk) g1 hm hb .nil (fun _ _ _ _ _ _ _ z => z.elim) hp g2 he hpl) ha
end
/-! ### methods -/
section
variable {nm : Str} {pp apos cpos : Pos} {e o : Expr} {es : List Expr} {ms : List (Sx Opd)} {m : Sx Opd} {name : Str}
/-- a method that changes its object -/
structure MthM (X : Cx) (cl : Str → Option Addr) (name : Str) (T : MTy) (p : D → List D → Option (D × D)) (modes : List Bool) : Prop where
  ex : ∃ id, PlainAttrs T.nm ∧ PySem.Slot T.nm name id ∧ typeOf (.builtin id) = pure (.type "method_descriptor") ∧ MtR X id (rMut (gl X cl) modes p)
structure MthV (X : Cx) (cl : Str → Option Addr) (name : Str) (T : MTy) (p : List D → Option Vl) : Prop where
  ex : ∃ id, PlainAttrs T.nm ∧ PySem.Slot T.nm name id ∧ typeOf (.builtin id) = pure (.type "method_descriptor") ∧ MtR X id (rVM (gl X cl) p)
theorem mAppend : MthM X cl "append" .lst pAppend [false] := ⟨_, F.plainAttrs_list, F.slot_list_append, F.type_list_append, mt_appendP⟩
theorem mExtend : MthM X cl "extend" .lst pExtend [true] := ⟨_, F.plainAttrs_list, F.slot_list_extend, F.type_list_extend, mt_extendP⟩
theorem mPop : MthM X cl "pop" .lst pPop [] := ⟨_, F.plainAttrs_list, F.slot_list_pop, F.type_list_pop, mt_popP⟩
theorem mIndex (hu : X.A.units + 65 < cLine) : MthV X cl "index" .lst pIndex := ⟨_, F.plainAttrs_list, F.slot_list_index, F.type_list_index, mt_indexP hu⟩
theorem mGet (hu : X.A.units + 65 < cLine) : MthV X cl "get" .dic pDGet := ⟨_, F.plainAttrs_dict, F.slot_dict_get, F.type_dict_get, mt_dgetP hu⟩
theorem kMeth {T : MTy} {p : D → List D → Option (D × D)} {modes : List Bool} (M : MthM X cl name T p modes) (i : Nat) (ha : VA X cl W (e :: es) ms) (h : nmB X i nm = true := by kernel_rfl)
    (hbase : attributeBase (.Name nm pp) name X.env (eval (.Name nm pp) X.env) = eval (.Name nm pp) X.env := by rfl)
    (hfew : ((backTo cpos (starEach (e :: es) X.env)).all (fun x => !x.1) && (backToKw cpos (keywordEach [] X.env)).all (fun x => x.1.isSome)
      && decide ((e :: es).length + ([] : List Keyword).length + (if ([] : List Keyword).isEmpty then 0 else 1) < 30)) = true := by rfl)
    (hline : (apos.endLine == cpos.line) = true := by rfl) (hs : starEach (e :: es) X.env = (false, eval e X.env) :: starEach es X.env := by rfl) (hplain : (backTo cpos (starEach es X.env)).any (·.1) = false := by rfl) :
    VE X cl W (.Call (.Attribute (.Name nm pp) name apos) (e :: es) [] cpos) (sMeth T p modes i ms) := by
  obtain ⟨id, a, b, c, d⟩ := M.ex
  obtain ⟨n1, n2, n3, n4⟩ := nmB_of h
  exact ve_meth a b c d n1 n2 n3 n4 ha hbase hfew hline hs hplain
theorem kMeth0 {T : MTy} {p : D → List D → Option (D × D)} {modes : List Bool} (M : MthM X cl name T p modes) (i : Nat) (h : nmB X i nm = true := by kernel_rfl)
    (hbase : attributeBase (.Name nm pp) name X.env (eval (.Name nm pp) X.env) = eval (.Name nm pp) X.env := by rfl) (hline : (apos.endLine == cpos.line) = true := by rfl) :
    VE X cl W (.Call (.Attribute (.Name nm pp) name apos) [] [] cpos) (sMeth T p modes i []) := by
  obtain ⟨id, a, b, c, d⟩ := M.ex
  obtain ⟨n1, n2, n3, n4⟩ := nmB_of h
  exact ve_meth0 a b c d n1 n2 n3 n4 hbase hline
theorem kVMeth {T : MTy} {p : List D → Option Vl} (M : MthV X cl name T p) (ho : VO X cl W o m) (ha : VA X cl W (e :: es) ms)
    (hbase : attributeBase o name X.env (eval o X.env) = eval o X.env := by rfl)
    (hfew : ((backTo cpos (starEach (e :: es) X.env)).all (fun x => !x.1) && (backToKw cpos (keywordEach [] X.env)).all (fun x => x.1.isSome)
      && decide ((e :: es).length + ([] : List Keyword).length + (if ([] : List Keyword).isEmpty then 0 else 1) < 30)) = true := by rfl)
    (hline : (apos.endLine == cpos.line) = true := by rfl) (hs : starEach (e :: es) X.env = (false, eval e X.env) :: starEach es X.env := by rfl) (hplain : (backTo cpos (starEach es X.env)).any (·.1) = false := by rfl) :
    VE X cl W (.Call (.Attribute o name apos) (e :: es) [] cpos) (sVMeth T p m ms) := by
  obtain ⟨id, a, b, c, d⟩ := M.ex
  exact ve_vmeth a b c d ho ha hbase hfew hline hs hplain
end
/-! ### statements -/
section
variable {st : Stmt} {rest body : List Stmt} {a b : SS} {ex c : Expr} {m : Sx Vl} {t : Sx Bool}
theorem zNil : VSs X cl W [] sSkip := vs_nil
theorem zCons (h1 : VS X cl W st a) (h2 : VSs X cl W rest b) : VSs X cl W (st :: rest) (sThen a b) := vs_cons h1 h2
theorem zOne (h1 : VS X cl W st a) : VSs X cl W [st] a := vs_one h1
theorem zSet (hN : X.N.Nodup) (i : Nat) (he : VE X cl W ex m) (h : tgB X i x = true := by kernel_rfl) (hs : swapsWith ex (some (.Name x pos2)) pos.line X.env = pure false := by rfl) : VS X cl W (.Assign [.Name x pos2] ex pos) (sAsg m i) := let ⟨a, b, c⟩ := tgB_of h; vs_set hN a b he hs c
theorem zUnp {ts : List Expr} {kk : Nat} {is : List Nat} {m : Sx Opd} {tpos : Pos} (he : VO X cl W ex m) (hg : VG X (.Tuple ts kk tpos) (.many is)) (hs : swapsWithSole [.Tuple ts kk tpos] ex pos.line X.env = pure false := by rfl) (hw : swappedStores [.Tuple ts kk tpos] ex X.env = pure none := by rfl)
    (h1 : (assignEach [.Tuple ts kk tpos] X.env).map (·.2) = [assign (.Tuple ts kk tpos) X.env] := by rfl) : VS X cl W (.Assign [.Tuple ts kk tpos] ex pos) (sAsgT m is) := vs_unpack he hg hs hw h1
theorem zIf {u v : SS} {l1 l2 : List Stmt} (hc : VT X cl W c t) (ha : VSs X cl W l1 u) (hb : VSs X cl W l2 v) : VS X cl W (.If c l1 l2 pos) (sIfS t u v) := vs_if hc ha hb
theorem zRet (he : VE X cl W ex m) : VS X cl W (.Return (some ex) pos) (sRet m) := vs_ret he
theorem zRetName (i : Nat) (h : nmB X i x = true := by kernel_rfl) : VS X cl W (.Return (some (.Name x pos2)) pos) (sRetName i) := let ⟨a, b, c, d⟩ := nmB_of h; vs_retName a b c d
theorem zExpr (he : VE X cl W ex m) (hs : swapsWith ex none pos.line X.env = pure false := by rfl) : VS X cl W (.Expr ex pos) (sDrop m) := vs_expr he hs
theorem zDoc {z : Str} {j : Nat} : VS X cl W (.Expr (.Constant (.str z) j pos2) pos) sSkip := vs_doc
def sStop : SS := fun _ => .stuck
theorem zStop : VS X cl W st sStop := ⟨fun pins s σ H D I w => by obtain ⟨_, _, _, _, h⟩ := w; exact h.elim⟩
theorem zWhile (hp : PassesOwn (model X.prog X.w) X.A X.env X.xe) (hc : VT X cl W c t) (hb : VSs X cl W body b) : VS X cl W (.While c body [] pos) (sWhile t b) := vs_while hp hc hb
theorem zFor {tgt iter : Expr} {tg : Tg} {s : Sx Src} (hp : PassesOwn (model X.prog X.w) X.A X.env X.xe) (hc : X.calm = true) (hi : VI X cl W tgt iter s) (hg : VG X tgt tg) (hb : VSs X cl W body b) (hs : ∀ x, foldedSetIterable iter X.env x = pure x := by intro _; rfl) : VS X cl W (.For tgt iter body [] pos) (sFor tg s b) := vs_for hp hc hi hg hb hs
theorem zSetI {k value : Expr} {mk : Sx Opd} {p : D → List D → Option D} {pp : Pos} (hset : PSet X (rSet1 (gl X cl) p)) (i : Nat) (hk : VO X cl W k mk) (he : VE X cl W value m) (h : nmB X i x = true := by kernel_rfl)
    (ha : ∀ v, assign (.Subscript (.Name x pp) k pos2) X.env v = (do
      let ov ← holding [v] (eval (.Name x pp) X.env)
      let iv ← holding [v, ov] (eval k X.env)
      standAt pos2
      holding [v, ov, iv] (setItem ov iv v)
      release [v, ov, iv] []) := by intro _; rfl)
    (hs : swapsWithSole [.Subscript (.Name x pp) k pos2] value pos.line X.env = pure false := by rfl) (hw : swappedStores [.Subscript (.Name x pp) k pos2] value X.env = pure none := by rfl)
    (h1 : (assignEach [.Subscript (.Name x pp) k pos2] X.env).map (·.2) = [assign (.Subscript (.Name x pp) k pos2) X.env] := by rfl) :
    VS X cl W (.Assign [.Subscript (.Name x pp) k pos2] value pos) (sSetI p i mk m) := let ⟨n1, n2, n3, n4⟩ := nmB_of h; vs_setItem hset n1 n2 n3 n4 hk he ha hs hw h1
theorem zSetF {at_ : Str → Str → Bool} {f : Str} {value : Expr} {pp : Pos} (hat : HAt X.K cl at_) (i : Nat) (he : VE X cl W value m) (h : nmB X i x = true := by kernel_rfl) (hs : swapsWith value (some (.Attribute (.Name x pp) f pos2)) pos.line X.env = pure false := by rfl) :
    VS X cl W (.Assign [.Attribute (.Name x pp) f pos2] value pos) (sSetF at_ f i m) := let ⟨n1, n2, n3, n4⟩ := nmB_of h; vs_setF hat n1 n2 n3 n4 he hs
theorem zAug {k : Expr} {m : Sx Opd} (hN : X.N.Nodup) (i : Nat) (he : VO X cl W k m) (h : tgB X i x = true := by kernel_rfl) : VS X cl W (.AugAssign (.Name x pos2) .Add k pos) (sAug pAugI i m) := let ⟨a, b, c⟩ := tgB_of h; vs_augI hN a b he c
/-- try: .. whose body raises nothing -/
theorem zTry {h0 : ExceptHandler} {hs : List ExceptHandler} (hb : VSs X.nox cl W0 body b) : VS X cl W0 (.Try body (h0 :: hs) [] [] pos) b := ps_try_thru0 hb
end
end
/-! ### defs -/
section
variable {P : Program} {w : World} {K : PySem.W.Frag} {mg : Str → Option Value} {base : Heap} {cl : Str → Option Addr} {x qual : Str} {params : Arguments} {body : List Stmt} {scope : Scope} {f : Addr} {fd : FuncData} {N ps : List Str} {k : Nat}
theorem spFn_len {g : Gl0} {modes : List Bool} {F : List D → Res Vl} {vs : List V} {H : Hp} {Q : VK} {E : XK} (h : spFn g modes F vs H Q E) : vs.length = modes.length := by
  obtain ⟨M, ds, _, ar, _⟩ := h
  exact argR_len ar
theorem spBx_len {g : Gl0} {modes : List Bool} {F : D → List D → ResB} {vs : List V} {H : Hp} {Q : VK} {E : XK} (h : spBx g modes F vs H Q E) : vs.length = modes.length + 1 := by
  obtain ⟨b, o, d0, M, us, ds, rfl, _, _, _, _, ar, _⟩ := h
  simp [argR_len ar]
abbrev ctx (P : Program) (w : World) (K : PySem.W.Frag) (mg : Str → Option Value) (base : Heap) (N : List Str) (qual : Str) (scope : Scope) (f : Addr) (cdv : Value) (A : Around) (outer : List Env) (s : Shared) (H : Hp) (E : XK) : Cx := (cxOf CX0' P w K mg base N qual scope f cdv A outer s H E).nox
theorem def_ok {modes : List Bool} {t : SS} (F : FunD K x qual params body scope [] [] f fd) (S : FnScope N ps scope) (hl : modes.length = ps.length)
    (der : ∀ (cdv : Value) (A : Around) (outer : List Env) (s : Shared) (H : Hp) (E : XK), Room k (ctx P w K mg base N qual scope f cdv A outer s H E).A → VSs (ctx P w K mg base N qual scope f cdv A outer s H E) cl W0 body t) :
    FnOk P w K mg base CX0' (k + 1) f fd ps (spFn ⟨P, w, K, cl⟩ modes (runF t modes N.length)) :=
  F.ok S (fun vs H Q E h => (spFn_len h).trans hl) fun cdv A outer s H vs Q E hr h => ⟨_, (der cdv A outer s H E hr).nox, pure_fn h⟩
theorem bx_ok {m : Nat} {t : SS} (F : FunD K x qual params body scope [] [] f fd) (S : FnScope N ps scope) (hl : m + 1 = ps.length)
    (der : ∀ (cdv : Value) (A : Around) (outer : List Env) (s : Shared) (H : Hp) (E : XK), Room k (ctx P w K mg base N qual scope f cdv A outer s H E).A → VSs (ctx P w K mg base N qual scope f cdv A outer s H E) cl W0 body t) :
    FnOk P w K mg base CX0' (k + 1) f fd ps (spBx ⟨P, w, K, cl⟩ (List.replicate m false) (runB t m N.length)) :=
  F.ok S (fun vs H Q E h => by rw [spBx_len h, List.length_replicate]; exact hl) fun cdv A outer s H vs Q E hr h => ⟨_, (der cdv A outer s H E hr).nox, pure_bx h⟩
end
end Ev
set_option Elab.async false
set_option linter.all false
set_option autoImplicit false
set_option maxRecDepth 100000
/-! What a law's text asks of its globals. -/
namespace Ev
open PySem L2 PySem.Spec PyProof.Rows
theorem hu65 {k : Nat} {A : Around} (hr : Room k A) : A.units + 65 < cLine := by have := hr.un; omega
structure GInt (mg : Str → Option Value) (x : Str) (n : Int) : Prop where
  ex : ∃ t, mg x = some (.int n t)
structure GStr (mg : Str → Option Value) (x z : Str) : Prop where
  ex : ∃ t, mg x = some (.str z t)
  ok : strB z = true
theorem GInt.ve {mg : Str → Option Value} {x : Str} {n : Int} (h : GInt mg x n) {X : Cx} {cl : Str → Option Addr} {W : WX} {pos : Pos} (e : X.mg = mg := by rfl) (hb : glB X x = true := by kernel_rfl) : VE X cl W (.Name x pos) (sC (.int n)) := by
  obtain ⟨t, ht⟩ := h.ex
  exact kGInt (t := t) (by rw [e]; exact ht) hb
theorem GStr.ve {mg : Str → Option Value} {x z : Str} (h : GStr mg x z) {X : Cx} {cl : Str → Option Addr} {W : WX} {pos : Pos} (e : X.mg = mg := by rfl) (hb : glB X x = true := by kernel_rfl) : VE X cl W (.Name x pos) (sC (.str z)) := by
  obtain ⟨t, ht⟩ := h.ex
  exact kGStr (t := t) (by rw [e]; exact ht) h.ok hb
/-- isinstance(.., a class of the text) -/
structure GIsi (K : PySem.W.Frag) (mg : Str → Option Value) (cl : Str → Option Addr) (c : Str) : Prop where
  ex : ∃ C, cl c = some C ∧ mg c = some (.ref C) ∧ (∀ (H : Hp) (a dx : Addr) (fs : List (Str × V)), H a = some (.ins C dx fs) → TyX K H (.ref a) (.ref C)) ∧ PySem.W.kitOne K (.ref C) (.ref C) = some true
  free : mg "isinstance" = none
theorem GIsi.ve {K : PySem.W.Frag} {mg : Str → Option Value} {cl : Str → Option Addr} {c : Str} (h : GIsi K mg cl c) {X : Cx} {W : WX} {pos p1 p2 : Pos} {e : Expr} {m : Sx Opd} (he : VO X cl W e m) (eK : X.K = K := by rfl) (eM : X.mg = mg := by rfl) (h1 : btB X "isinstance" (isB "isinstance") = true := by kernel_rfl) (h2 : glB X c = true := by kernel_rfl)
    (hs : starEach [e, .Name c p2] X.env = (false, eval e X.env) :: starEach [.Name c p2] X.env := by rfl) (hs2 : starEach [.Name c p2] X.env = (false, eval (.Name c p2) X.env) :: starEach [] X.env := by rfl) (hpl : (backTo pos (starEach [.Name c p2] X.env)).any (·.1) = false := by rfl) :
    VE X cl W (.Call (.Name "isinstance" p1) [e, .Name c p2] [] pos) (sPrim (pIsiO c) [m]) := by
  obtain ⟨C, hC, hm, hT, hk⟩ := h.ex
  obtain ⟨a, b, n, v, hv, hv2⟩ := btB_of h1
  obtain ⟨a2, b2⟩ := glB_of h2
  unfold isB at hv2
  split at hv2
  · have := beq_iff_eq.mp hv2
    subst this
    exact ve_isiO hC (by rw [eK]; exact hT) (by rw [eK]; exact hk) he a (by rw [eM]; exact h.free) hv n b a2 (by rw [eM]; exact hm) b2 hs hs2 hpl
  · cases hv2
/-- isinstance with a type of the boot's -/
def fIsi (T : String) (t : String) : Option Bool := if ["NoneType", "bool", "int", "str", "tuple", "list"].contains t = true then kitB t T else none
theorem fIsi_ok (T : String) : ∀ t b, fIsi T t = some b → kitB t T = some b := fun t b h => by
  unfold fIsi at h
  split at h
  · exact h
  · cases h
end Ev
set_option Elab.async false
set_option linter.all false
set_option autoImplicit false
set_option maxRecDepth 100000
/-! The head's facts: the hook with more to be seen. -/
namespace Ev
open PySem L2 PySem.Spec PyProof.Rows
def obsX (n : Nat) (fa : List He.Fa) (fn : List He.DefD) (ex : PySem.W.Frag → Bool) (gt : Addr → Option Obj) : Bool × He.AlD := (ex (He.frG gt (He.asD gt n)), He.obsD fa fn (He.frG gt (He.asD gt n)))
def SaysX (fa : List He.Fa) (fn : List He.DefD) (ex : PySem.W.Frag → Bool) (K : PySem.W.Frag) : Prop := ex K = true ∧ He.SaysD fa fn K
def hookX (n : Nat) (fa : List He.Fa) (fn : List He.DefD) (ex : PySem.W.Frag → Bool) : PySem.W.Hook where
  α := Bool × He.AlD
  obs := fun s => obsX n fa fn ex s.heap.get?
  val := fun _ => (true, He.valD fn)
  says := fun _ h => ∃ K : PySem.W.Frag, K.In h ∧ SaysX fa fn ex K
  of := fun _ _ e => ⟨_, He.frG_in, congrArg (fun z : Bool × He.AlD => z.1) e, congrArg (fun z : Bool × He.AlD => z.2) e⟩
  keeps := fun _ _ _ ⟨K, hK, c⟩ k => ⟨K, PySem.W.Frag.In.keeps hK k, c⟩
theorem obsX_eq {n : Nat} {fa : List He.Fa} {fn : List He.DefD} {ex : PySem.W.Frag → Bool} {gt : Addr → Option Obj} {s : Shared} (h : ∀ a, gt a = s.heap.get? a) : obsX n fa fn ex gt = (hookX n fa fn ex).obs s := by
  have e : gt = s.heap.get? := funext h
  rw [e] <;> rfl
/-- a class's instances are what isinstance asks -/
def isiK (c : Str) (K : PySem.W.Frag) : Bool := decide (PySem.W.findIn K (.ref (He.ga K c)) "__class__" = some (some (.builtin "object.__class__"))) && decide (PySem.W.specialIn K (.builtin "object.__class__") "__get__" = some (some (.builtin "getset_descriptor.__get__"))) &&
  decide (PySem.W.takesIn K (.builtin "object.__class__") = some true) && decide (PySem.W.mroIn K (He.ga K c) (.type "object") = some true) && decide (PySem.W.kitOne K (.ref (He.ga K c)) (.ref (He.ga K c)) = some true)
theorem gIsi {K : PySem.W.Frag} {mg : Str → Option Value} {cl : Str → Option Addr} {c : Str} (h : isiK c K = true) (hc : Cls K (He.ga K c)) (hcl : cl c = some (He.ga K c)) (hm : mg c = some (.ref (He.ga K c))) (hf : mg "isinstance" = none) : GIsi K mg cl c := by
  unfold isiK at h
  simp only [Bool.and_eq_true, decide_eq_true_eq] at h
  exact ⟨⟨_, hcl, hm, fun H a dx fs e => .base (.ins e hc h.1.1.1.1 h.1.1.1.2 h.1.1.2 h.1.2), h.2⟩, hf⟩
end Ev
set_option Elab.async false
set_option linter.all false
set_option autoImplicit false
set_option maxRecDepth 100000
/-! Evaluating: what the combinators give, by simp. -/
namespace Ev
open PySem
section
variable {i j : Int} {ds es : List D} {a b : Str} {x y : Bool}
@[simp] theorem pAdd_int : pAdd [.int i, .int j] = some (fz (.int (i + j))) := rfl
@[simp] theorem pSub_int : pSub [.int i, .int j] = some (fz (.int (i - j))) := rfl
theorem pMul_int (h : L2.CMul i j) : pMul [.int i, .int j] = some (fz (.int (i * j))) := if_pos h
@[simp] theorem pMul_r (n : Int) (h : -(2 ^ 64) < n ∧ n < 2 ^ 64) : pMul [.int i, .int n] = some (fz (.int (i * n))) := if_pos (.inr h)
@[simp] theorem pMul_l (n : Int) (h : -(2 ^ 64) < n ∧ n < 2 ^ 64) : pMul [.int n, .int i] = some (fz (.int (n * i))) := if_pos (.inl h)
@[simp] theorem pMod_int (h : j ≠ 0) : pMod [.int i, .int j] = some (fz (.int (i.fmod j))) := if_pos h
@[simp] theorem pFdiv_int (h : j ≠ 0 ∧ j.natAbs < 1073741824) : pFdiv [.int i, .int j] = some (fz (.int (i.fdiv j))) := if_pos h
@[simp] theorem pPow_int (h : 0 ≤ j ∧ j ≤ 1000000 ∧ i.natAbs < 2 ^ 64) : pPow [.int i, .int j] = some (fz (.int (i ^ j.toNat))) := if_pos h
theorem pAdd_str (h : a.length + b.length ≤ sizeLine) : pAdd [.str a, .str b] = some (fz (.str (a ++ b))) := if_pos h
theorem pAdd_lst (h : ds.length + es.length ≤ sizeLine) : pAdd [.lst ds, .lst es] = some (nw (.lst (ds ++ es))) := if_pos h
theorem pAdd_tup (h : ds.length + es.length ≤ sizeLine) : pAdd [.tup ds, .tup es] = some (fz (.tup (ds ++ es))) := if_pos h
@[simp] theorem pNeg1_int : pNeg1 [.int i] = some (fz (.int (-i))) := rfl
@[simp] theorem pLt_int : pLt [.int i, .int j] = some (fz (.bl (decide (i < j)))) := rfl
@[simp] theorem pLe_int : pLe [.int i, .int j] = some (fz (.bl (decide (i ≤ j)))) := rfl
@[simp] theorem pGt_int : pGt [.int i, .int j] = some (fz (.bl (decide (j < i)))) := rfl
@[simp] theorem pGe_int : pGe [.int i, .int j] = some (fz (.bl (decide (j ≤ i)))) := rfl
@[simp] theorem pLt_str : pLt [.str a, .str b] = some (fz (.bl (decide (a.cps.toList < b.cps.toList)))) := rfl
@[simp] theorem pIxA_lst : pIxA [.lst ds, .int i] = (L2.atI ds i).map fz := by
  unfold pIxA orP
  show (match (L2.atI ds i).map fz with | some v => some v | none => pDIx [.lst ds, .int i]) = _
  cases L2.atI ds i <;> rfl
@[simp] theorem pIxA_tup : pIxA [.tup ds, .int i] = (L2.atI ds i).map fz := by
  unfold pIxA orP
  show (match (L2.atI ds i).map fz with | some v => some v | none => pDIx [.tup ds, .int i]) = _
  cases L2.atI ds i <;> rfl
@[simp] theorem pIxA_scr {ns : List Int} : pIxA [.scr ns, .int i] = (L2.atI ns i).map fun n => fz (.int n) := by
  unfold pIxA orP
  show (match (L2.atI ns i).map (fun n => fz (.int n)) with | some v => some v | none => pDIx [.scr ns, .int i]) = _
  cases L2.atI ns i <;> rfl
@[simp] theorem pIxA_dic {kvs : List (D × D)} {k : D} : pIxA [.dic kvs, k] = if dkOk kvs k = true then (dget kvs k).map fz else none := by
  unfold pIxA orP
  have : pIx [.dic kvs, k] = none := by cases k <;> rfl
  rw [this]
  rfl
@[simp] theorem pLenA_lst : pLenA [.lst ds] = some (fz (.int ds.length)) := rfl
@[simp] theorem pLenA_tup : pLenA [.tup ds] = some (fz (.int ds.length)) := rfl
@[simp] theorem pLenA_str : pLenA [.str a] = some (fz (.int a.length)) := rfl
@[simp] theorem pLenA_scr {ns : List Int} : pLenA [.scr ns] = some (fz (.int ns.length)) := rfl
@[simp] theorem pLenA_dic {kvs : List (D × D)} : pLenA [.dic kvs] = some (fz (.int kvs.length)) := rfl
@[simp] theorem pInt_int : pInt [.int i] = some (fz (.int i)) := rfl
@[simp] theorem pInt_bl : pInt [.bl x] = some (fz (.int (if x then 1 else 0))) := rfl
@[simp] theorem pAbs_int : pAbs [.int i] = some (fz (.int (if i < 0 then -i else i))) := rfl
@[simp] theorem pList_lst : pList [.lst ds] = some (nw (.lst ds)) := rfl
@[simp] theorem pList_tup : pList [.tup ds] = some (nw (.lst ds)) := rfl
@[simp] theorem pTuple_lst : pTuple [.lst ds] = some (fz (.tup ds)) := rfl
@[simp] theorem pTuple_tup : pTuple [.tup ds] = some (fz (.tup ds)) := rfl
@[simp] theorem pAll_bls (l : List Bool) : pAll [.lst (l.map D.bl)] = some (fz (.bl (l.all id))) := by show (D.bools (l.map D.bl)).map _ = _; rw [bools_map]; rfl
@[simp] theorem pAny_bls (l : List Bool) : pAny [.lst (l.map D.bl)] = some (fz (.bl (l.any id))) := by show (D.bools (l.map D.bl)).map _ = _; rw [bools_map]; rfl
@[simp] theorem pAppend_lst {d : D} (h : ds.length < sizeLine) : pAppend (.lst ds) [d] = some (.non, .lst (ds ++ [d])) := if_pos h
@[simp] theorem pExtend_lst (h : ds.length + es.length ≤ sizeLine) : pExtend (.lst ds) [.lst es] = some (.non, .lst (ds ++ es)) := if_pos h
@[simp] theorem atI0 {α : Type} {x : α} {l : List α} : L2.atI (x :: l) 0 = some x := by
  have : L2.ixN (x :: l).length 0 = some 0 := by unfold L2.ixN; rw [if_pos (by decide), if_pos (by simp)]; rfl
  unfold L2.atI
  rw [this]; rfl
@[simp] theorem atI1 {α : Type} {x y : α} {l : List α} : L2.atI (x :: y :: l) 1 = some y := by
  have : L2.ixN (x :: y :: l).length 1 = some 1 := by unfold L2.ixN; rw [if_pos (by decide), if_pos (by simp; omega)]; rfl
  unfold L2.atI
  rw [this]; rfl
@[simp] theorem atI2 {α : Type} {x y z : α} {l : List α} : L2.atI (x :: y :: z :: l) 2 = some z := by
  have : L2.ixN (x :: y :: z :: l).length 2 = some 2 := by unfold L2.ixN; rw [if_pos (by decide), if_pos (by simp; omega)]; rfl
  unfold L2.atI
  rw [this]; rfl
theorem atI_nat {α : Type} {l : List α} {i : Int} {n : Nat} (h : i = n) (hl : n < l.length) : L2.atI l i = some l[n] := by
  subst h
  have : L2.ixN l.length (n : Int) = some n := by unfold L2.ixN; rw [if_pos (by omega), if_pos (by omega)]; simp
  unfold L2.atI
  rw [this]
  simp [hl]
theorem atI_map {α β : Type} (f : α → β) (l : List α) (i : Int) : L2.atI (l.map f) i = (L2.atI l i).map f := by
  unfold L2.atI
  rw [List.length_map]
  cases L2.ixN l.length i with
  | none => rfl
  | some j => simp
@[simp] theorem pSetL_1 {x0 d v : D} : pSetL (.lst (x0 :: d :: ds)) [.int 1, v] = some (.lst (x0 :: v :: ds)) := by
  have : L2.ixN (x0 :: d :: ds).length 1 = some 1 := by unfold L2.ixN; rw [if_pos (by decide), if_pos (by simp; omega)]; rfl
  show (L2.ixN (x0 :: d :: ds).length 1).map _ = _
  rw [this]; rfl
@[simp] theorem truth_bl : truth (.bl x) = some x := rfl
@[simp] theorem truth_int : truth (.int i) = some (i != 0) := rfl
@[simp] theorem truth_lst : truth (.lst ds) = some (!ds.isEmpty) := rfl
end
/-- one step of evaluating -/
theorem sThen_nx {a b : SS} {e e' : En} (h : a e = .nx e') : sThen a b e = b e' := by unfold sThen; rw [h]
theorem sThen_rt {a b : SS} {e e' : En} {v : Vl} (h : a e = .rt v e') : sThen a b e = .rt v e' := by unfold sThen; rw [h]
theorem sIfS_t {t : Sx Bool} {a b : SS} {e e' : En} (h : t e = .ok true e') : sIfS t a b e = a e' := by unfold sIfS; rw [h]; rfl
theorem sIfS_f {t : Sx Bool} {a b : SS} {e e' : En} (h : t e = .ok false e') : sIfS t a b e = b e' := by unfold sIfS; rw [h]; rfl
/-! ### the combinators, unfolded -/
section
variable {α : Type} {e : En} {m n : Sx Vl} {o o1 o2 : Sx Opd} {os : List (Sx Opd)} {t u : Sx Bool} {a b : SS} {i : Nat} {p q : List D → Option Vl}
@[simp] theorem e_skip : sSkip e = .nx e := rfl
@[simp] theorem e_then : sThen a b e = (match a e with | .nx e' => b e' | r => r) := rfl
@[simp] theorem e_asg : sAsg m i e = (match m e with | .ok v e' => .nx (e'.set i v.slot) | .exc x e' => .exc x e' | .stuck => .stuck) := rfl
@[simp] theorem e_ifS : sIfS t a b e = (match t e with | .ok k e' => if k = true then a e' else b e' | .exc x e' => .exc x e' | .stuck => .stuck) := rfl
@[simp] theorem e_ret : sRet m e = (match m e with | .ok v e' => .rt v e' | .exc x e' => .exc x e' | .stuck => .stuck) := rfl
@[simp] theorem e_retName : sRetName i e = (match e[i]? with | some (.sh d) => .rt (fz d) e | some (.ow d) => .rt (nw d) (e.set i .unb) | _ => .stuck) := rfl
@[simp] theorem e_drop : sDrop m e = (match m e with | .ok _ e' => .nx e' | .exc x e' => .exc x e' | .stuck => .stuck) := rfl
@[simp] theorem e_c {d : D} : sC d e = .ok (fz d) e := rfl
@[simp] theorem e_name : sName i e = (match e[i]? with | some (.sh d) => .ok (fz d) e | some (.ow d) => .ok (fz d) (e.set i (.sh d)) | _ => .stuck) := rfl
@[simp] theorem e_oName : oName i e = (match e[i]? with | some s => (match s.look with | some _ => .ok (.sl i) e | none => .stuck) | none => .stuck) := rfl
@[simp] theorem e_oVal : oVal m e = (m e).bind fun v e => .ok (.dt v.d) e := rfl
@[simp] theorem e_ops0 : sOps [] e = .ok [] e := rfl
@[simp] theorem e_ops1 : sOps (o :: os) e = (o e).bind fun x e => (sOps os e).bind fun xs e => .ok (x :: xs) e := rfl
@[simp] theorem e_args : sArgs os e = (sOps os e).bind fun xs e => (match ress e xs with | some ds => .ok ds e | none => .stuck) := rfl
@[simp] theorem e_prim : sPrim p os e = (sArgs os e).bind fun ds e => (match p ds with | some v => .ok v e | none => .stuck) := rfl
@[simp] theorem e_look0 : Slot.look .unb = none := rfl
@[simp] theorem e_look1 {d : D} : Slot.look (.sh d) = some d := rfl
@[simp] theorem e_look2 {d : D} : Slot.look (.ow d) = some d := rfl
@[simp] theorem e_look3 {d : D} : Slot.look (.bx d) = some d := rfl
@[simp] theorem e_look4 {d : D} : Slot.look (.ro d) = some d := rfl
@[simp] theorem e_res0 {d : D} : res e (.dt d) = some d := rfl
@[simp] theorem e_res1 : res e (.sl i) = (match e[i]? with | some s => s.look | none => none) := rfl
@[simp] theorem e_ress0 : ress e [] = some [] := rfl
@[simp] theorem e_ress1 {x : Opd} {xs : List Opd} : ress e (x :: xs) = (match res e x, ress e xs with | some d, some ds => some (d :: ds) | _, _ => none) := rfl
@[simp] theorem e_slot0 {d : D} : Vl.slot (fz d) = .sh d := rfl
@[simp] theorem e_slot1 {d : D} : Vl.slot (nw d) = .ow d := rfl
@[simp] theorem e_box {v : Vl} {d : D} {l : En} : boxOf v (Slot.bx d :: l) = .ok v d := rfl
@[simp] theorem e_tBool : tBool m e = (m e).bind fun v e => (match v.d with | .bl b => .ok b e | _ => .stuck) := rfl
@[simp] theorem e_tVal : tVal o e = (sArgs [o] e).bind fun ds e => (match ds with | [d] => (match truth d with | some b => .ok b e | none => .stuck) | _ => .stuck) := rfl
@[simp] theorem e_tNot : tNot t e = (t e).bind fun b e => .ok (!b) e := rfl
@[simp] theorem e_tAnd : tAnd t u e = (t e).bind fun b e => if b = true then u e else .ok false e := rfl
@[simp] theorem e_tOr : tOr t u e = (t e).bind fun b e => if b = true then .ok true e else u e := rfl
@[simp] theorem e_tTrue : tTrue e = .ok true e := rfl
@[simp] theorem e_if {f g : Sx α} : sIf t f g e = (t e).bind fun k e => if k = true then f e else g e := rfl
@[simp] theorem e_and : sAnd m n e = (m e).bind fun v e => (match v.d with | .bl true => n e | .bl false => .ok (fz (.bl false)) e | _ => .stuck) := rfl
@[simp] theorem e_or : sOr m n e = (m e).bind fun v e => (match v.d with | .bl true => .ok (fz (.bl true)) e | .bl false => n e | _ => .stuck) := rfl
@[simp] theorem e_not : sNot o e = (tVal o e).bind fun b e => .ok (fz (.bl (!b))) e := rfl
@[simp] theorem e_tup : sTup os e = (sOps os e).bind fun xs e => (match dts xs with | some ds => if ds.length ≤ sizeLine then .ok (fz (.tup ds)) e else .stuck | none => .stuck) := rfl
@[simp] theorem e_lst : sLst os e = (sOps os e).bind fun xs e => (match dts xs with | some ds => if ds.length ≤ sizeLine then .ok (nw (.lst ds)) e else .stuck | none => .stuck) := rfl
@[simp] theorem e_dts0 : dts [] = some [] := rfl
@[simp] theorem e_dts1 {d : D} {xs : List Opd} : dts (.dt d :: xs) = (dts xs).map (d :: ·) := rfl
@[simp] theorem e_modes0 : okModes [] [] = true := rfl
@[simp] theorem e_modes1 {d : D} {bs : List Bool} {xs : List Opd} : okModes (false :: bs) (.dt d :: xs) = okModes bs xs := rfl
@[simp] theorem e_ofRes0 {v : Vl} : ofRes (.ok v) e = .ok v e := rfl
@[simp] theorem e_call {bs : List Bool} {F : List D → Res Vl} : sCall bs F os e = (sOps os e).bind fun xs e => if okModes bs xs = true then (match ress e xs with | some ds => ofRes (F ds) e | none => .stuck) else .stuck := rfl
@[simp] theorem e_setF {at_ : Str → Str → Bool} {f : Str} : sSetF at_ f i m e = (match m e with
  | .ok v e1 => (match e1[i]? with
    | some (.ow (.obj c fs)) => if at_ c f = true ∧ fs.length < 1000 then .nx (e1.set i (.ow (.obj c (putD f v.d fs)))) else .stuck
    | some (.bx (.obj c fs)) => if at_ c f = true ∧ fs.length < 1000 then .nx (e1.set i (.bx (.obj c (putD f v.d fs)))) else .stuck
    | _ => .stuck)
  | .exc x e1 => .exc x e1
  | .stuck => .stuck) := rfl
@[simp] theorem e_lines {n : Nat} (h : n ≤ 1000) : n ≤ sizeLine := by rw [sizeLine_eq]; omega
@[simp] theorem e_isL {ds : List D} : MTy.is .lst (.lst ds) = true := rfl
@[simp] theorem e_isD {ds : List (D × D)} : MTy.is .dic (.dic ds) = true := rfl
@[simp] theorem e_meth {T : MTy} {f : D → List D → Option (D × D)} {bs : List Bool} : sMeth T f bs i os e = (match res e (.sl i) with
  | some d0 => if T.is d0 = true then (sOps os e).bind fun xs e => if okModes bs xs = true then (match ress e xs, e[i]? with
    | some ds, some (.ow d) => (match f d ds with
      | some (v, d') => .ok (fz v) (e.set i (.ow d'))
      | none => .stuck)
    | some ds, some (.bx d) => (match f d ds with
      | some (v, d') => .ok (fz v) (e.set i (.bx d'))
      | none => .stuck)
    | _, _ => .stuck) else .stuck else .stuck
  | none => .stuck) := rfl
@[simp] theorem e_callB {bs : List Bool} {F : D → List D → ResB} : sCallB bs F i os e = (sOps (oName i :: os) e).bind fun xs e => (match xs with
  | _ :: xs => if okModes bs xs = true then (match ress e xs, e[i]? with
    | some ds, some (.ow d) => (match F d ds with
      | .ok v d' => .ok v (e.set i (.ow d'))
      | _ => .stuck)
    | some ds, some (.bx d) => (match F d ds with
      | .ok v d' => .ok v (e.set i (.bx d'))
      | _ => .stuck)
    | _, _ => .stuck) else .stuck
  | [] => .stuck) := rfl
@[simp] theorem e_range1 {n : Int} (h : -(2 ^ 62) ≤ n ∧ n < 2 ^ 62 ∧ n.toNat ≤ sizeLine) (hm : m e = .ok (fz (.int n)) e) : sRange [oVal m] e = .ok ⟨(List.range n.toNat).map fun (k : Nat) => .int (0 + (k : Nat)), none⟩ e := by
  unfold sRange
  simp only [e_args, e_ops1, e_ops0, e_oVal, hm, Out.bind_ok, e_ress1, e_ress0, e_res0]
  exact if_pos h
end
end Ev
set_option Elab.async false
set_option linter.all false
set_option autoImplicit false
set_option maxRecDepth 100000
/-! Loops and comprehensions, by invariants. -/
namespace Ev
open PySem
theorem forGo_inv {tg : Tg} {b : SS} (I : Nat → En → Prop) : ∀ (xs : List D) (j : Nat) (e : En), I j e → (∀ i (hi : i < xs.length) e, I (j + i) e → ∃ e1, setTg tg xs[i] e = some e1 ∧ ∃ e2, b e1 = .nx e2 ∧ I (j + i + 1) e2) →
    ∃ e', forGo tg b xs e = .nx e' ∧ I (j + xs.length) e'
  | [], j, e, h0, _ => ⟨e, rfl, h0⟩
  | x :: xs, j, e, h0, step => by
    obtain ⟨e1, h1, e2, h2, h3⟩ := step 0 (by simp) e h0
    obtain ⟨e', h4, h5⟩ := forGo_inv I xs (j + 1) e2 h3 (fun i hi e he => by
      have := step (i + 1) (by simp; omega) e (by rw [show j + (i + 1) = j + 1 + i from by omega]; exact he)
      rw [show j + 1 + i + 1 = j + (i + 1) + 1 from by omega]
      simpa using this)
    refine ⟨e', ?_, by rw [List.length_cons, show j + (xs.length + 1) = j + 1 + xs.length from by omega]; exact h5⟩
    have h1' : setTg tg x e = some e1 := h1
    unfold forGo
    rw [h1']
    show (match b e1 with | .nx e2 => forGo tg b xs e2 | .ct e2 => forGo tg b xs e2 | .bk e2 => .nx e2 | r => r) = _
    rw [h2]
    exact h4
/-- .. or it returns -/
theorem forGo_ret {tg : Tg} {b : SS} (I : Nat → En → Prop) (P : Vl → Prop) : ∀ (xs : List D) (j : Nat) (e : En), I j e →
    (∀ i (hi : i < xs.length) e, I (j + i) e → ∃ e1, setTg tg xs[i] e = some e1 ∧ ((∃ e2, b e1 = .nx e2 ∧ I (j + i + 1) e2) ∨ ∃ v e2, b e1 = .rt v e2 ∧ P v)) →
    (∃ e', forGo tg b xs e = .nx e' ∧ I (j + xs.length) e') ∨ ∃ v e', forGo tg b xs e = .rt v e' ∧ P v
  | [], j, e, h0, _ => .inl ⟨e, rfl, h0⟩
  | x :: xs, j, e, h0, step => by
    obtain ⟨e1, h1, h⟩ := step 0 (by simp) e h0
    have h1' : setTg tg x e = some e1 := h1
    have go : ∀ r, (match b e1 with | .nx e2 => forGo tg b xs e2 | .ct e2 => forGo tg b xs e2 | .bk e2 => .nx e2 | r => r) = r → forGo tg b (x :: xs) e = r := fun r hr => by
      unfold forGo
      rw [h1']
      exact hr
    rcases h with ⟨e2, h2, h3⟩ | ⟨v, e2, h2, h3⟩
    · rcases forGo_ret I P xs (j + 1) e2 h3 (fun i hi e he => by
        have := step (i + 1) (by simp; omega) e (by rw [show j + (i + 1) = j + 1 + i from by omega]; exact he)
        rw [show j + 1 + i + 1 = j + (i + 1) + 1 from by omega]
        simpa using this) with ⟨e', h4, h5⟩ | ⟨v, e', h4, h5⟩
      · exact .inl ⟨e', go _ (by rw [h2]; exact h4), by rw [List.length_cons, show j + (xs.length + 1) = j + 1 + xs.length from by omega]; exact h5⟩
      · exact .inr ⟨v, e', go _ (by rw [h2]; exact h4), h5⟩
    · exact .inr ⟨v, e2, go _ (by rw [h2]), h3⟩
theorem sFor_of {tg : Tg} {s : Sx Src} {b : SS} {e e1 : En} {src : Src} (h : s e = .ok src e1) (hc : src.chk = none) : sFor tg s b e = forGo tg b src.items e1 := by
  unfold sFor
  rw [h]
  show (match src.chk with | none => forGo tg b src.items e1 | some _ => .stuck) = _
  rw [hc]
/-- while: a measure falls -/
theorem whileGo_inv {t : Sx Bool} {b : SS} (I : Nat → En → Prop) (E : En → Prop) (P : Vl → Prop) : ∀ (n m : Nat) (e : En), m < n → I m e →
    (∀ m e, I m e → (∃ e1, t e = .ok false e1 ∧ E e1) ∨ ∃ e1, t e = .ok true e1 ∧ ((∃ e2 m', b e1 = .nx e2 ∧ m' < m ∧ I m' e2) ∨ ∃ v e2, b e1 = .rt v e2 ∧ P v)) →
    (∃ e', whileGo t b n e = .nx e' ∧ E e') ∨ ∃ v e', whileGo t b n e = .rt v e' ∧ P v
  | 0, m, e, hm, _, _ => by omega
  | n + 1, m, e, hm, hI, step => by
    unfold whileGo
    rcases step m e hI with ⟨e1, h1, h2⟩ | ⟨e1, h1, ⟨e2, m', h2, h3, h4⟩ | ⟨v, e2, h2, h3⟩⟩
    · exact .inl ⟨e1, by rw [h1]; rfl, h2⟩
    · rcases whileGo_inv I E P n m' e2 (by omega) h4 step with ⟨e', g1, g2⟩ | ⟨v, e', g1, g2⟩
      · exact .inl ⟨e', by rw [h1]; show (match b e1 with | .nx e2 => whileGo t b n e2 | .ct e2 => whileGo t b n e2 | .bk e2 => .nx e2 | r => r) = _; rw [h2]; exact g1, g2⟩
      · exact .inr ⟨v, e', by rw [h1]; show (match b e1 with | .nx e2 => whileGo t b n e2 | .ct e2 => whileGo t b n e2 | .bk e2 => .nx e2 | r => r) = _; rw [h2]; exact g1, g2⟩
    · exact .inr ⟨v, e2, by rw [h1]; show (match b e1 with | .nx e2 => whileGo t b n e2 | .ct e2 => whileGo t b n e2 | .bk e2 => .nx e2 | r => r) = _; rw [h2], h3⟩
/-! ### comprehensions -/
theorem noX_of {α : Type} {m : Sx α} {e e' : En} {a : α} (h : m e = .ok a e') : noX m e = .ok a e' := by unfold noX; rw [h]
theorem compGo_inv {s : Src} {vs : List Nat} {tg : Tg} {t : Sx Bool} {el : Sx Opd} (I : Nat → En → List D → Prop) (ok : ∀ i e acc, I i e acc → s.ok e) : ∀ (xs : List D) (j : Nat) (e : En) (acc : List D), I j e acc →
    (∀ i (hi : i < xs.length) e acc, I (j + i) e acc → ∃ e1, setTg tg xs[i] e = some e1 ∧ ∃ k e2, t e1 = .ok k e2 ∧ (k = true → ∃ d e3, el e2 = .ok (.dt d) e3 ∧ I (j + i + 1) (wipeE vs e3) (acc ++ [d])) ∧ (k = false → I (j + i + 1) (wipeE vs e2) acc)) →
    ∃ ds e', compGo s vs tg t el xs e = .ok ds e' ∧ I (j + xs.length) e' (acc ++ ds)
  | [], j, e, acc, h0, _ => ⟨[], e, by unfold compGo; rw [if_pos (ok _ _ _ h0)], by rw [List.append_nil]; exact h0⟩
  | x :: xs, j, e, acc, h0, step => by
    obtain ⟨e1, h1, k, e2, h2, h3, h4⟩ := step 0 (by simp) e acc h0
    have h1' : setTg tg x e = some e1 := h1
    have step' : ∀ i (hi : i < xs.length) e acc, I (j + 1 + i) e acc → ∃ e1, setTg tg xs[i] e = some e1 ∧ ∃ k e2, t e1 = .ok k e2 ∧ (k = true → ∃ d e3, el e2 = .ok (.dt d) e3 ∧ I (j + 1 + i + 1) (wipeE vs e3) (acc ++ [d])) ∧ (k = false → I (j + 1 + i + 1) (wipeE vs e2) acc) := fun i hi e acc he => by
      have := step (i + 1) (by simp; omega) e acc (by rw [show j + (i + 1) = j + 1 + i from by omega]; exact he)
      rw [show j + 1 + i + 1 = j + (i + 1) + 1 from by omega]
      simpa using this
    unfold compGo
    rw [if_pos (ok _ _ _ h0), h1']
    show ∃ ds e', ((noX t e1).bind fun k e2 => if k = true then ((noX el e2).bind fun o e3 => match o with
        | .dt d => (compGo s vs tg t el xs (wipeE vs e3)).bind fun ds e4 => .ok (d :: ds) e4
        | .sl _ => .stuck)
      else compGo s vs tg t el xs (wipeE vs e2)) = .ok ds e' ∧ _
    rw [noX_of h2, Out.bind_ok]
    cases k with
    | true =>
      obtain ⟨d, e3, h5, h6⟩ := h3 rfl
      obtain ⟨ds, e', h7, h8⟩ := compGo_inv I ok xs (j + 1) _ _ h6 step'
      refine ⟨d :: ds, e', ?_, ?_⟩
      · rw [if_pos rfl, noX_of h5, Out.bind_ok]
        show (compGo s vs tg t el xs (wipeE vs e3)).bind _ = _
        rw [h7]; rfl
      · rw [List.append_assoc] at h8
        rw [List.length_cons, show j + (xs.length + 1) = j + 1 + xs.length from by omega]
        exact h8
    | false =>
      obtain ⟨ds, e', h7, h8⟩ := compGo_inv I ok xs (j + 1) _ _ (h4 rfl) step'
      refine ⟨ds, e', ?_, by rw [List.length_cons, show j + (xs.length + 1) = j + 1 + xs.length from by omega]; exact h8⟩
      rw [if_neg Bool.false_ne_true]
      exact h7
/-- where the slots come back as they were -/
theorem compGo_map {s : Src} {vs : List Nat} {tg : Tg} {t : Sx Bool} {el : Sx Opd} {e : En} (p : D → Bool) (f : D → D) (ok : s.ok e) : ∀ (xs : List D),
    (∀ x ∈ xs, ∃ e1, setTg tg x e = some e1 ∧ ∃ e2, t e1 = .ok (p x) e2 ∧ (p x = true → ∃ e3, el e2 = .ok (.dt (f x)) e3 ∧ wipeE vs e3 = e) ∧ (p x = false → wipeE vs e2 = e)) →
    compGo s vs tg t el xs e = .ok ((xs.filter p).map f) e
  | [], _ => by unfold compGo; rw [if_pos ok]; rfl
  | x :: xs, step => by
    obtain ⟨e1, h1, e2, h2, h3, h4⟩ := step x List.mem_cons_self
    have ih := compGo_map p f ok xs fun y hy => step y (List.mem_cons_of_mem _ hy)
    unfold compGo
    rw [if_pos ok, h1]
    show ((noX t e1).bind fun k e2 => if k = true then ((noX el e2).bind fun o e3 => match o with
        | .dt d => (compGo s vs tg t el xs (wipeE vs e3)).bind fun ds e4 => .ok (d :: ds) e4
        | .sl _ => .stuck)
      else compGo s vs tg t el xs (wipeE vs e2)) = _
    rw [noX_of h2, Out.bind_ok]
    cases hp : p x with
    | true =>
      obtain ⟨e3, h5, h6⟩ := h3 hp
      rw [if_pos rfl, noX_of h5, Out.bind_ok]
      show (compGo s vs tg t el xs (wipeE vs e3)).bind _ = _
      rw [h6, ih, List.filter_cons, if_pos hp]
      rfl
    | false =>
      rw [if_neg Bool.false_ne_true, h4 hp, ih, List.filter_cons, if_neg (by rw [hp]; exact Bool.false_ne_true)]
theorem sComp_of {vs : List Nat} {tg : Tg} {s : Sx Src} {t : Sx Bool} {el : Sx Opd} {e e1 e2 : En} {src : Src} {ds : List D} (h : s e = .ok src e1) (hc : (hidOk vs e1 && src.apart vs && tg.ix.all vs.contains) = true) (hg : compGo src vs tg t el src.items (wipeE vs e1) = .ok ds e2) :
    sComp vs tg s t el e = .ok (nw (.lst ds)) (restoreE vs e1 e2) := by
  unfold sComp
  rw [h, Out.bind_ok, if_pos hc, hg]
  rfl
end Ev
set_option Elab.async false
set_option linter.all false
set_option autoImplicit false
set_option maxRecDepth 100000
set_option maxHeartbeats 1000000
namespace Ev
open PySem
theorem wipe_set (vs : List Nat) (i : Nat) (s : Slot) (e : En) (h : i ∈ vs) : wipeE vs (e.set i s) = wipeE vs e := by
  induction vs with
  | nil => cases h
  | cons v vs ih =>
    show (wipeE vs (e.set i s)).set v .unb = (wipeE vs e).set v .unb
    by_cases hi : i ∈ vs
    · rw [ih hi]
    · have hv : i = v := by
        cases h with
        | head => rfl
        | tail _ h => exact absurd h hi
      subst hv
      clear ih h
      have : ∀ (vs : List Nat) (e : En), i ∉ vs → wipeE vs (e.set i s) = (wipeE vs e).set i s := by
        intro vs
        induction vs with
        | nil => intro e _; rfl
        | cons w vs ih =>
          intro e hn
          show (wipeE vs (e.set i s)).set w .unb = ((wipeE vs e).set w .unb).set i s
          rw [ih e (fun q => hn (.tail _ q)), List.set_comm]
          rintro rfl
          exact hn (.head _)
      rw [this vs e hi, List.set_set]
theorem wipe_many (vs : List Nat) : ∀ (is : List Nat) (ds : List D) (e e1 : En), setMany is ds e = some e1 → (∀ i ∈ is, i ∈ vs) → wipeE vs e1 = wipeE vs e
  | [], [], e, e1, h, _ => by cases h; rfl
  | i :: is, d :: ds, e, e1, h, hm => by
    rw [wipe_many vs is ds _ e1 h (fun j hj => hm j (.tail _ hj)), wipe_set vs i _ _ (hm i (.head _))]
  | [], _ :: _, _, _, h, _ => by cases h
  | _ :: _, [], _, _, h, _ => by cases h
theorem wipe_tg {vs : List Nat} {tg : Tg} {d : D} {e e1 : En} (h : setTg tg d e = some e1) (hm : tg.ix.all vs.contains = true) : wipeE vs e1 = wipeE vs e := by
  have hm' : ∀ i ∈ tg.ix, i ∈ vs := fun i hi => by simpa using List.all_eq_true.mp hm i hi
  cases tg with
  | one i => cases h; exact wipe_set vs i _ _ (hm' i (.head _))
  | many is =>
    cases d with
    | tup ds => exact wipe_many vs is ds e e1 h hm'
    | _ => cases h
theorem wipe_len (vs : List Nat) (e : En) : (wipeE vs e).length = e.length := by
  induction vs with
  | nil => rfl
  | cons v vs ih => show ((wipeE vs e).set v .unb).length = _; rw [List.length_set, ih]
theorem wipe_idem (vs : List Nat) (e : En) : wipeE vs (wipeE vs e) = wipeE vs e := by
  have : ∀ (us : List Nat), (∀ u ∈ us, u ∈ vs) → wipeE vs (wipeE us e) = wipeE vs e := by
    intro us
    induction us with
    | nil => intro _; rfl
    | cons u us ih =>
      intro h
      show wipeE vs ((wipeE us e).set u .unb) = _
      rw [wipe_set vs u _ _ (h u (.head _)), ih fun w hw => h w (.tail _ hw)]
  exact this vs fun _ h => h
theorem wipe_out (vs : List Nat) (e : En) (j : Nat) (h : j ∉ vs) : (wipeE vs e)[j]? = e[j]? := by
  induction vs with
  | nil => rfl
  | cons v vs ih =>
    show ((wipeE vs e).set v .unb)[j]? = _
    rw [List.getElem?_set_ne (by rintro rfl; exact h (.head _)), ih fun q => h (.tail _ q)]
theorem restore_in (e : En) (j : Nat) : ∀ (us : List Nat) (e' : En), e'.length = e.length → (j ∈ us ∨ e'[j]? = e[j]?) → (restoreE us e e')[j]? = e[j]? ∧ (restoreE us e e').length = e.length
  | [], e', hl, h => by
    rcases h with h | h
    · cases h
    · exact ⟨h, hl⟩
  | v :: us, e', hl, h => by
    show (match e[v]? with | some s => (restoreE us e e').set v s | none => restoreE us e e')[j]? = _ ∧ (match e[v]? with | some s => (restoreE us e e').set v s | none => restoreE us e e').length = _
    have hlen : (restoreE us e e').length = e.length := by
      have : ∀ us : List Nat, (restoreE us e e').length = e.length := by
        intro us
        induction us with
        | nil => exact hl
        | cons w us ih =>
          show (match e[w]? with | some s => (restoreE us e e').set w s | none => restoreE us e e').length = _
          cases e[w]? with
          | none => exact ih
          | some s => simp [ih]
      exact this us
    cases hv : e[v]? with
    | none =>
      show (restoreE us e e')[j]? = _ ∧ (restoreE us e e').length = _
      refine ⟨?_, hlen⟩
      by_cases hj : j = v
      · subst hj
        rw [hv, List.getElem?_eq_none]
        rw [hlen]
        exact List.getElem?_eq_none_iff.mp hv
      · exact (restore_in e j us e' hl (h.imp (fun q => by cases q with | head => exact absurd rfl hj | tail _ q => exact q) id)).1
    | some s =>
      show ((restoreE us e e').set v s)[j]? = _ ∧ ((restoreE us e e').set v s).length = _
      refine ⟨?_, by simp [hlen]⟩
      by_cases hj : j = v
      · subst hj
        have hlt : j < e.length := (List.getElem?_eq_some_iff.mp hv).1
        rw [List.getElem?_set_self (by omega), hv]
      · rw [List.getElem?_set_ne (Ne.symm hj)]
        exact (restore_in e j us e' hl (h.imp (fun q => by cases q with | head => exact absurd rfl hj | tail _ q => exact q) id)).1
theorem restore_wipe (vs : List Nat) (e : En) : restoreE vs e (wipeE vs e) = e := by
  refine List.ext_getElem? fun j => ?_
  refine (restore_in e j vs _ (wipe_len vs e) ?_).1
  by_cases h : j ∈ vs
  · exact .inl h
  · exact .inr (wipe_out vs e j h)
/-- a comprehension without effects over an encoded list -/
theorem sComp_pure {α : Type} (enc : α → D) (xs : List α) (p : α → Bool) (f : α → D) {vs : List Nat} {tg : Tg} {s : Sx Src} {t : Sx Bool} {el : Sx Opd} {e : En} {ck : Option (Nat × D)}
    (h : s e = .ok ⟨xs.map enc, ck⟩ e) (hc : (hidOk vs e && (Src.apart ⟨[], ck⟩ vs) && tg.ix.all vs.contains) = true) (ok : Src.ok ⟨[], ck⟩ (wipeE vs e))
    (step : ∀ x ∈ xs, ∃ e1, setTg tg (enc x) (wipeE vs e) = some e1 ∧ t e1 = .ok (p x) e1 ∧ (p x = true → el e1 = .ok (.dt (f x)) e1)) :
    sComp vs tg s t el e = .ok (nw (.lst ((xs.filter p).map f))) e := by
  have hm : tg.ix.all vs.contains = true := by
    rw [Bool.and_eq_true] at hc; exact hc.2
  have key : ∀ l : List α, (∀ x ∈ l, x ∈ xs) → compGo ⟨xs.map enc, ck⟩ vs tg t el (l.map enc) (wipeE vs e) = .ok ((l.filter p).map f) (wipeE vs e) := by
    intro l
    induction l with
    | nil => intro _; rw [List.map_nil]; unfold compGo; rw [if_pos (show Src.ok ⟨xs.map enc, ck⟩ (wipeE vs e) from ok)]; rfl
    | cons x l ih =>
      intro hl
      obtain ⟨e1, h1, h2, h3⟩ := step x (hl x (.head _))
      have hw := wipe_tg h1 hm
      rw [wipe_idem] at hw
      rw [List.map_cons]
      unfold compGo
      rw [if_pos (show Src.ok ⟨xs.map enc, ck⟩ (wipeE vs e) from ok), h1]
      show ((noX t e1).bind fun k e2 => if k = true then ((noX el e2).bind fun o e3 => match o with
          | .dt d => (compGo ⟨xs.map enc, ck⟩ vs tg t el (l.map enc) (wipeE vs e3)).bind fun ds e4 => .ok (d :: ds) e4
          | .sl _ => .stuck)
        else compGo ⟨xs.map enc, ck⟩ vs tg t el (l.map enc) (wipeE vs e2)) = _
      rw [noX_of h2, Out.bind_ok]
      cases hp : p x with
      | true =>
        rw [if_pos rfl, noX_of (h3 hp), Out.bind_ok]
        show (compGo ⟨xs.map enc, ck⟩ vs tg t el (l.map enc) (wipeE vs e1)).bind _ = _
        rw [hw, ih fun y hy => hl y (.tail _ hy), List.filter_cons, if_pos hp]
        rfl
      | false =>
        rw [if_neg Bool.false_ne_true, hw, ih fun y hy => hl y (.tail _ hy), List.filter_cons, if_neg (by rw [hp]; exact Bool.false_ne_true)]
  have := sComp_of (t := t) (el := el) h hc (key xs fun _ h => h)
  rw [this, restore_wipe]
theorem sComp_map {α : Type} (enc : α → D) (xs : List α) (f : α → D) {vs : List Nat} {tg : Tg} {s : Sx Src} {el : Sx Opd} {e : En} {ck : Option (Nat × D)}
    (h : s e = .ok ⟨xs.map enc, ck⟩ e) (hc : (hidOk vs e && (Src.apart ⟨[], ck⟩ vs) && tg.ix.all vs.contains) = true) (ok : Src.ok ⟨[], ck⟩ (wipeE vs e))
    (step : ∀ x ∈ xs, ∃ e1, setTg tg (enc x) (wipeE vs e) = some e1 ∧ el e1 = .ok (.dt (f x)) e1) :
    sComp vs tg s tTrue el e = .ok (nw (.lst (xs.map f))) e := by
  have := sComp_pure enc xs (fun _ => true) f (t := tTrue) (el := el) h hc ok (fun x hx => by
    obtain ⟨e1, h1, h2⟩ := step x hx
    exact ⟨e1, h1, rfl, fun _ => h2⟩)
  rw [this, List.filter_eq_self.mpr fun _ _ => rfl]
@[simp] theorem e_chk0 {x y : D} : chkOf (.dt x) y = none := rfl
@[simp] theorem e_chk1 {i : Nat} {y : D} : chkOf (.sl i) y = some (i, y) := rfl
@[simp] theorem e_wipe0 {e : En} : wipeE [] e = e := rfl
@[simp] theorem e_wipe1 {e : En} {v : Nat} {vs : List Nat} : wipeE (v :: vs) e = (wipeE vs e).set v .unb := rfl
@[simp] theorem e_setTg1 {e : En} {i : Nat} {d : D} : setTg (.one i) d e = some (e.set i (.sh d)) := rfl
@[simp] theorem e_setTg2 {e : En} {is : List Nat} {ds : List D} : setTg (.many is) (.tup ds) e = setMany is ds e := rfl
@[simp] theorem e_setMany0 {e : En} : setMany [] [] e = some e := rfl
@[simp] theorem e_setMany1 {e : En} {i : Nat} {is : List Nat} {d : D} {ds : List D} : setMany (i :: is) (d :: ds) e = setMany is ds (e.set i (.sh d)) := rfl
@[simp] theorem e_seq {m : Sx Opd} {e : En} : sSeq m e = (m e).bind fun o e => match res e o with
  | some (.lst ds) => .ok ⟨ds, chkOf o (.lst ds)⟩ e
  | some (.tup ds) => .ok ⟨ds, chkOf o (.tup ds)⟩ e
  | some (.str z) => .ok ⟨signs z, none⟩ e
  | _ => .stuck := rfl
end Ev
set_option Elab.async false
set_option linter.all false
set_option autoImplicit false
set_option maxRecDepth 100000
set_option maxHeartbeats 1000000
/-! Plain data (None, whole numbers, texts, lists and tuples of these): == is equality. -/
namespace Ev
open PySem
def plainN : Nat → D → Bool
  | _, .non => true
  | _, .int _ => true
  | _, .str _ => true
  | n + 1, .lst l => l.all (plainN n)
  | n + 1, .tup l => l.all (plainN n)
  | _, _ => false
@[simp] theorem plainN_non {n : Nat} : plainN n .non = true := by cases n <;> rfl
@[simp] theorem plainN_int {n : Nat} {i : Int} : plainN n (.int i) = true := by cases n <;> rfl
@[simp] theorem plainN_str {n : Nat} {x : Str} : plainN n (.str x) = true := by cases n <;> rfl
@[simp] theorem plainN_lst {n : Nat} {l : List D} : plainN (n + 1) (.lst l) = l.all (plainN n) := rfl
@[simp] theorem plainN_tup {n : Nat} {l : List D} : plainN (n + 1) (.tup l) = l.all (plainN n) := rfl
theorem dats_of {n : Nat} (h : ∀ d : D, plainN n d = true → d.dat = true ∧ d.py.depth ≤ n) : ∀ l : List D, l.all (plainN n) = true → D.dats l = true ∧ PyData.depthAll (D.pys l) ≤ n
  | [], _ => ⟨rfl, Nat.zero_le _⟩
  | d :: l, hl => by
    rw [List.all_cons, Bool.and_eq_true] at hl
    obtain ⟨a, b⟩ := h d hl.1
    obtain ⟨c, e⟩ := dats_of h l hl.2
    exact ⟨by rw [D.dats, a, c]; rfl, Nat.max_le.mpr ⟨b, e⟩⟩
theorem dat_of : ∀ (n : Nat) (d : D), plainN n d = true → d.dat = true ∧ d.py.depth ≤ n
  | n, .non, _ => ⟨rfl, Nat.zero_le _⟩
  | n, .int _, _ => ⟨rfl, Nat.zero_le _⟩
  | n, .str _, _ => ⟨rfl, Nat.zero_le _⟩
  | n + 1, .lst l, h => by
    obtain ⟨a, b⟩ := dats_of (dat_of n) l h
    exact ⟨a, Nat.succ_le_succ b⟩
  | n + 1, .tup l, h => by
    obtain ⟨a, b⟩ := dats_of (dat_of n) l h
    exact ⟨a, Nat.succ_le_succ b⟩
  | 0, .lst _, h => by cases h
  | 0, .tup _, h => by cases h
  | 0, .bl _, h => by cases h
  | 0, .dic _, h => by cases h
  | 0, .obj _ _, h => by cases h
  | 0, .scr _, h => by cases h
  | _ + 1, .bl _, h => by cases h
  | _ + 1, .dic _, h => by cases h
  | _ + 1, .obj _ _, h => by cases h
  | _ + 1, .scr _, h => by cases h
theorem cmp_of {n : Nat} {d : D} (h : plainN n d = true) (hn : n ≤ 60) : d.cmp = true := by
  obtain ⟨a, b⟩ := dat_of n d h
  unfold D.cmp
  rw [a, Bool.true_and]
  exact decide_eq_true (by omega)
theorem eqvs_of {n : Nat} (h : ∀ a b : D, plainN n a = true → plainN n b = true → (pyEq a b = true ↔ a = b)) : ∀ l m : List D, l.all (plainN n) = true → m.all (plainN n) = true → (PyData.eqvAll (D.pys l) (D.pys m) = true ↔ l = m)
  | [], [], _, _ => by simp [D.pys, PyData.eqvAll]
  | a :: l, b :: m, h1, h2 => by
    rw [List.all_cons, Bool.and_eq_true] at h1 h2
    have i := eqvs_of h l m h1.2 h2.2
    have j := h a b h1.1 h2.1
    unfold pyEq at j
    simp only [D.pys, PyData.eqvAll, Bool.and_eq_true, i, j, List.cons.injEq]
  | [], _ :: _, _, _ => by simp [D.pys, PyData.eqvAll]
  | _ :: _, [], _, _ => by simp [D.pys, PyData.eqvAll]
theorem pyEq_iff : ∀ (n : Nat) (a b : D), plainN n a = true → plainN n b = true → (pyEq a b = true ↔ a = b)
  | n + 1, .lst l, .lst m, h1, h2 => by
    have := eqvs_of (pyEq_iff n) l m h1 h2
    simpa [pyEq, D.py, PyData.eqv] using this
  | n + 1, .tup l, .tup m, h1, h2 => by
    have := eqvs_of (pyEq_iff n) l m h1 h2
    simpa [pyEq, D.py, PyData.eqv] using this
  | n, .non, .non, _, _ => by simp [pyEq, D.py, PyData.eqv]
  | n, .non, .int _, _, _ => by simp [pyEq, D.py, PyData.eqv]
  | n, .non, .str _, _, _ => by simp [pyEq, D.py, PyData.eqv]
  | n, .non, .lst _, _, _ => by simp [pyEq, D.py, PyData.eqv]
  | n, .non, .tup _, _, _ => by simp [pyEq, D.py, PyData.eqv]
  | n, .int _, .non, _, _ => by simp [pyEq, D.py, PyData.eqv]
  | n, .int _, .int _, _, _ => by simp [pyEq, D.py, PyData.eqv]
  | n, .int _, .str _, _, _ => by simp [pyEq, D.py, PyData.eqv]
  | n, .int _, .lst _, _, _ => by simp [pyEq, D.py, PyData.eqv]
  | n, .int _, .tup _, _, _ => by simp [pyEq, D.py, PyData.eqv]
  | n, .str _, .non, _, _ => by simp [pyEq, D.py, PyData.eqv]
  | n, .str _, .int _, _, _ => by simp [pyEq, D.py, PyData.eqv]
  | n, .str _, .str _, _, _ => by simp [pyEq, D.py, PyData.eqv]
  | n, .str _, .lst _, _, _ => by simp [pyEq, D.py, PyData.eqv]
  | n, .str _, .tup _, _, _ => by simp [pyEq, D.py, PyData.eqv]
  | n, .lst _, .non, _, _ => by simp [pyEq, D.py, PyData.eqv]
  | n, .lst _, .int _, _, _ => by simp [pyEq, D.py, PyData.eqv]
  | n, .lst _, .str _, _, _ => by simp [pyEq, D.py, PyData.eqv]
  | n, .lst _, .tup _, _, _ => by simp [pyEq, D.py, PyData.eqv]
  | n, .tup _, .non, _, _ => by simp [pyEq, D.py, PyData.eqv]
  | n, .tup _, .int _, _, _ => by simp [pyEq, D.py, PyData.eqv]
  | n, .tup _, .str _, _, _ => by simp [pyEq, D.py, PyData.eqv]
  | n, .tup _, .lst _, _, _ => by simp [pyEq, D.py, PyData.eqv]
  | 0, .lst _, .lst _, h, _ => by cases h
  | 0, .tup _, .tup _, h, _ => by cases h
  | 0, .bl _, _, h, _ => by cases h
  | 0, .dic _, _, h, _ => by cases h
  | 0, .obj _ _, _, h, _ => by cases h
  | 0, .scr _, _, h, _ => by cases h
  | _ + 1, .bl _, _, h, _ => by cases h
  | _ + 1, .dic _, _, h, _ => by cases h
  | _ + 1, .obj _ _, _, h, _ => by cases h
  | _ + 1, .scr _, _, h, _ => by cases h
  | 0, .non, .bl _, _, h => by cases h
  | 0, .int _, .bl _, _, h => by cases h
  | 0, .str _, .bl _, _, h => by cases h
  | 0, .lst _, .bl _, _, h => by cases h
  | 0, .tup _, .bl _, _, h => by cases h
  | _ + 1, .non, .bl _, _, h => by cases h
  | _ + 1, .int _, .bl _, _, h => by cases h
  | _ + 1, .str _, .bl _, _, h => by cases h
  | _ + 1, .lst _, .bl _, _, h => by cases h
  | _ + 1, .tup _, .bl _, _, h => by cases h
  | 0, _, .dic _, _, h => by cases h
  | 0, _, .obj _ _, _, h => by cases h
  | 0, _, .scr _, _, h => by cases h
  | _ + 1, _, .dic _, _, h => by cases h
  | _ + 1, _, .obj _ _, _, h => by cases h
  | _ + 1, _, .scr _, _, h => by cases h
theorem pyEq_dec {n : Nat} {a b : D} (ha : plainN n a = true) (hb : plainN n b = true) : pyEq a b = decide (a = b) := by
  have := pyEq_iff n a b ha hb
  by_cases h : a = b
  · rw [decide_eq_true h]; exact this.mpr h
  · rw [decide_eq_false h]
    cases q : pyEq a b with
    | false => rfl
    | true => exact absurd (this.mp q) h
theorem pEq_pl (a b : D) (ha : plainN 8 a = true) (hb : plainN 8 b = true) : pEq [a, b] = some (fz (.bl (decide (a = b)))) := by
  show (if (a.cmp && b.cmp) = true then _ else _) = _
  rw [cmp_of ha (by decide), cmp_of hb (by decide), Bool.and_self, if_pos rfl, pyEq_dec ha hb]
theorem pNe_pl (a b : D) (ha : plainN 8 a = true) (hb : plainN 8 b = true) : pNe [a, b] = some (fz (.bl (decide (a ≠ b)))) := by
  show (if (a.cmp && b.cmp) = true then _ else _) = _
  rw [cmp_of ha (by decide), cmp_of hb (by decide), Bool.and_self, if_pos rfl, pyEq_dec ha hb, decide_not]
@[simp] theorem pEq_int {i j : Int} : pEq [.int i, .int j] = some (fz (.bl (decide (i = j)))) := by rw [pEq_pl _ _ (by simp) (by simp)]; simp
@[simp] theorem pNe_int {i j : Int} : pNe [.int i, .int j] = some (fz (.bl (decide (i ≠ j)))) := by rw [pNe_pl _ _ (by simp) (by simp)]; simp
@[simp] theorem pEq_str {i j : Str} : pEq [.str i, .str j] = some (fz (.bl (decide (i = j)))) := by rw [pEq_pl _ _ (by simp) (by simp)]; simp
@[simp] theorem pNe_str {i j : Str} : pNe [.str i, .str j] = some (fz (.bl (decide (i ≠ j)))) := by rw [pNe_pl _ _ (by simp) (by simp)]; simp
@[simp] theorem pNe_bl {x y : Bool} : pNe [.bl x, .bl y] = some (fz (.bl (x != y))) := by
  cases x <;> cases y <;> rfl
theorem any_eq {n : Nat} (x : D) (hx : plainN n x = true) : ∀ ds : List D, ds.all (plainN n) = true → (ds.any fun z => pyEq z x) = decide (x ∈ ds)
  | [], _ => by simp
  | d :: ds, h => by
    rw [List.all_cons, Bool.and_eq_true] at h
    rw [List.any_cons, any_eq x hx ds h.2, pyEq_dec h.1 hx]
    by_cases q : d = x
    · simp [q]
    · have q' : ¬ x = d := fun z => q z.symm
      simp [q, q']
theorem pInA_lst (x : D) (ds : List D) (hx : plainN 8 x = true) (h : ds.all (plainN 8) = true) : pInA [x, .lst ds] = some (fz (.bl (decide (x ∈ ds)))) := by
  have hl : (D.lst ds).cmp = true := cmp_of (n := 9) h (by decide)
  have : pIn [x, .lst ds] = some (fz (.bl (decide (x ∈ ds)))) := by
    show (if (x.cmp && (D.lst ds).cmp) = true then _ else _) = _
    rw [cmp_of hx (by decide), hl, Bool.and_self, if_pos rfl, any_eq x hx ds h]
  unfold pInA orP
  rw [this]
theorem pNotInA_lst (x : D) (ds : List D) (hx : plainN 8 x = true) (h : ds.all (plainN 8) = true) : pNotInA [x, .lst ds] = some (fz (.bl (decide (x ∉ ds)))) := by
  have hl : (D.lst ds).cmp = true := cmp_of (n := 9) h (by decide)
  have : pNotIn [x, .lst ds] = some (fz (.bl (decide (x ∉ ds)))) := by
    unfold pNotIn
    have : pIn [x, .lst ds] = some (fz (.bl (decide (x ∈ ds)))) := by
      show (if (x.cmp && (D.lst ds).cmp) = true then _ else _) = _
      rw [cmp_of hx (by decide), hl, Bool.and_self, if_pos rfl, any_eq x hx ds h]
    rw [this, decide_not]
    rfl
  unfold pNotInA orP
  rw [this]
@[simp] theorem pIs_non {d : D} : pIs [d, .non] = some (fz (.bl (decide (d = .non)))) := by cases d <;> rfl
@[simp] theorem pIsNot_non {d : D} : pIsNot [d, .non] = some (fz (.bl (decide (d ≠ .non)))) := by
  cases d <;> (unfold pIsNot; first | rfl | simp)
@[simp] theorem e_fld {at_ : Str → Str → Bool} {f : Str} {m : Sx Opd} : sFld at_ f m = sPrim (pFld at_ f) [m] := rfl
theorem str_ne {a b : Str} (h : (a == b) = false) : a ≠ b := by simpa using h
@[simp] theorem lk_hit {f : Str} {d : D} {fs : List (Str × D)} : List.lookup f ((f, d) :: fs) = some d := by simp [List.lookup]
theorem lk_miss {f g : Str} {d : D} {fs : List (Str × D)} (h : (f == g) = false) : List.lookup f ((g, d) :: fs) = List.lookup f fs := by simp [List.lookup, h]
theorem pFld_of {at_ : Str → Str → Bool} {c f : Str} {fs : List (Str × D)} {d : D} (h : at_ c f = true) (hl : fs.lookup f = some d) : pFld at_ f [.obj c fs] = some (fz d) := by
  show (if at_ c f = true then (fs.lookup f).map fz else none) = _
  rw [if_pos h, hl]; rfl
end Ev
set_option Elab.async false
set_option linter.all false
set_option autoImplicit false
set_option maxRecDepth 100000
set_option maxHeartbeats 1000000
/-! Dict comprehensions without effects; sorting. -/
namespace Ev
open PySem
/-- a key of its kind: a tuple, or an int or a text -/
def keyB : Bool → D → Bool
  | false, .int _ => true
  | false, .str _ => true
  | true, .tup l => kdp (D.key (.tup l))
  | _, _ => false
theorem keyB_tup {b : Bool} {k : D} (h : keyB b k = true) : k.isTup = b := by
  unfold keyB at h
  split at h <;> first | rfl | cases h
theorem dkOk_of {b : Bool} {k : D} {ds : List (D × D)} (h : keyB b k = true) (hd : ∀ q ∈ ds, q.1.isTup = b) : dkOk ds k = true := by
  unfold keyB at h
  split at h
  · exact List.all_eq_true.mpr fun q hq => by rw [hd q hq]; rfl
  · exact List.all_eq_true.mpr fun q hq => by rw [hd q hq]; rfl
  · show (kdp _ && ds.all fun p => p.1.isTup) = true
    rw [h, Bool.true_and]
    exact List.all_eq_true.mpr fun q hq => hd q hq
  · cases h
noncomputable def dfold (ps : List (D × D)) (acc : List (D × D)) : List (D × D) := ps.foldl (fun a q => dput a q.1 q.2) acc
theorem dget_some {ds : List (D × D)} {k : D} : (dget ds k).isSome = true ↔ k ∈ ds.map (·.1) := by
  induction ds with
  | nil => simp [dget_nil]
  | cons q ds ih =>
    by_cases h : q.1 = k
    · rw [dget_pos h]; simp [h]
    · rw [dget_neg h, ih]
      simp only [List.map_cons, List.mem_cons]
      constructor
      · exact .inr
      · rintro (z | z)
        · exact absurd z.symm h
        · exact z
theorem dput_keys (ds : List (D × D)) (k v : D) : (dput ds k v).map (·.1) = if k ∈ ds.map (·.1) then ds.map (·.1) else ds.map (·.1) ++ [k] := by
  unfold dput
  by_cases h : k ∈ ds.map (·.1)
  · rw [if_pos (dget_some.mpr h), if_pos h, List.map_map]
    refine List.map_congr_left fun q _ => ?_
    show (if q.1 = k then (q.1, v) else q).1 = q.1
    split <;> rfl
  · rw [if_neg (fun z => h (dget_some.mp z)), if_neg h]
    simp
theorem dput_le (ds : List (D × D)) (k v : D) : (dput ds k v).length ≤ ds.length + 1 := by
  unfold dput
  split <;> simp
theorem mem_keys {ds : List (D × D)} {q : D × D} (h : q ∈ ds) : q.1 ∈ ds.map (·.1) := List.mem_map_of_mem h
theorem dput_tup {b : Bool} {ds : List (D × D)} {k v : D} (hk : k.isTup = b) (hd : ∀ q ∈ ds, q.1.isTup = b) : ∀ q ∈ dput ds k v, q.1.isTup = b := by
  intro q hq
  have := mem_keys hq
  rw [dput_keys] at this
  split at this
  · obtain ⟨r, hr, e⟩ := List.mem_map.mp this
    rw [← e]; exact hd r hr
  · rcases List.mem_append.mp this with this | this
    · obtain ⟨r, hr, e⟩ := List.mem_map.mp this
      rw [← e]; exact hd r hr
    · rw [List.mem_singleton.mp this]; exact hk
theorem dfold_keys : ∀ (ps acc : List (D × D)) (x : D), x ∈ (dfold ps acc).map (·.1) ↔ x ∈ acc.map (·.1) ∨ x ∈ ps.map (·.1)
  | [], acc, x => by simp [dfold]
  | q :: ps, acc, x => by
    have := dfold_keys ps (dput acc q.1 q.2) x
    show x ∈ (dfold ps (dput acc q.1 q.2)).map (·.1) ↔ _
    rw [this, dput_keys]
    split
    · rename_i h
      simp only [List.map_cons, List.mem_cons]
      constructor
      · rintro (z | z)
        · exact .inl z
        · exact .inr (.inr z)
      · rintro (z | z | z)
        · exact .inl z
        · subst z; exact .inl h
        · exact .inr z
    · simp only [List.map_cons, List.mem_cons, List.mem_append, List.not_mem_nil, or_false]
      constructor
      · rintro ((z | z) | z)
        · exact .inl z
        · exact .inr (.inl z)
        · exact .inr (.inr z)
      · rintro (z | z | z)
        · exact .inl (.inl z)
        · exact .inl (.inr z)
        · exact .inr z
theorem dfold_nodup : ∀ (ps acc : List (D × D)), (acc.map (·.1)).Nodup → ((dfold ps acc).map (·.1)).Nodup
  | [], acc, h => h
  | q :: ps, acc, h => by
    refine dfold_nodup ps _ ?_
    rw [dput_keys]
    split
    · exact h
    · rename_i hn
      refine List.nodup_append.mpr ⟨h, by simp, ?_⟩
      intro a ha b hb e
      rw [List.mem_singleton.mp hb] at e
      exact hn (e ▸ ha)
theorem dfold_len : ∀ (ps acc : List (D × D)), (dfold ps acc).length ≤ acc.length + ps.length
  | [], acc => Nat.le_refl _
  | q :: ps, acc => by
    have := dfold_len ps (dput acc q.1 q.2)
    have h2 := dput_le acc q.1 q.2
    show (dfold ps (dput acc q.1 q.2)).length ≤ _
    rw [List.length_cons]
    omega
/-- keys that are all different: as they come -/
theorem dfold_new : ∀ (ps acc : List (D × D)), ((acc ++ ps).map (·.1)).Nodup → dfold ps acc = acc ++ ps
  | [], acc, _ => by rw [List.append_nil]; rfl
  | q :: ps, acc, h => by
    have hk : q.1 ∉ acc.map (·.1) := by
      rw [List.map_append, List.map_cons] at h
      intro z
      exact (List.nodup_append.mp h).2.2 _ z _ (.head _) rfl
    show dfold ps (dput acc q.1 q.2) = _
    have e : dput acc q.1 q.2 = acc ++ [q] := by
      unfold dput
      rw [if_neg (fun z => hk (dget_some.mp z))]
    rw [e, dfold_new ps _ (by rw [List.append_assoc]; exact h), List.append_assoc]
    rfl
theorem sDComp_pure {α : Type} (b : Bool) (enc : α → D) (xs : List α) (p : α → Bool) (kf vf : α → D) {vs : List Nat} {tg : Tg} {s : Sx Src} {t : Sx Bool} {mk mv : Sx Opd} {e : En} {ck : Option (Nat × D)}
    (h : s e = .ok ⟨xs.map enc, ck⟩ e) (hc : (hidOk vs e && (Src.apart ⟨[], ck⟩ vs) && tg.ix.all vs.contains) = true) (ok : Src.ok ⟨[], ck⟩ (wipeE vs e)) (hl : xs.length ≤ 10000)
    (step : ∀ x ∈ xs, ∃ e1, setTg tg (enc x) (wipeE vs e) = some e1 ∧ t e1 = .ok (p x) e1 ∧ (p x = true → mk e1 = .ok (.dt (kf x)) e1 ∧ mv e1 = .ok (.dt (vf x)) e1 ∧ keyB b (kf x) = true)) :
    sDComp vs tg s t mk mv e = .ok (nw (.dic (dfold ((xs.filter p).map fun x => (kf x, vf x)) []))) e := by
  have hm : tg.ix.all vs.contains = true := by
    rw [Bool.and_eq_true] at hc; exact hc.2
  have key : ∀ (l : List α) (acc : List (D × D)), (∀ x ∈ l, x ∈ xs) → (∀ q ∈ acc, q.1.isTup = b) → acc.length + l.length ≤ 10000 → dcGo ⟨xs.map enc, ck⟩ vs tg t mk mv (l.map enc) acc (wipeE vs e) = .ok (dfold ((l.filter p).map fun x => (kf x, vf x)) acc) (wipeE vs e) := by
    intro l
    induction l with
    | nil => intro acc _ _ _; rw [List.map_nil]; unfold dcGo; rw [if_pos (show Src.ok ⟨xs.map enc, ck⟩ (wipeE vs e) from ok)]; rfl
    | cons x l ih =>
      intro acc hl ha hn
      rw [List.length_cons] at hn
      obtain ⟨e1, h1, h2, h3⟩ := step x (hl x (.head _))
      have hw := wipe_tg h1 hm
      rw [wipe_idem] at hw
      rw [List.map_cons]
      unfold dcGo
      rw [if_pos (show Src.ok ⟨xs.map enc, ck⟩ (wipeE vs e) from ok), h1]
      show ((noX t e1).bind fun k e2 => if k = true then ((noX mk e2).bind fun o e3 => (noX mv e3).bind fun o2 e4 => match o, o2 with
        | .dt kd, .dt d => if dkOk acc kd = true ∧ acc.length < sizeLine then dcGo ⟨xs.map enc, ck⟩ vs tg t mk mv (l.map enc) (dput acc kd d) (wipeE vs e4) else .stuck
        | _, _ => .stuck)
        else dcGo ⟨xs.map enc, ck⟩ vs tg t mk mv (l.map enc) acc (wipeE vs e2)) = _
      rw [noX_of h2, Out.bind_ok]
      cases hp : p x with
      | true =>
        obtain ⟨g1, g2, g3⟩ := h3 hp
        rw [if_pos rfl, noX_of g1, Out.bind_ok, noX_of g2, Out.bind_ok]
        show (if dkOk acc (kf x) = true ∧ acc.length < sizeLine then dcGo ⟨xs.map enc, ck⟩ vs tg t mk mv (l.map enc) (dput acc (kf x) (vf x)) (wipeE vs e1) else .stuck) = _
        have hk := keyB_tup g3
        have hd := dput_le acc (kf x) (vf x)
        rw [if_pos ⟨dkOk_of g3 ha, by rw [sizeLine_eq]; omega⟩, hw, ih _ (fun y hy => hl y (.tail _ hy)) (dput_tup hk ha) (by omega), List.filter_cons, if_pos hp]
        rfl
      | false =>
        rw [if_neg Bool.false_ne_true, hw, ih _ (fun y hy => hl y (.tail _ hy)) ha (by omega), List.filter_cons, if_neg (by rw [hp]; exact Bool.false_ne_true)]
  unfold sDComp
  rw [h, Out.bind_ok, if_pos (show (hidOk vs e && (Src.apart ⟨xs.map enc, ck⟩ vs) && tg.ix.all vs.contains) = true from hc)]
  show ((dcGo ⟨xs.map enc, ck⟩ vs tg t mk mv (xs.map enc) [] (wipeE vs e)).bind fun ds e2 => .ok (nw (.dic ds)) (restoreE vs e e2)) = _
  rw [key xs [] (fun _ h => h) (fun _ h => by cases h) (by simpa using hl), Out.bind_ok, restore_wipe]
/-! ### sorting -/
noncomputable def leD (a b : D) : Bool := PySem.W.dataLe false D.py a b
noncomputable def sortD (l : List D) : List D := l.mergeSort leD
theorem sort_mem {l : List D} {x : D} : x ∈ sortD l ↔ x ∈ l := (List.mergeSort_perm l leD).mem_iff
theorem sort_perm (l : List D) : (sortD l).Perm l := List.mergeSort_perm l leD
theorem sort_len (l : List D) : (sortD l).length = l.length := (sort_perm l).length_eq
theorem sort_of {l : List D} (h : l.Pairwise fun a b => leD a b = true) : sortD l = l := List.mergeSort_of_pairwise h
/-- what can be sorted -/
def sortOk (l : List D) : Prop := PySem.W.AllAlike (l.map D.py) ∧ PySem.W.Sortable (l.map D.py) ∧ ∀ d ∈ l, d.dat = true ∧ d.py.depth ≤ 8
theorem sorted_eq {l : List D} (h : sortOk l) : pSortedA [.lst l] = some (nw (.lst (sortD l))) := by
  have : pSorted [.lst l] = some (nw (.lst (sortD l))) := if_pos h
  unfold pSortedA orP
  rw [this]
theorem sorted_dic {ds : List (D × D)} (h : sortOk (ds.map (·.1))) : pSortedA [.dic ds] = some (nw (.lst (sortD (ds.map (·.1))))) := by
  have : pSorted [.lst (ds.map (·.1))] = some (nw (.lst (sortD (ds.map (·.1))))) := if_pos h
  unfold pSortedA orP
  exact this
theorem sortOk_mem {l m : List D} (h : sortOk l) (hm : ∀ x ∈ m, x ∈ l) : sortOk m := by
  have hm' : ∀ x ∈ m.map D.py, x ∈ l.map D.py := fun x hx => by
    obtain ⟨y, hy, e⟩ := List.mem_map.mp hx
    exact List.mem_map.mpr ⟨y, hm y hy, e⟩
  refine ⟨fun a ha b hb => h.1 a (hm' a ha) b (hm' b hb), h.2.1.imp (fun z a ha => z a (hm' a ha)) (fun z a ha => z a (hm' a ha)), fun d hd => h.2.2 d (hm d hd)⟩
theorem sortOk_str (l : List Str) : sortOk (l.map D.str) := by
  refine ⟨?_, .inr ?_, ?_⟩
  · rw [List.map_map]; exact PySem.W.AllAlike.of fun _ _ => rfl
  · intro d hd
    rw [List.map_map] at hd
    obtain ⟨x, _, e⟩ := List.mem_map.mp hd
    subst e
    exact ⟨PyData.noConfusion, fun _ => PyData.noConfusion⟩
  · intro d hd
    obtain ⟨x, _, e⟩ := List.mem_map.mp hd
    subst e
    exact ⟨rfl, Nat.zero_le _⟩
theorem leD_trans (a b c : D) (h1 : leD a b = true) (h2 : leD b c = true) : leD a c = true := by
  let O := PyProof.Rows.listOrd PyProof.Rows.itemOrd
  have e : ∀ x y : D, leD x y = !O.blt (PySem.W.keyToks y.py) (PySem.W.keyToks x.py) := fun _ _ => rfl
  rw [e, Bool.not_eq_true'] at h1 h2 ⊢
  cases q : O.blt (PySem.W.keyToks c.py) (PySem.W.keyToks a.py) with
  | false => rfl
  | true =>
    rcases O.negTrans _ (PySem.W.keyToks b.py) _ q with z | z
    · rw [h2] at z; cases z
    · rw [h1] at z; cases z
theorem leD_total (a b : D) : (leD a b || leD b a) = true := by
  let O := PyProof.Rows.listOrd PyProof.Rows.itemOrd
  have e : ∀ x y : D, leD x y = !O.blt (PySem.W.keyToks y.py) (PySem.W.keyToks x.py) := fun _ _ => rfl
  rw [e, e]
  cases p : O.blt (PySem.W.keyToks b.py) (PySem.W.keyToks a.py) with
  | false => rfl
  | true =>
    cases q : O.blt (PySem.W.keyToks a.py) (PySem.W.keyToks b.py) with
    | false => rfl
    | true =>
      have := O.trans _ _ _ p q
      rw [O.irrefl] at this
      cases this
theorem sort_pw (l : List D) : (sortD l).Pairwise fun a b => leD a b = true := List.pairwise_mergeSort leD_trans leD_total l
theorem sort_sort (l : List D) : sortD (sortD l) = sortD l := sort_of (sort_pw l)
/-- a loop that returns v at the first item without P -/
theorem forGo_all {α : Type} {tg : Tg} {b : SS} {v : Vl} (enc : α → D) (P : α → Prop) (E : En → Prop) : ∀ (xs : List α) (e : En), E e →
    (∀ x ∈ xs, ∀ e, E e → ∃ e1, setTg tg (enc x) e = some e1 ∧ (P x → ∃ e2, b e1 = .nx e2 ∧ E e2) ∧ (¬ P x → ∃ e2, b e1 = .rt v e2)) →
    ((∀ x ∈ xs, P x) ∧ ∃ e', forGo tg b (xs.map enc) e = .nx e' ∧ E e') ∨ ((∃ x ∈ xs, ¬ P x) ∧ ∃ e', forGo tg b (xs.map enc) e = .rt v e')
  | [], e, h, _ => .inl ⟨(fun _ z => by cases z), e, rfl, h⟩
  | x :: xs, e, h, step => by
    obtain ⟨e1, h1, h2, h3⟩ := step x (.head _) e h
    by_cases q : P x
    · obtain ⟨e2, g1, g2⟩ := h2 q
      have hb : forGo tg b ((x :: xs).map enc) e = forGo tg b (xs.map enc) e2 := by
        rw [List.map_cons]
        unfold forGo
        rw [h1]
        show (match b e1 with | .nx e2 => forGo tg b (xs.map enc) e2 | .ct e2 => forGo tg b (xs.map enc) e2 | .bk e2 => .nx e2 | r => r) = _
        rw [g1]
        cases xs <;> rfl
      rcases forGo_all enc P E xs e2 g2 (fun y hy => step y (.tail _ hy)) with ⟨k1, e', k2, k3⟩ | ⟨⟨y, y1, y2⟩, e', k2⟩
      · exact .inl ⟨List.forall_mem_cons.mpr ⟨q, k1⟩, e', hb.trans k2, k3⟩
      · exact .inr ⟨⟨y, .tail _ y1, y2⟩, e', hb.trans k2⟩
    · obtain ⟨e2, g1⟩ := h3 q
      refine .inr ⟨⟨x, .head _, q⟩, e2, ?_⟩
      rw [List.map_cons]
      unfold forGo
      rw [h1]
      show (match b e1 with | .nx e2 => forGo tg b (xs.map enc) e2 | .ct e2 => forGo tg b (xs.map enc) e2 | .bk e2 => .nx e2 | r => r) = _
      rw [g1]
@[simp] theorem e_modesT {bs : List Bool} {x : Opd} {xs : List Opd} : okModes (true :: bs) (x :: xs) = okModes bs xs := by
  show ((true || _) && okModes bs xs) = _
  rw [Bool.true_or, Bool.true_and]
theorem len_split {α : Type} (p : α → Bool) : ∀ l : List α, (l.filter p).length + (l.filter fun x => !p x).length = l.length
  | [] => rfl
  | x :: l => by
    have := len_split p l
    cases h : p x <;> simp [h] <;> omega
end Ev
set_option Elab.async false
set_option linter.all false
set_option autoImplicit false
set_option maxRecDepth 100000
set_option maxHeartbeats 1000000
/-! Comprehensions that draw: the environment runs through E a (a: where the draws stand). -/
namespace Ev
open PySem
theorem sComp_draw {α β : Type} (enc : α → D) (f : α → β → D) (Q : α → β → Prop) (E : Int → En) {vs : List Nat} {tg : Tg} {s : Sx Src} {t : Sx Bool} {el : Sx Opd} {ck : Option (Nat × D)} (xs : List α) {a0 a1 : Int} (ha : 0 ≤ a1)
    (h : s (E a0) = .ok ⟨xs.map enc, ck⟩ (E a1)) (hc : ∀ a, (hidOk vs (E a) && (Src.apart ⟨[], ck⟩ vs) && tg.ix.all vs.contains) = true) (ok : ∀ a, Src.ok ⟨[], ck⟩ (wipeE vs (E a)))
    (hre : ∀ a b, restoreE vs (E a) (wipeE vs (E b)) = E b)
    (step : ∀ x ∈ xs, ∀ a, 0 ≤ a → ∃ e1, setTg tg (enc x) (wipeE vs (E a)) = some e1 ∧ ∃ k e2, t e1 = .ok k e2 ∧ (k = true → ∃ y e3 b, el e2 = .ok (.dt (f x y)) e3 ∧ Q x y ∧ 0 ≤ b ∧ wipeE vs e3 = wipeE vs (E b)) ∧ (k = false → ∃ b, 0 ≤ b ∧ wipeE vs e2 = wipeE vs (E b))) :
    ∃ (ys : List (α × β)) (b : Int), 0 ≤ b ∧ sComp vs tg s t el (E a0) = .ok (nw (.lst (ys.map fun y => f y.1 y.2))) (E b) ∧ (ys.map (·.1)).Sublist xs ∧ ∀ y ∈ ys, Q y.1 y.2 := by
  have key : ∀ (l : List α), (∀ x ∈ l, x ∈ xs) → ∀ a, 0 ≤ a → ∃ (ys : List (α × β)) (b : Int), 0 ≤ b ∧ compGo ⟨xs.map enc, ck⟩ vs tg t el (l.map enc) (wipeE vs (E a)) = .ok (ys.map fun y => f y.1 y.2) (wipeE vs (E b)) ∧ (ys.map (·.1)).Sublist l ∧ ∀ y ∈ ys, Q y.1 y.2 := by
    intro l
    induction l with
    | nil =>
      intro _ a ha
      refine ⟨[], a, ha, ?_, .slnil, fun _ z => by cases z⟩
      rw [List.map_nil]
      unfold compGo
      rw [if_pos (show Src.ok ⟨xs.map enc, ck⟩ (wipeE vs (E a)) from ok a)]
      rfl
    | cons x l ih =>
      intro hl a ha
      obtain ⟨e1, h1, k, e2, h2, h3, h4⟩ := step x (hl x (.head _)) a ha
      have hgo : compGo ⟨xs.map enc, ck⟩ vs tg t el ((x :: l).map enc) (wipeE vs (E a)) = ((noX t e1).bind fun k e2 => if k = true then ((noX el e2).bind fun o e3 => match o with
          | .dt d => (compGo ⟨xs.map enc, ck⟩ vs tg t el (l.map enc) (wipeE vs e3)).bind fun ds e4 => .ok (d :: ds) e4
          | .sl _ => .stuck)
        else compGo ⟨xs.map enc, ck⟩ vs tg t el (l.map enc) (wipeE vs e2)) := by
        rw [List.map_cons]
        unfold compGo
        rw [if_pos (show Src.ok ⟨xs.map enc, ck⟩ (wipeE vs (E a)) from ok a), h1]
        cases l <;> rfl
      rw [hgo, noX_of h2, Out.bind_ok]
      cases k with
      | true =>
        obtain ⟨y, e3, b, g1, g2, g3, g4⟩ := h3 rfl
        obtain ⟨ys, c, i1, i2, i3, i4⟩ := ih (fun z hz => hl z (.tail _ hz)) b g3
        refine ⟨(x, y) :: ys, c, i1, ?_, i3.cons₂ x, fun z hz => ?_⟩
        · rw [if_pos rfl, noX_of g1, Out.bind_ok]
          show (compGo ⟨xs.map enc, ck⟩ vs tg t el (l.map enc) (wipeE vs e3)).bind _ = _
          rw [g4, i2]
          rfl
        · rcases List.mem_cons.mp hz with e | hz
          · subst e; exact g2
          · exact i4 z hz
      | false =>
        obtain ⟨b, g3, g4⟩ := h4 rfl
        obtain ⟨ys, c, i1, i2, i3, i4⟩ := ih (fun z hz => hl z (.tail _ hz)) b g3
        refine ⟨ys, c, i1, ?_, i3.cons x, i4⟩
        rw [if_neg Bool.false_ne_true, g4, i2]
  obtain ⟨ys, b, i1, i2, i3, i4⟩ := key xs (fun _ h => h) a1 ha
  refine ⟨ys, b, i1, ?_, i3, i4⟩
  rw [sComp_of h (hc a1) i2, hre]
end Ev
set_option Elab.async false
set_option linter.all false
set_option autoImplicit false
set_option maxRecDepth 100000
set_option maxHeartbeats 1000000
/-! Sorted lists without doubles: one for each set. -/
namespace Ev
open PySem
theorem leD_anti {a b : D} (ha : plainN 8 a = true) (hb : plainN 8 b = true) (al : PySem.W.alike a.py b.py = true) (h1 : leD a b = true) (h2 : leD b a = true) : a = b := by
  let O := PyProof.Rows.listOrd PyProof.Rows.itemOrd
  have e : ∀ x y : D, leD x y = !O.blt (PySem.W.keyToks y.py) (PySem.W.keyToks x.py) := fun _ _ => rfl
  rw [e, Bool.not_eq_true'] at h1 h2
  have ht : PySem.W.keyToks a.py = PySem.W.keyToks b.py := O.total _ _ h2 h1
  have hq := PySem.W.toks_eqv a.py b.py al
  have heq : PyData.eqv a.py b.py = true := by
    cases q : PyData.eqv a.py b.py with
    | true => rfl
    | false =>
      have h3 := hq.2 q [] [.inl 0]
      rw [ht, List.append_nil] at h3
      have h4 : PyProof.Rows.lexLt PyProof.Rows.itemOrd (PySem.W.keyToks b.py) (PySem.W.keyToks b.py) = false := PyProof.Rows.lex_irrefl _
      rw [h4] at h3
      have : ∀ t : List (Int ⊕ List Nat), PyProof.Rows.lexLt PyProof.Rows.itemOrd t (t ++ [.inl 0]) = true := by
        intro t
        induction t with
        | nil => rfl
        | cons x t ih => exact PyProof.Rows.lex_true.mpr (.inr ⟨PyProof.Rows.itemOrd.irrefl x, ih⟩)
      rw [this] at h3
      cases h3
  exact (pyEq_iff 8 a b ha hb).mp heq
theorem sort_unique {l m : List D} (pl : ∀ a ∈ l, plainN 8 a = true) (pm : ∀ a ∈ m, plainN 8 a = true) (al : ∀ a ∈ l, ∀ b ∈ m, PySem.W.alike a.py b.py = true) (nl : l.Nodup) (nm : m.Nodup)
    (sl : l.Pairwise fun a b => leD a b = true) (sm : m.Pairwise fun a b => leD a b = true) (h : ∀ a, a ∈ l ↔ a ∈ m) : l = m := by
  refine List.Perm.eq_of_pairwise (le := fun a b => leD a b = true) (fun a b ha hb h1 h2 => leD_anti (pl a ha) (pm b hb) (al a ha b hb) h1 h2) sl sm ?_
  exact (List.perm_ext_iff_of_nodup nl nm).mpr h
theorem sorted_pw {l : List D} (h : sortD l = l) : l.Pairwise fun a b => leD a b = true := by
  have := sort_pw l
  rw [h] at this
  exact this

/-! ### sorting typed data -/
noncomputable def sortE {α : Type} (enc : α → D) (l : List α) : List α := l.mergeSort fun a b => leD (enc a) (enc b)
theorem sortD_map {α : Type} (enc : α → D) (l : List α) : sortD (l.map enc) = (sortE enc l).map enc := by
  unfold sortD sortE
  exact (List.map_mergeSort (r := fun a b => leD (enc a) (enc b)) (s := leD) fun _ _ _ _ => rfl).symm
section
variable {α : Type} {enc : α → D}
theorem sortE_mem {l : List α} {x : α} : x ∈ sortE enc l ↔ x ∈ l := (List.mergeSort_perm l _).mem_iff
theorem sortE_perm (enc : α → D) (l : List α) : (sortE enc l).Perm l := List.mergeSort_perm l _
theorem sortE_len (l : List α) : (sortE enc l).length = l.length := (sortE_perm enc l).length_eq
theorem sortE_nodup {l : List α} : (sortE enc l).Nodup ↔ l.Nodup := (sortE_perm enc l).nodup_iff
theorem sortE_pw (l : List α) : (sortE enc l).Pairwise fun a b => leD (enc a) (enc b) = true := List.pairwise_mergeSort (le := fun a b => leD (enc a) (enc b)) (fun a b c => leD_trans (enc a) (enc b) (enc c)) (fun a b => leD_total (enc a) (enc b)) l
theorem sortE_of {l : List α} (h : l.Pairwise fun a b => leD (enc a) (enc b) = true) : sortE enc l = l := List.mergeSort_of_pairwise h
theorem sortE_self (l : List α) : sortE enc (sortE enc l) = sortE enc l := sortE_of (sortE_pw l)
theorem sortE_pw_of {l : List α} (h : sortE enc l = l) : l.Pairwise fun a b => leD (enc a) (enc b) = true := by
  have := sortE_pw (enc := enc) l
  rw [h] at this
  exact this
theorem sortE_iff {l : List α} : sortE enc l = l ↔ l.Pairwise fun a b => leD (enc a) (enc b) = true := ⟨sortE_pw_of, sortE_of⟩
theorem sorted_enc {l : List α} (h : sortOk (l.map enc)) : pSortedA [.lst (l.map enc)] = some (nw (.lst ((sortE enc l).map enc))) := by
  rw [sorted_eq h, sortD_map]
theorem nodup_map {enc : α → D} (inj : ∀ a b, enc a = enc b → a = b) {l : List α} : (l.map enc).Nodup ↔ l.Nodup := by
  constructor
  · intro h
    exact (List.pairwise_map.mp h).imp fun q e => q (by rw [e])
  · intro h
    exact List.pairwise_map.mpr (h.imp fun q e => q (inj _ _ e))
theorem map_inj {enc : α → D} (inj : ∀ a b, enc a = enc b → a = b) {l m : List α} : l.map enc = m.map enc ↔ l = m := List.map_inj_right fun x y e => inj x y e
theorem mem_enc {enc : α → D} (inj : ∀ a b, enc a = enc b → a = b) {l : List α} {x : α} : enc x ∈ l.map enc ↔ x ∈ l := by
  rw [List.mem_map]
  constructor
  · rintro ⟨y, hy, e⟩
    rw [← inj _ _ e]; exact hy
  · exact fun h => ⟨x, h, rfl⟩
/-- sorted, without doubles: one for each set -/
theorem sortE_unique {enc : α → D} (inj : ∀ a b, enc a = enc b → a = b) (pl : ∀ a, plainN 8 (enc a) = true) (al : ∀ a b, PySem.W.alike (enc a).py (enc b).py = true) {l m : List α} (nl : l.Nodup) (nm : m.Nodup)
    (sl : l.Pairwise fun a b => leD (enc a) (enc b) = true) (sm : m.Pairwise fun a b => leD (enc a) (enc b) = true) (h : ∀ a, a ∈ l ↔ a ∈ m) : l = m :=
  List.Perm.eq_of_pairwise (le := fun a b => leD (enc a) (enc b) = true) (fun a b _ _ h1 h2 => inj _ _ (leD_anti (pl a) (pl b) (al a b) h1 h2)) sl sm ((List.perm_ext_iff_of_nodup nl nm).mpr h)
end
theorem leD_str (a b : Str) : leD (.str a) (.str b) = !decide (b.cps.toList < a.cps.toList) := by
  show (!(PyProof.Rows.lexLt PyProof.Rows.itemOrd [.inr b.cps.toList] [.inr a.cps.toList])) = _
  congr 1
  show (PyProof.Rows.itemLt (.inr b.cps.toList) (.inr a.cps.toList) || (!PyProof.Rows.itemLt (.inr a.cps.toList) (.inr b.cps.toList) && PyProof.Rows.lexLt PyProof.Rows.itemOrd [] [])) = _
  simp [PyProof.Rows.itemLt, PyProof.Rows.lexLt]
theorem leD_int (a b : Int) : leD (.int a) (.int b) = decide (a ≤ b) := by
  show (!(PyProof.Rows.lexLt PyProof.Rows.itemOrd [.inl b] [.inl a])) = _
  have : PyProof.Rows.lexLt PyProof.Rows.itemOrd [.inl b] [.inl a] = decide (b < a) := by
    show (PyProof.Rows.itemLt (.inl b) (.inl a) || (!PyProof.Rows.itemLt (.inl a) (.inl b) && PyProof.Rows.lexLt PyProof.Rows.itemOrd [] [])) = _
    simp [PyProof.Rows.itemLt, PyProof.Rows.lexLt]
  rw [this]
  by_cases h : a ≤ b
  · have : ¬ b < a := by omega
    simp [h, this]
  · have : b < a := by omega
    simp [h, this]
theorem atI_last {α : Type} (l : List α) (x : α) : L2.atI (l ++ [x]) (-1) = some x := by
  have : L2.ixN (l ++ [x]).length (-1) = some l.length := by
    unfold L2.ixN
    rw [if_neg (by decide), if_pos (by simp; omega)]
    simp
    omega
  unfold L2.atI
  rw [this]
  simp
theorem atI_none {α : Type} {l : List α} {i : Int} (h : i < -(l.length : Int) ∨ (l.length : Int) ≤ i) : L2.atI l i = none := by
  have : L2.ixN l.length i = none := by
    unfold L2.ixN
    rcases h with h | h
    · rw [if_neg (by omega), if_neg (by omega)]
    · rw [if_pos (by omega), if_neg (by omega)]
  unfold L2.atI
  rw [this]; rfl
end Ev
set_option Elab.async false
set_option linter.all false
set_option autoImplicit false
set_option maxRecDepth 100000
set_option maxHeartbeats 1000000
/-! Comprehensions whose environment changes (names that are held elsewhere from then on). -/
namespace Ev
open PySem
theorem sComp_env {α κ : Type} (enc : α → D) (p : α → Bool) (f : α → D) (E : κ → En) {vs : List Nat} {tg : Tg} {s : Sx Src} {t : Sx Bool} {el : Sx Opd} {ck : Option (Nat × D)} (xs : List α) (k0 k1 : κ)
    (h : s (E k0) = .ok ⟨xs.map enc, ck⟩ (E k1)) (hc : ∀ a, (hidOk vs (E a) && (Src.apart ⟨[], ck⟩ vs) && tg.ix.all vs.contains) = true) (ok : ∀ a, Src.ok ⟨[], ck⟩ (wipeE vs (E a)))
    (hre : ∀ a b, restoreE vs (E a) (wipeE vs (E b)) = E b)
    (step : ∀ x ∈ xs, ∀ a, ∃ e1, setTg tg (enc x) (wipeE vs (E a)) = some e1 ∧ ∃ e2, t e1 = .ok (p x) e2 ∧ (p x = true → ∃ e3 b, el e2 = .ok (.dt (f x)) e3 ∧ wipeE vs e3 = wipeE vs (E b)) ∧ (p x = false → ∃ b, wipeE vs e2 = wipeE vs (E b))) :
    ∃ b, sComp vs tg s t el (E k0) = .ok (nw (.lst ((xs.filter p).map f))) (E b) := by
  have key : ∀ (l : List α), (∀ x ∈ l, x ∈ xs) → ∀ a, ∃ b, compGo ⟨xs.map enc, ck⟩ vs tg t el (l.map enc) (wipeE vs (E a)) = .ok ((l.filter p).map f) (wipeE vs (E b)) := by
    intro l
    induction l with
    | nil =>
      intro _ a
      refine ⟨a, ?_⟩
      rw [List.map_nil]
      unfold compGo
      rw [if_pos (show Src.ok ⟨xs.map enc, ck⟩ (wipeE vs (E a)) from ok a)]
      rfl
    | cons x l ih =>
      intro hl a
      obtain ⟨e1, h1, e2, h2, h3, h4⟩ := step x (hl x (.head _)) a
      have hgo : compGo ⟨xs.map enc, ck⟩ vs tg t el ((x :: l).map enc) (wipeE vs (E a)) = ((noX t e1).bind fun k e2 => if k = true then ((noX el e2).bind fun o e3 => match o with
          | .dt d => (compGo ⟨xs.map enc, ck⟩ vs tg t el (l.map enc) (wipeE vs e3)).bind fun ds e4 => .ok (d :: ds) e4
          | .sl _ => .stuck)
        else compGo ⟨xs.map enc, ck⟩ vs tg t el (l.map enc) (wipeE vs e2)) := by
        rw [List.map_cons]
        unfold compGo
        rw [if_pos (show Src.ok ⟨xs.map enc, ck⟩ (wipeE vs (E a)) from ok a), h1]
        cases l <;> rfl
      rw [hgo, noX_of h2, Out.bind_ok]
      cases hp : p x with
      | true =>
        obtain ⟨e3, b, g1, g4⟩ := h3 hp
        obtain ⟨c, i2⟩ := ih (fun z hz => hl z (.tail _ hz)) b
        refine ⟨c, ?_⟩
        rw [if_pos rfl, noX_of g1, Out.bind_ok]
        show (compGo ⟨xs.map enc, ck⟩ vs tg t el (l.map enc) (wipeE vs e3)).bind _ = _
        rw [g4, i2, List.filter_cons, if_pos hp]
        rfl
      | false =>
        obtain ⟨b, g4⟩ := h4 hp
        obtain ⟨c, i2⟩ := ih (fun z hz => hl z (.tail _ hz)) b
        refine ⟨c, ?_⟩
        rw [if_neg Bool.false_ne_true, g4, i2, List.filter_cons, if_neg (by rw [hp]; exact Bool.false_ne_true)]
  obtain ⟨b, i2⟩ := key xs (fun _ h => h) k1
  refine ⟨b, ?_⟩
  rw [sComp_of h (hc k1) i2, hre]

/-! one statement at a time -/
theorem asg_nx {m : Sx Vl} {i : Nat} {e e1 e2 : En} {v : Vl} (h : m e = .ok v e1) (hs : e1.set i v.slot = e2 := by rfl) : sAsg m i e = .nx e2 := by
  subst hs
  unfold sAsg
  rw [h]
theorem drop_nx {m : Sx Vl} {e e1 : En} {v : Vl} (h : m e = .ok v e1) : sDrop m e = .nx e1 := by
  unfold sDrop
  rw [h]
theorem ret_rt {m : Sx Vl} {e e1 : En} {v : Vl} (h : m e = .ok v e1) : sRet m e = .rt v e1 := by
  unfold sRet
  rw [h]
theorem then_step {a b : SS} {e e' : En} {r : Fl} (h : a e = .nx e') (k : b e' = r) : sThen a b e = r := by unfold sThen; rw [h]; exact k
theorem then_stop {a b : SS} {e e' : En} {v : Vl} (h : a e = .rt v e') : sThen a b e = .rt v e' := by unfold sThen; rw [h]
theorem range_of {m : Sx Opd} {e e1 : En} {n : Nat} (h' : sArgs [m] e = .ok [.int n] e1) (hn : n ≤ 100000) : sRange [m] e = .ok ⟨(List.range n).map fun (k : Nat) => D.int (k : Nat), none⟩ e1 := by
  unfold sRange
  rw [h', Out.bind_ok]
  have hs : n ≤ sizeLine := by rw [sizeLine_eq]; omega
  have e1 : (fun (k : Nat) => D.int (0 + (k : Nat))) = fun (k : Nat) => D.int (k : Nat) := by funext k; simp
  simp [hs]
  omega

theorem runB_rt {t : SS} {m n : Nat} {d0 d : D} {ds : List D} {e : En} {v : Vl} (h : t (startB d0 ds n) = .rt v (.bx d :: e)) (hl : ds.length = m := by rfl) : runB t m n d0 ds = .ok v d := by
  unfold runB
  rw [if_pos hl, h]
  rfl
theorem runB_nx {t : SS} {m n : Nat} {d0 d : D} {ds : List D} {e : En} (h : t (startB d0 ds n) = .nx (.bx d :: e)) (hl : ds.length = m := by rfl) : runB t m n d0 ds = .ok (fz .non) d := by
  unfold runB
  rw [if_pos hl, h]
  rfl
theorem runF_rt {t : SS} {modes : List Bool} {n : Nat} {ds : List D} {e : En} {v : Vl} (h : t (startE modes ds n) = .rt v e) (hl : ds.length = modes.length := by rfl) : runF t modes n ds = .ok v := by
  unfold runF
  rw [if_pos hl, h]
theorem runF_nx {t : SS} {modes : List Bool} {n : Nat} {ds : List D} {e : En} (h : t (startE modes ds n) = .nx e) (hl : ds.length = modes.length := by rfl) : runF t modes n ds = .ok (fz .non) := by
  unfold runF
  rw [if_pos hl, h]

theorem guard_t {t : Sx Bool} {a b c : SS} {e e1 e2 : En} {v : Vl} (h : t e = .ok true e1) (ha : a e1 = .rt v e2) : sThen (sIfS t a c) b e = .rt v e2 := by
  unfold sThen sIfS
  rw [h]
  simp only [if_true]
  rw [ha]
theorem guard_f {t : Sx Bool} {a b : SS} {e e1 : En} {r : Fl} (h : t e = .ok false e1) (k : b e1 = r) : sThen (sIfS t a sSkip) b e = r := by
  unfold sThen sIfS
  rw [h]
  exact k
theorem if_t {t : Sx Bool} {a b : SS} {e e1 : En} {r : Fl} (h : t e = .ok true e1) (k : a e1 = r) : sIfS t a b e = r := by
  unfold sIfS
  rw [h]
  exact k
theorem if_f {t : Sx Bool} {a b : SS} {e e1 : En} {r : Fl} (h : t e = .ok false e1) (k : b e1 = r) : sIfS t a b e = r := by
  unfold sIfS
  rw [h]
  exact k
theorem tOr_t {t u : Sx Bool} {e e1 : En} (h : t e = .ok true e1) : Ev.tOr t u e = .ok true e1 := by
  unfold Ev.tOr
  rw [h]
  rfl
theorem tOr_f {t u : Sx Bool} {e e1 : En} {r : Out Bool} (h : t e = .ok false e1) (k : u e1 = r) : Ev.tOr t u e = r := by
  unfold Ev.tOr
  rw [h]
  exact k
theorem tAnd_f {t u : Sx Bool} {e e1 : En} (h : t e = .ok false e1) : Ev.tAnd t u e = .ok false e1 := by
  unfold Ev.tAnd
  rw [h]
  rfl
theorem tAnd_t {t u : Sx Bool} {e e1 : En} {r : Out Bool} (h : t e = .ok true e1) (k : u e1 = r) : Ev.tAnd t u e = r := by
  unfold Ev.tAnd
  rw [h]
  exact k
theorem tNot_of {t : Sx Bool} {e e1 : En} {b : Bool} (h : t e = .ok b e1) : Ev.tNot t e = .ok (!b) e1 := by
  unfold Ev.tNot
  rw [h]
  rfl
theorem sAnd_f {m n : Sx Vl} {e e1 : En} (h : m e = .ok (fz (.bl false)) e1) : sAnd m n e = .ok (fz (.bl false)) e1 := by
  unfold sAnd
  rw [h]
  rfl
theorem sAnd_t {m n : Sx Vl} {e e1 : En} {r : Out Vl} (h : m e = .ok (fz (.bl true)) e1) (k : n e1 = r) : sAnd m n e = r := by
  unfold sAnd
  rw [h]
  exact k
theorem sOr_t {m n : Sx Vl} {e e1 : En} (h : m e = .ok (fz (.bl true)) e1) : sOr m n e = .ok (fz (.bl true)) e1 := by
  unfold sOr
  rw [h]
  rfl
theorem sOr_f {m n : Sx Vl} {e e1 : En} {r : Out Vl} (h : m e = .ok (fz (.bl false)) e1) (k : n e1 = r) : sOr m n e = r := by
  unfold sOr
  rw [h]
  exact k
/-- both, as one truth -/
theorem sAnd_b {m n : Sx Vl} {e : En} {a b : Bool} (h : m e = .ok (fz (.bl a)) e) (k : a = true → n e = .ok (fz (.bl b)) e) : sAnd m n e = .ok (fz (.bl (a && b))) e := by
  cases a
  · exact sAnd_f h
  · exact sAnd_t h (k rfl)
theorem sOr_b {m n : Sx Vl} {e : En} {a b : Bool} (h : m e = .ok (fz (.bl a)) e) (k : a = false → n e = .ok (fz (.bl b)) e) : sOr m n e = .ok (fz (.bl (a || b))) e := by
  cases a
  · exact sOr_f h (k rfl)
  · exact sOr_t h
theorem tOr_b {t u : Sx Bool} {e : En} {a b : Bool} (h : t e = .ok a e) (k : a = false → u e = .ok b e) : Ev.tOr t u e = .ok (a || b) e := by
  cases a
  · exact tOr_f h (k rfl)
  · exact tOr_t h
theorem tAnd_b {t u : Sx Bool} {e : En} {a b : Bool} (h : t e = .ok a e) (k : a = true → u e = .ok b e) : Ev.tAnd t u e = .ok (a && b) e := by
  cases a
  · exact tAnd_f h
  · exact tAnd_t h (k rfl)
theorem tBool_of {m : Sx Vl} {e e1 : En} {b : Bool} (h : m e = .ok (fz (.bl b)) e1) : tBool m e = .ok b e1 := by
  unfold tBool
  rw [h]
  rfl
theorem tVal_b {m : Sx Vl} {e e1 : En} {b : Bool} (h : m e = .ok (fz (.bl b)) e1) : tVal (oVal m) e = .ok b e1 := by
  simp [h]
/-- a value by its operands -/
theorem prim1 {p : List D → Option Vl} {m : Sx Opd} {e e1 : En} {o : Opd} {d : D} {v : Vl} (h : m e = .ok o e1) (hr : res e1 o = some d) (hp : p [d] = some v) : sPrim p [m] e = .ok v e1 := by
  simp only [e_prim, e_args, e_ops1, e_ops0, h, Out.bind_ok, e_ress1, e_ress0, hr, hp]
theorem prim2 {p : List D → Option Vl} {m n : Sx Opd} {e e1 e2 : En} {o o2 : Opd} {d d2 : D} {v : Vl} (h : m e = .ok o e1) (h2 : n e1 = .ok o2 e2) (hr : res e2 o = some d) (hr2 : res e2 o2 = some d2) (hp : p [d, d2] = some v) : sPrim p [m, n] e = .ok v e2 := by
  simp only [e_prim, e_args, e_ops1, e_ops0, h, h2, Out.bind_ok, e_ress1, e_ress0, hr, hr2, hp]
theorem oVal_of {m : Sx Vl} {e e1 : En} {v : Vl} (h : m e = .ok v e1) : oVal m e = .ok (.dt v.d) e1 := by
  unfold oVal
  rw [h]
  rfl

/-! what comes out, whatever the slots are then -/
def Rt (b : SS) (e : En) (v : Vl) : Prop := ∃ e', b e = .rt v e'
def Vo {α : Type} (m : Sx α) (e : En) (v : α) : Prop := ∃ e', m e = .ok v e'
section
variable {a b c0 : SS} {e e1 e2 : En} {v : Vl} {t u : Sx Bool} {m n : Sx Vl}
theorem Rt.then (h : a e = .nx e1) (k : Rt b e1 v) : Rt (sThen a b) e v := let ⟨e', k⟩ := k; ⟨e', then_step h k⟩
theorem Rt.stop (h : Rt a e v) : Rt (sThen a b) e v := let ⟨e', k⟩ := h; ⟨e', then_stop k⟩
theorem Rt.ift (h : t e = .ok true e1) (k : Rt a e1 v) : Rt (sIfS t a b) e v := let ⟨e', k⟩ := k; ⟨e', if_t h k⟩
theorem Rt.iff (h : t e = .ok false e1) (k : Rt b e1 v) : Rt (sIfS t a b) e v := let ⟨e', k⟩ := k; ⟨e', if_f h k⟩
theorem Rt.gt (h : t e = .ok true e1) (k : Rt a e1 v) : Rt (sThen (sIfS t a c0) b) e v := Rt.stop (Rt.ift h k)
theorem Rt.gf (h : t e = .ok false e1) (k : Rt b e1 v) : Rt (sThen (sIfS t a sSkip) b) e v := let ⟨e', k⟩ := k; ⟨e', guard_f h k⟩
theorem Rt.ret (h : Vo m e v) : Rt (sRet m) e v := let ⟨e', k⟩ := h; ⟨e', ret_rt k⟩
theorem Vo.of {α : Type} {m : Sx α} {v : α} (h : m e = .ok v e1) : Vo m e v := ⟨e1, h⟩
theorem Vo.and {x y : Bool} (h : m e = .ok (fz (.bl x)) e1) (k : x = true → Vo n e1 (fz (.bl y))) : Vo (sAnd m n) e (fz (.bl (x && y))) := by
  cases x
  · exact ⟨e1, sAnd_f h⟩
  · obtain ⟨e', k⟩ := k rfl
    exact ⟨e', sAnd_t h k⟩
theorem Rt.rv {r : D} (h : Rt a e v) : ∃ e', a e = .rt v e' := h
theorem Rt.c {d : D} : Rt (sRet (sC d)) e (fz d) := ⟨e, rfl⟩
theorem runF_of {modes : List Bool} {k : Nat} {ds : List D} (h : Rt a (startE modes ds k) v) (hl : ds.length = modes.length := by rfl) : runF a modes k ds = .ok v := let ⟨_, h⟩ := h; runF_rt h hl
end
/-! calls of defs with values in hand -/
section
variable {e e1 e2 e3 e4 e5 : En} {v : Vl} {m1 m2 m3 m4 m5 : Sx Opd} {d1 d2 d3 d4 d5 : D} {F : List D → Res Vl} {B : D → List D → ResB} {d : D} {c : Str}
theorem call1 (h1 : m1 e = .ok (.dt d1) e1) (hF : F [d1] = .ok v) : sCall [false] F [m1] e = .ok v e1 := by
  simp [h1, hF]
theorem call2 (h1 : m1 e = .ok (.dt d1) e1) (h2 : m2 e1 = .ok (.dt d2) e2) (hF : F [d1, d2] = .ok v) : sCall [false, false] F [m1, m2] e = .ok v e2 := by
  simp [h1, h2, hF]
theorem call3 (h1 : m1 e = .ok (.dt d1) e1) (h2 : m2 e1 = .ok (.dt d2) e2) (h3 : m3 e2 = .ok (.dt d3) e3) (hF : F [d1, d2, d3] = .ok v) : sCall [false, false, false] F [m1, m2, m3] e = .ok v e3 := by
  simp [h1, h2, h3, hF]
theorem call4 (h1 : m1 e = .ok (.dt d1) e1) (h2 : m2 e1 = .ok (.dt d2) e2) (h3 : m3 e2 = .ok (.dt d3) e3) (h4 : m4 e3 = .ok (.dt d4) e4) (hF : F [d1, d2, d3, d4] = .ok v) : sCall [false, false, false, false] F [m1, m2, m3, m4] e = .ok v e4 := by
  simp [h1, h2, h3, h4, hF]
theorem call5 (h1 : m1 e = .ok (.dt d1) e1) (h2 : m2 e1 = .ok (.dt d2) e2) (h3 : m3 e2 = .ok (.dt d3) e3) (h4 : m4 e3 = .ok (.dt d4) e4) (h5 : m5 e4 = .ok (.dt d5) e5) (hF : F [d1, d2, d3, d4, d5] = .ok v) : sCall [false, false, false, false, false] F [m1, m2, m3, m4, m5] e = .ok v e5 := by
  simp [h1, h2, h3, h4, h5, hF]
theorem make3 (h1 : m1 e = .ok (.dt d1) e1) (h2 : m2 e1 = .ok (.dt d2) e2) (h3 : m3 e2 = .ok (.dt d3) e3) (hB : B (.obj c []) [d1, d2, d3] = .ok (fz .non) d) : sMake c (List.replicate 3 false) B [m1, m2, m3] e = .ok (nw d) e3 := by
  unfold sMake
  simp [h1, h2, h3, hB]
theorem make5 (h1 : m1 e = .ok (.dt d1) e1) (h2 : m2 e1 = .ok (.dt d2) e2) (h3 : m3 e2 = .ok (.dt d3) e3) (h4 : m4 e3 = .ok (.dt d4) e4) (h5 : m5 e4 = .ok (.dt d5) e5) (hB : B (.obj c []) [d1, d2, d3, d4, d5] = .ok (fz .non) d) : sMake c (List.replicate 5 false) B [m1, m2, m3, m4, m5] e = .ok (nw d) e5 := by
  unfold sMake
  simp [h1, h2, h3, h4, h5, hB]
theorem name_sh {i : Nat} (h : e[i]? = some (.sh d)) : oVal (sName i) e = .ok (.dt d) e := by simp [h]
theorem name_ow {i : Nat} (h : e[i]? = some (.ow d)) : oVal (sName i) e = .ok (.dt d) (e.set i (.sh d)) := by simp [h]
theorem oc {d : D} : oVal (sC d) e = .ok (.dt d) e := rfl
end

theorem putD_new {f : Str} {v : D} : ∀ {fs : List (Str × D)}, (fs.map (·.1)).contains f = false → putD f v fs = fs ++ [(f, v)]
  | [], _ => rfl
  | (g, x) :: fs, h => by
    rw [List.map_cons, List.contains_cons, Bool.or_eq_false_iff] at h
    have hne : ¬ g = f := fun z => by subst z; simp at h
    unfold putD
    rw [if_neg hne, putD_new h.2]
    rfl
/-- a new field of the own object -/
theorem setF_bx {at_ : Str → Str → Bool} {f c : Str} {i : Nat} {m : Sx Vl} {e e1 e2 : En} {v : Vl} {fs : List (Str × D)} (h : m e = .ok v e1) (he : e1[i]? = some (.bx (.obj c fs))) (ha : at_ c f = true) (hl : fs.length < 1000) (hn : (fs.map (·.1)).contains f = false) (h2 : e1.set i (.bx (.obj c (fs ++ [(f, v.d)]))) = e2 := by rfl) : sSetF at_ f i m e = .nx e2 := by
  subst h2
  unfold sSetF
  rw [h]
  show (match e1[i]? with | some (.ow (.obj c fs)) => _ | some (.bx (.obj c fs)) => _ | _ => _) = _
  rw [he]
  show (if at_ c f = true ∧ fs.length < 1000 then _ else _) = _
  rw [if_pos ⟨ha, hl⟩, putD_new hn]

theorem lst0 {e : En} : sLst [] e = .ok (nw (.lst [])) e := by simp
theorem lst0' {e : En} : oVal (sLst []) e = .ok (.dt (.lst [])) e := by simp

/-- xs.append(e), xs.extend(e) -/
theorem append_ow {i : Nat} {m : Sx Opd} {e e1 e2 : En} {d : D} {ds : List D} (h : m e = .ok (.dt d) e1) (h0 : e[i]? = some (.ow (.lst ds))) (h1 : e1[i]? = some (.ow (.lst ds))) (hl : ds.length < sizeLine) (h2 : e1.set i (.ow (.lst (ds ++ [d]))) = e2 := by rfl) : sDrop (sMeth .lst pAppend [false] i [m]) e = .nx e2 := by
  subst h2
  refine drop_nx (v := fz .non) ?_
  simp only [e_meth, e_res1, h0, e_look2, e_isL, if_true, e_ops1, e_ops0, h, Out.bind_ok, e_modes1, e_modes0, e_ress1, e_ress0, e_res0, h1]
  rw [pAppend_lst hl]
theorem extend_ow {i : Nat} {m : Sx Opd} {e e1 e2 : En} {ds es : List D} (h : m e = .ok (.dt (.lst es)) e1) (h0 : e[i]? = some (.ow (.lst ds))) (h1 : e1[i]? = some (.ow (.lst ds))) (hl : ds.length + es.length ≤ sizeLine) (h2 : e1.set i (.ow (.lst (ds ++ es))) = e2 := by rfl) : sDrop (sMeth .lst pExtend [true] i [m]) e = .nx e2 := by
  subst h2
  refine drop_nx (v := fz .non) ?_
  simp only [e_meth, e_res1, h0, e_look2, e_isL, if_true, e_ops1, e_ops0, h, Out.bind_ok, e_modesT, e_modes0, e_ress1, e_ress0, e_res0, h1]
  rw [pExtend_lst hl]

section
variable {e e1 e2 e3 e4 e5 : En} {m1 m2 m3 m4 m5 : Sx Opd} {d1 d2 d3 d4 d5 : D}
theorem sz_le {n : Nat} (h : n ≤ 100 := by decide) : n ≤ sizeLine := by rw [sizeLine_eq]; omega
theorem lst1 (h1 : m1 e = .ok (.dt d1) e1) : sLst [m1] e = .ok (nw (.lst [d1])) e1 := by
  rw [e_lst]; simp only [e_ops1, e_ops0, h1, Out.bind_ok, e_dts1, e_dts0, Option.map_some]; exact if_pos (sz_le (by simp))
theorem lst2 (h1 : m1 e = .ok (.dt d1) e1) (h2 : m2 e1 = .ok (.dt d2) e2) : sLst [m1, m2] e = .ok (nw (.lst [d1, d2])) e2 := by
  rw [e_lst]; simp only [e_ops1, e_ops0, h1, h2, Out.bind_ok, e_dts1, e_dts0, Option.map_some]; exact if_pos (sz_le (by simp))
theorem lst3 (h1 : m1 e = .ok (.dt d1) e1) (h2 : m2 e1 = .ok (.dt d2) e2) (h3 : m3 e2 = .ok (.dt d3) e3) : sLst [m1, m2, m3] e = .ok (nw (.lst [d1, d2, d3])) e3 := by
  rw [e_lst]; simp only [e_ops1, e_ops0, h1, h2, h3, Out.bind_ok, e_dts1, e_dts0, Option.map_some]; exact if_pos (sz_le (by simp))
theorem lst4 (h1 : m1 e = .ok (.dt d1) e1) (h2 : m2 e1 = .ok (.dt d2) e2) (h3 : m3 e2 = .ok (.dt d3) e3) (h4 : m4 e3 = .ok (.dt d4) e4) : sLst [m1, m2, m3, m4] e = .ok (nw (.lst [d1, d2, d3, d4])) e4 := by
  rw [e_lst]; simp only [e_ops1, e_ops0, h1, h2, h3, h4, Out.bind_ok, e_dts1, e_dts0, Option.map_some]; exact if_pos (sz_le (by simp))
theorem lst5 (h1 : m1 e = .ok (.dt d1) e1) (h2 : m2 e1 = .ok (.dt d2) e2) (h3 : m3 e2 = .ok (.dt d3) e3) (h4 : m4 e3 = .ok (.dt d4) e4) (h5 : m5 e4 = .ok (.dt d5) e5) : sLst [m1, m2, m3, m4, m5] e = .ok (nw (.lst [d1, d2, d3, d4, d5])) e5 := by
  rw [e_lst]; simp only [e_ops1, e_ops0, h1, h2, h3, h4, h5, Out.bind_ok, e_dts1, e_dts0, Option.map_some]; exact if_pos (sz_le (by simp))
theorem tup0 : sTup [] e = .ok (fz (.tup [])) e := by
  rw [e_tup]; simp only [e_ops0, Out.bind_ok, e_dts0]; exact if_pos (sz_le (by simp))
theorem tup1 (h1 : m1 e = .ok (.dt d1) e1) : sTup [m1] e = .ok (fz (.tup [d1])) e1 := by
  rw [e_tup]; simp only [e_ops1, e_ops0, h1, Out.bind_ok, e_dts1, e_dts0, Option.map_some]; exact if_pos (sz_le (by simp))
theorem tup2 (h1 : m1 e = .ok (.dt d1) e1) (h2 : m2 e1 = .ok (.dt d2) e2) : sTup [m1, m2] e = .ok (fz (.tup [d1, d2])) e2 := by
  rw [e_tup]; simp only [e_ops1, e_ops0, h1, h2, Out.bind_ok, e_dts1, e_dts0, Option.map_some]; exact if_pos (sz_le (by simp))
theorem tup3 (h1 : m1 e = .ok (.dt d1) e1) (h2 : m2 e1 = .ok (.dt d2) e2) (h3 : m3 e2 = .ok (.dt d3) e3) : sTup [m1, m2, m3] e = .ok (fz (.tup [d1, d2, d3])) e3 := by
  rw [e_tup]; simp only [e_ops1, e_ops0, h1, h2, h3, Out.bind_ok, e_dts1, e_dts0, Option.map_some]; exact if_pos (sz_le (by simp))
theorem tup5 (h1 : m1 e = .ok (.dt d1) e1) (h2 : m2 e1 = .ok (.dt d2) e2) (h3 : m3 e2 = .ok (.dt d3) e3) (h4 : m4 e3 = .ok (.dt d4) e4) (h5 : m5 e4 = .ok (.dt d5) e5) : sTup [m1, m2, m3, m4, m5] e = .ok (fz (.tup [d1, d2, d3, d4, d5])) e5 := by
  rw [e_tup]; simp only [e_ops1, e_ops0, h1, h2, h3, h4, h5, Out.bind_ok, e_dts1, e_dts0, Option.map_some]; exact if_pos (sz_le (by simp))
end

/-! calls of defs that change their first argument -/
section
variable {e e1 e2 e3 : En} {v : Vl} {m1 m2 m3 : Sx Opd} {d1 d2 d3 x x0 x' : D} {B : D → List D → ResB} {i : Nat}
theorem callB1 (h0 : e[i]? = some (.ow x0)) (h1 : m1 e = .ok (.dt d1) e1) (he : e1[i]? = some (.ow x)) (hF : B x [d1] = .ok v x') (h2 : e1.set i (.ow x') = e2 := by rfl) : sCallB (List.replicate 1 false) B i [m1] e = .ok v e2 := by
  subst h2
  simp [h0, h1, he, hF]
theorem callB2 (h0 : e[i]? = some (.ow x0)) (h1 : m1 e = .ok (.dt d1) e1) (h2 : m2 e1 = .ok (.dt d2) e2) (he : e2[i]? = some (.ow x)) (hF : B x [d1, d2] = .ok v x') (h3 : e2.set i (.ow x') = e3 := by rfl) : sCallB (List.replicate 2 false) B i [m1, m2] e = .ok v e3 := by
  subst h3
  simp [h0, h1, h2, he, hF]
theorem callBx1 (h0 : e[i]? = some (.bx x0)) (h1 : m1 e = .ok (.dt d1) e1) (he : e1[i]? = some (.bx x)) (hF : B x [d1] = .ok v x') (h2 : e1.set i (.bx x') = e2 := by rfl) : sCallB (List.replicate 1 false) B i [m1] e = .ok v e2 := by
  subst h2
  simp [h0, h1, he, hF]
theorem callBx2 (h0 : e[i]? = some (.bx x0)) (h1 : m1 e = .ok (.dt d1) e1) (h2 : m2 e1 = .ok (.dt d2) e2) (he : e2[i]? = some (.bx x)) (hF : B x [d1, d2] = .ok v x') (h3 : e2.set i (.bx x') = e3 := by rfl) : sCallB (List.replicate 2 false) B i [m1, m2] e = .ok v e3 := by
  subst h3
  simp [h0, h1, h2, he, hF]
end
theorem seq_of {m : Sx Opd} {e e1 : En} {ds : List D} (h : m e = .ok (.dt (.lst ds)) e1) : sSeq m e = .ok ⟨ds, none⟩ e1 := by
  simp [h]
end Ev
set_option Elab.async false
set_option linter.all false
set_option autoImplicit false
set_option maxRecDepth 100000
/-! d.setdefault(k, v). -/
namespace Ev
open PySem L2 PySem.Spec PyProof.Rows
theorem upd_eq {H : Hp} {a : Addr} {o : HO} (h : H a = some o) : upd H a o = H := by
  funext b
  by_cases q : b = a
  · subst q; rw [upd_same, h]
  · rw [upd_ne q]
section
variable {X : Cx} {cl : Str → Option Addr}
theorem mt_setdefP (hu : X.A.units + 65 < cLine) : MtR X "dict.setdefault" (rMut (gl X cl) [false, false] pSetdef) := by
  intro pins s σ H x xs v us Q I rx rxs h
  obtain ⟨a, M, o, d, ds, w, d', rfl, hD, ro, mn, sm, ar, hp, k⟩ := h
  obtain rfl : v = Value.ref a := rx
  unfold pSetdef at hp
  split at hp
  · rename_i ds kd vd
    split at hp
    · rename_i hok
      obtain ⟨ok, hl⟩ := hok
      cases ar with
      | @held _ kd _ _ _ r1 t =>
        cases t with
        | @held _ vd _ _ _ r2 t =>
          cases t
          cases rxs with
          | cons ry t =>
            cases t with
            | cons rz t =>
              cases t
              rcases dk_cases ok with ⟨k', rfl, hk1⟩ | ⟨l, k', rfl, hk1, hdp, hk2⟩
              · obtain ⟨ha, hl', xs, ys, g1, g2, g3⟩ := view_K I hD ro hk1
                obtain ⟨rfl, hr⟩ := prep_kD (H := H) (.inl r1)
                have hls : ys.length = ds.length := by rw [← g2.length, g1.length]
                have og := repK_get hr g1
                refine call_meetsIn PySem.F.slot_dict_setdefault g3.typeIs PySem.F.entry_dict_setdefault (PySem.F.args_dict_setdefault_3 _ _ _) (kt_meets_setdefault (mixKind X.prog X.w) a (kV_is ry) ha _) ⟨ys, g3, by omega, fun u hu' => ?_, fun hn h' dd' hs => ?_⟩
                · have q := g2.val k'
                  rw [hu'] at q
                  cases hv : valV xs k' with
                  | none => rw [hv] at q; exact q.elim
                  | some z =>
                    rw [hv] at q og
                    cases hg : dget ds (kD k') with
                    | none => rw [hg] at og; exact og.elim
                    | some dz =>
                      rw [hg] at og hp
                      cases hp
                      have := k z o ro og
                      rw [upd_eq hD] at this
                      exact ⟨z, H, I.tok _, q, this⟩
                · have q := g2.val k'
                  rw [hn] at q
                  cases hv : valV xs k' with
                  | some z => rw [hv] at q; exact q.elim
                  | none =>
                    rw [hv] at og
                    cases hg : dget ds (kD k') with
                    | some dz => rw [hg] at og; exact og.elim
                    | none =>
                      rw [hg] at hp
                      cases hp
                      have e : dput ds (kD k') w = ds ++ [(kD k', w)] := by unfold dput; rw [if_neg (by rw [hg]; decide)]
                      have q2 := repK_put hr r2 g1
                      refine ⟨_, upd H a (.dK (putK xs k' _)), d_write I (by rw [hD]; exact mut_dic ro) hs (let ⟨q, _, _, hq, _⟩ := dd'; ⟨q, hq⟩) (dk_new ?_ ha (g2.put k' rz) dd'), rz, k _ _ (by rw [← e]; exact .dik q2) r2⟩
                      rw [q2.length]
                      have := dput_len ds (kD k') w
                      omega
              · obtain ⟨ha, hl', xs, ys, g1, g2, g3⟩ := view_T I sm hD ro hk2
                obtain ⟨b, vs, rfl, _, _, hr, _⟩ := PRep.tup (H := H) sm (.inl r1)
                obtain rfl := show _ = Value.ref b from ry
                have hls : ys.length = ds.length := by rw [← g2.length, g1.length]
                have og := repT_get (M := M) hk1 g1
                refine call_setdefault_heap (hsz := by omega) (nroom hu) ⟨nested_is I sm hr hk1 rfl, hdp⟩ ha g3 (fun p hp1 => ?_) fun hn h' dd' hs => ?_
                · have q := g2.val k'
                  rw [hp1] at q
                  cases hv : tget xs k' with
                  | none => rw [hv] at q; exact q.elim
                  | some z =>
                    rw [hv] at q og
                    cases hg : dget ds (.tup l) with
                    | none => rw [hg] at og; exact og.elim
                    | some dz =>
                      rw [hg] at og hp
                      cases hp
                      have := k z o ro og
                      rw [upd_eq hD] at this
                      exact ⟨z, H, I.tok _, q, this⟩
                · have q := g2.val k'
                  rw [hn] at q
                  cases hv : tget xs k' with
                  | some z => rw [hv] at q; exact q.elim
                  | none =>
                    rw [hv] at og
                    cases hg : dget ds (.tup l) with
                    | some dz => rw [hg] at og; exact og.elim
                    | none =>
                      rw [hg] at hp
                      cases hp
                      have e : dput ds (.tup l) w = ds ++ [(.tup l, w)] := by unfold dput; rw [if_neg (by rw [hg]; decide)]
                      have q2 := repT_put hk1 hdp r1 r2 g1
                      refine ⟨_, upd H a (dtO X.prog X.w a (tput xs k' b _)), d_write I (by rw [hD]; exact mut_dic ro) hs (let ⟨q, _, _, hq, _⟩ := dd'; ⟨q, hq⟩) (dit_new ?_ ha (g2.put k' rz) dd'), rz, k _ _ (by rw [← e]; exact .dit q2) r2⟩
                      rw [q2.length]
                      have := dput_len ds (.tup l) w
                      omega
    · cases hp
  · cases hp
theorem mSetdef (hu : X.A.units + 65 < cLine) : MthM X cl "setdefault" .dic pSetdef [false, false] := ⟨_, PySem.F.plainAttrs_dict, PySem.F.slot_dict_setdefault, PySem.F.type_dict_setdefault, mt_setdefP hu⟩
end

/-! max of a list -/
noncomputable def pMaxL : List D → Option Vl
  | [.lst ds] => (D.ints ds).bind fun ns => ns.max?.map fun m => fz (.int m)
  | _ => none
noncomputable def pMaxA := orP pMax pMaxL
section
variable {X : Cx} {cl : Str → Option Addr}
theorem cr_maxLP (hc : X.calm = true) : CallR X (.builtin "max") (rPs (gl X cl) pMaxL) := by
  intro pins s σ H xs us Q I r h
  obtain ⟨M, ds, w, sm, pr, hp, k⟩ := h
  unfold pMaxL at hp
  split at hp
  · obtain ⟨ns, hn, hp⟩ := Option.bind_eq_some_iff.mp hp
    obtain ⟨m, hm, rfl⟩ := Option.map_eq_some_iff.mp hp
    obtain rfl := ints_eq hn
    obtain ⟨x, rfl, q⟩ := preps1 pr
    obtain ⟨a, vs, rfl, hs, hr, _⟩ := q.lst sm
    obtain rfl := hr.ints_inv
    obtain ⟨h1, h2⟩ := List.max?_eq_some_iff.mp hm
    refine cr_max hc pins s σ H _ us Q I r ⟨a, ns, rfl, .of hs, List.length_pos_of_mem h1, fun m' g1 g2 => ?_⟩
    have : m' = m := Int.le_antisymm (h2 m' g1) (g2 m h1)
    subst this
    exact rPs.fz k sm (.int _)
  · cases hp
theorem cr_maxAP (hc : X.calm = true) : CallR X (.builtin "max") (rPs (gl X cl) pMaxA) := callP_or (cr_maxP hc) (cr_maxLP hc)
end
@[simp] theorem pMaxA_ints {ns : List Int} {m : Int} (h : ns.max? = some m) : pMaxA [.lst (ns.map D.int)] = some (fz (.int m)) := by
  unfold pMaxA orP
  have h1 : pMax [.lst (ns.map D.int)] = none := rfl
  rw [h1]
  show (D.ints (ns.map D.int)).bind _ = _
  rw [ints_map, Option.bind_some, h]
  rfl
end Ev
set_option Elab.async false
set_option linter.all false
set_option autoImplicit false
set_option maxRecDepth 100000
set_option maxHeartbeats 1000000
/-! More steps: indexes, methods that look, dicts of typed data, loops that append. -/
namespace Ev
open PySem
section
variable {e e1 e2 : En} {m n : Sx Opd} {o o2 : Opd} {ds : List D} {d d2 : D} {i : Int} {T : MTy} {p : List D → Option Vl} {v : Vl}
theorem ixL (h : L2.atI ds i = some d) : pIxA [.lst ds, .int i] = some (fz d) := by rw [pIxA_lst, h]; rfl
theorem ixT (h : L2.atI ds i = some d) : pIxA [.tup ds, .int i] = some (fz d) := by rw [pIxA_tup, h]; rfl
theorem vmeth1 (h : m e = .ok o e1) (hr0 : res e1 o = some d) (ht : T.is d = true) (h2 : n e1 = .ok o2 e2) (hr : res e2 o = some d) (hr2 : res e2 o2 = some d2) (hp : p [d, d2] = some v) : sVMeth T p m [n] e = .ok v e2 := by
  unfold sVMeth
  rw [h, Out.bind_ok, hr0]
  simp only [ht, if_true, e_ops1, e_ops0, h2, Out.bind_ok, e_ress1, e_ress0, hr, hr2, hp]
theorem ix2 {k : D} (h : m e = .ok o e1) (h2 : n e1 = .ok o2 e2) (hr : res e2 o = some d) (hr2 : res e2 o2 = some k) (hp : pIxA [d, k] = some v) : oVal (sPrim pIxA [m, n]) e = .ok (.dt v.d) e2 := oVal_of (prim2 h h2 hr hr2 hp)
end
theorem enum_map {α : Type} (enc : α → D) (xs : List α) : enumItems (xs.map enc) = ((List.range xs.length).zip xs).map fun p : Nat × α => D.tup [.int (p.1 : Nat), enc p.2] := by
  unfold enumItems
  rw [List.length_map, List.zip_map_right, List.map_map]
  rfl
theorem enum_of {m : Sx Opd} {e e1 : En} {ds : List D} (h : m e = .ok (.dt (.lst ds)) e1) : sEnum m e = .ok ⟨enumItems ds, none⟩ e1 := by
  unfold sEnum
  rw [h, Out.bind_ok]
  rfl
/-! ### keys -/
def hashN : Nat → D → Bool
  | _, .non => true
  | _, .int _ => true
  | _, .str _ => true
  | n + 1, .tup l => l.all (hashN n)
  | _, _ => false
@[simp] theorem hashN_non {n : Nat} : hashN n .non = true := by cases n <;> rfl
@[simp] theorem hashN_int {n : Nat} {i : Int} : hashN n (.int i) = true := by cases n <;> rfl
@[simp] theorem hashN_str {n : Nat} {x : Str} : hashN n (.str x) = true := by cases n <;> rfl
@[simp] theorem hashN_tup {n : Nat} {l : List D} : hashN (n + 1) (.tup l) = l.all (hashN n) := rfl
theorem keys_of {n : Nat} (h : ∀ d : D, hashN n d = true → ∃ k, d.key = some k ∧ k.depth ≤ n) : ∀ l : List D, l.all (hashN n) = true → ∃ ks, D.keys l = some ks ∧ NestedKey.depthAll ks ≤ n
  | [], _ => ⟨[], rfl, Nat.zero_le _⟩
  | d :: l, hl => by
    rw [List.all_cons, Bool.and_eq_true] at hl
    obtain ⟨k, k1, k2⟩ := h d hl.1
    obtain ⟨ks, k3, k4⟩ := keys_of h l hl.2
    refine ⟨k :: ks, ?_, Nat.max_le.mpr ⟨k2, k4⟩⟩
    show (match D.key d, D.keys l with | some k, some ks => some (k :: ks) | _, _ => none) = _
    rw [k1, k3]
theorem key_of : ∀ (n : Nat) (d : D), hashN n d = true → ∃ k, d.key = some k ∧ k.depth ≤ n
  | n, .non, _ => ⟨.none, rfl, Nat.zero_le _⟩
  | n, .int i, _ => ⟨.num i, rfl, Nat.zero_le _⟩
  | n, .str x, _ => ⟨.text x, rfl, Nat.zero_le _⟩
  | n + 1, .tup l, h => by
    obtain ⟨ks, k1, k2⟩ := keys_of (key_of n) l h
    refine ⟨.tup ks, ?_, Nat.succ_le_succ k2⟩
    show (D.keys l).map NestedKey.tup = _
    rw [k1]; rfl
  | 0, .tup _, h => by cases h
  | 0, .lst _, h => by cases h
  | 0, .bl _, h => by cases h
  | 0, .dic _, h => by cases h
  | 0, .obj _ _, h => by cases h
  | 0, .scr _, h => by cases h
  | _ + 1, .lst _, h => by cases h
  | _ + 1, .bl _, h => by cases h
  | _ + 1, .dic _, h => by cases h
  | _ + 1, .obj _ _, h => by cases h
  | _ + 1, .scr _, h => by cases h
theorem keyB_of {l : List D} (h : hashN 8 (.tup l) = true) : keyB true (.tup l) = true := by
  obtain ⟨k, k1, k2⟩ := key_of 8 (.tup l) h
  show kdp (D.key (.tup l)) = true
  rw [k1]
  exact decide_eq_true k2
/-- the key kind of an encoding: b tells tuples -/
structure KeyE {K : Type} (b : Bool) (enc : K → D) : Prop where
  inj : ∀ a c, enc a = enc c → a = c
  key : ∀ a, keyB b (enc a) = true
theorem keyE_int : KeyE false D.int := ⟨fun _ _ e => D.int.inj e, fun _ => rfl⟩
theorem keyE_str : KeyE false D.str := ⟨fun _ _ e => D.str.inj e, fun _ => rfl⟩
/-! ### dicts of typed data -/
noncomputable def tdget {K β : Type} (d : List (K × β)) (k : K) : Option β := by
  classical
  exact (d.find? fun p => decide (p.1 = k)).map (·.2)
noncomputable def tdput {K β : Type} (d : List (K × β)) (k : K) (v : β) : List (K × β) := by
  classical
  exact if (tdget d k).isSome = true then d.map fun p => if p.1 = k then (p.1, v) else p else d ++ [(k, v)]
def encDi {K β : Type} (enc : K → D) (val : β → D) (p : K × β) : D × D := (enc p.1, val p.2)
section
variable {K β : Type} {enc : K → D} {val : β → D} {b : Bool}
theorem tdget_nil {k : K} : tdget ([] : List (K × β)) k = none := rfl
theorem tdget_pos {p : K × β} {r : List (K × β)} {k : K} (e : p.1 = k) : tdget (p :: r) k = some p.2 := by simp [tdget, List.find?_cons, e]
theorem tdget_neg {p : K × β} {r : List (K × β)} {k : K} (e : ¬ p.1 = k) : tdget (p :: r) k = tdget r k := by simp [tdget, List.find?_cons, e]
theorem tdget_enc (E : KeyE b enc) (d : List (K × β)) (k : K) : dget (d.map (encDi enc val)) (enc k) = (tdget d k).map val := by
  induction d with
  | nil => rfl
  | cons p d ih =>
    rw [List.map_cons]
    by_cases h : p.1 = k
    · rw [dget_pos (show (encDi enc val p).1 = enc k from by rw [← h]; rfl), tdget_pos h]; rfl
    · rw [dget_neg (show ¬ (encDi enc val p).1 = enc k from fun z => h (E.inj _ _ z)), tdget_neg h, ih]
theorem tdget_some {d : List (K × β)} {k : K} : (tdget d k).isSome = true ↔ k ∈ d.map (·.1) := by
  induction d with
  | nil => simp [tdget_nil]
  | cons q d ih =>
    by_cases h : q.1 = k
    · rw [tdget_pos h]; simp [h]
    · rw [tdget_neg h, ih]
      simp only [List.map_cons, List.mem_cons]
      constructor
      · exact .inr
      · rintro (z | z)
        · exact absurd z.symm h
        · exact z
theorem tdget_none {d : List (K × β)} {k : K} : tdget d k = none ↔ k ∉ d.map (·.1) := by
  rw [← tdget_some]
  cases tdget d k <;> simp
theorem tdget_mem {d : List (K × β)} {k : K} {v : β} (h : tdget d k = some v) : (k, v) ∈ d := by
  induction d with
  | nil => cases h
  | cons q d ih =>
    by_cases e : q.1 = k
    · rw [tdget_pos e] at h
      cases h
      subst e
      exact .head _
    · rw [tdget_neg e] at h
      exact .tail _ (ih h)
theorem tdget_of {d : List (K × β)} {k : K} {v : β} (nd : (d.map (·.1)).Nodup) (h : (k, v) ∈ d) : tdget d k = some v := by
  induction d with
  | nil => cases h
  | cons q d ih =>
    rw [List.map_cons, List.nodup_cons] at nd
    rcases List.mem_cons.mp h with e | h
    · subst e; exact tdget_pos rfl
    · rw [tdget_neg fun z => nd.1 (by rw [z]; exact List.mem_map.mpr ⟨_, h, rfl⟩)]
      exact ih nd.2 h
theorem tdput_enc (E : KeyE b enc) (d : List (K × β)) (k : K) (v : β) : dput (d.map (encDi enc val)) (enc k) (val v) = (tdput d k v).map (encDi enc val) := by
  classical
  unfold dput tdput
  rw [tdget_enc E, Option.isSome_map]
  split
  · rw [List.map_map, List.map_map]
    refine List.map_congr_left fun p _ => ?_
    by_cases h : p.1 = k
    · have h' : (encDi enc val p).1 = enc k := by rw [← h]; rfl
      show (if (encDi enc val p).1 = enc k then _ else _) = encDi enc val (if p.1 = k then _ else _)
      rw [if_pos h', if_pos h]
      rfl
    · have h' : ¬ (encDi enc val p).1 = enc k := fun z => h (E.inj _ _ z)
      show (if (encDi enc val p).1 = enc k then _ else _) = encDi enc val (if p.1 = k then _ else _)
      rw [if_neg h', if_neg h]
  · rw [List.map_append]
    rfl
theorem tdput_new {d : List (K × β)} {k : K} {v : β} (h : k ∉ d.map (·.1)) : tdput d k v = d ++ [(k, v)] := by
  unfold tdput
  rw [if_neg fun z => h (tdget_some.mp z)]
theorem tdput_len (d : List (K × β)) (k : K) (v : β) : (tdput d k v).length ≤ d.length + 1 := by
  unfold tdput
  split <;> simp
theorem dk_enc (E : KeyE b enc) (d : List (K × β)) (k : K) : dkOk (d.map (encDi enc val)) (enc k) = true := dkOk_of (E.key k) fun q hq => by
  obtain ⟨p, _, rfl⟩ := List.mem_map.mp hq
  exact keyB_tup (E.key p.1)
/-! what is asked of them -/
theorem pDGet_enc (E : KeyE b enc) (d : List (K × β)) (k : K) : pDGet [.dic (d.map (encDi enc val)), enc k] = some (fz (((tdget d k).map val).getD .non)) := by
  show (if dkOk _ _ = true then some (fz ((dget _ _).getD .non)) else none) = _
  rw [if_pos (dk_enc E d k), tdget_enc E]
theorem pIx_enc (E : KeyE b enc) (d : List (K × β)) (k : K) {v : β} (h : tdget d k = some v) : pIxA [.dic (d.map (encDi enc val)), enc k] = some (fz (val v)) := by
  rw [pIxA_dic, if_pos (dk_enc E d k), tdget_enc E, h]
  rfl
theorem pIn_key {k : D} {ds : List (D × D)} : pIn [k, .dic ds] = none := by cases k <;> rfl
theorem pInD_enc (E : KeyE b enc) (d : List (K × β)) (k : K) [Decidable (k ∈ d.map (·.1))] : pInA [enc k, .dic (d.map (encDi enc val))] = some (fz (.bl (decide (k ∈ d.map (·.1))))) := by
  unfold pInA orP
  rw [pIn_key]
  show (if dkOk _ _ = true then some (fz (.bl (dget _ _).isSome)) else none) = _
  rw [if_pos (dk_enc E d k), tdget_enc E, Option.isSome_map]
  congr 3
  have := tdget_some (d := d) (k := k)
  by_cases h : k ∈ d.map (·.1)
  · rw [decide_eq_true h]; exact this.mpr h
  · rw [decide_eq_false h]
    cases z : (tdget d k).isSome with
    | false => rfl
    | true => exact absurd (this.mp z) h
theorem pNotInD_enc (E : KeyE b enc) (d : List (K × β)) (k : K) [Decidable (k ∉ d.map (·.1))] : pNotInA [enc k, .dic (d.map (encDi enc val))] = some (fz (.bl (decide (k ∉ d.map (·.1))))) := by
  have h1 : pNotIn [enc k, .dic (d.map (encDi enc val))] = none := by unfold pNotIn; rw [pIn_key]; rfl
  unfold pNotInA orP
  rw [h1]
  show (if dkOk _ _ = true then some (fz (.bl (!(dget _ _).isSome))) else none) = _
  rw [if_pos (dk_enc E d k), tdget_enc E, Option.isSome_map]
  congr 3
  have := tdget_some (d := d) (k := k)
  by_cases h : k ∈ d.map (·.1)
  · rw [decide_eq_false (p := k ∉ d.map (·.1)) fun z => z h, this.mpr h]; rfl
  · rw [decide_eq_true (p := k ∉ d.map (·.1)) h]
    cases z : (tdget d k).isSome with
    | false => rfl
    | true => exact absurd (this.mp z) h
theorem pSetD_enc (E : KeyE b enc) (d : List (K × β)) (k : K) (v : β) (h : d.length ≤ 100000) : pSetD (.dic (d.map (encDi enc val))) [enc k, val v] = some (.dic ((tdput d k v).map (encDi enc val))) := by
  show (if dkOk _ _ = true ∧ (d.map (encDi enc val)).length < sizeLine then some (D.dic (dput _ _ _)) else none) = _
  rw [if_pos ⟨dk_enc E d k, by rw [List.length_map, sizeLine_eq]; omega⟩, tdput_enc E]
theorem pSetdef_enc (E : KeyE b enc) (d : List (K × β)) (k : K) (v : β) (h : d.length ≤ 100000) : pSetdef (.dic (d.map (encDi enc val))) [enc k, val v] = some (match tdget d k with
    | some w => (val w, D.dic (d.map (encDi enc val)))
    | none => (val v, D.dic ((d ++ [(k, v)]).map (encDi enc val)))) := by
  show (if dkOk _ _ = true ∧ (d.map (encDi enc val)).length < sizeLine then some (match dget _ _ with
    | some d => (d, D.dic _)
    | none => (val v, D.dic (_ ++ [(enc k, val v)]))) else none) = _
  rw [if_pos ⟨dk_enc E d k, by rw [List.length_map, sizeLine_eq]; omega⟩, tdget_enc E]
  cases tdget d k with
  | some w => rfl
  | none => rw [List.map_append]; rfl
end
/-- d[k] = v -/
theorem setD_ow {K β : Type} {enc : K → D} {val : β → D} {b : Bool} (E : KeyE b enc) {i : Nat} {mk : Sx Opd} {mv : Sx Vl} {e e1 e2 e3 : En} {o : Opd} {d : List (K × β)} {k : K} {v : β} {w : Bool} (hv : mv e = .ok ⟨val v, w⟩ e1) (h0 : e1[i]? = some (.ow (.dic (d.map (encDi enc val))))) (hk : mk e1 = .ok o e2) (hr : res e2 o = some (enc k)) (h1 : e2[i]? = some (.ow (.dic (d.map (encDi enc val))))) (hl : d.length ≤ 100000) (h3 : e2.set i (.ow (.dic ((tdput d k v).map (encDi enc val)))) = e3 := by rfl) : sSetI pSetD i mk mv e = .nx e3 := by
  subst h3
  unfold sSetI
  rw [hv]
  simp only [h0, e_look2, hk, hr, h1]
  rw [pSetD_enc E d k v hl]
/-! ### loops that append -/
theorem forGo_app {α κ : Type} {tg : Tg} {b : SS} (enc : α → D) (f : α → D) (E : List D → κ → En) (xs : List α) (step : ∀ x ∈ xs, ∀ acc : List D, acc.length ≤ 100000 → ∀ k, ∃ e1, setTg tg (enc x) (E acc k) = some e1 ∧ ∃ k', b e1 = .nx (E (acc ++ [f x]) k')) :
    ∀ (acc : List D) (k : κ), acc.length + xs.length ≤ 100000 → ∃ k', forGo tg b (xs.map enc) (E acc k) = .nx (E (acc ++ xs.map f) k') := by
  induction xs with
  | nil => intro acc k _; exact ⟨k, by rw [List.map_nil, List.map_nil, List.append_nil]; rfl⟩
  | cons x xs ih =>
    intro acc k hl
    rw [List.length_cons] at hl
    obtain ⟨e1, h1, k1, h2⟩ := step x (.head _) acc (by omega) k
    obtain ⟨k', h3⟩ := ih (fun y hy => step y (.tail _ hy)) (acc ++ [f x]) k1 (by simp; omega)
    refine ⟨k', ?_⟩
    rw [List.map_cons, List.map_cons, List.append_cons acc (f x)]
    unfold forGo
    rw [h1]
    show (match b e1 with | .nx e2 => forGo tg b (xs.map enc) e2 | .ct e2 => forGo tg b (xs.map enc) e2 | .bk e2 => .nx e2 | r => r) = _
    rw [h2]
    exact h3
/-- a loop whose state is a fold -/
theorem forGo_fold {α σ κ : Type} {tg : Tg} {b : SS} (enc : α → D) (f : σ → α → σ) (P : σ → Prop) (E : σ → κ → En) (xs : List α) (step : ∀ x ∈ xs, ∀ s, P s → ∀ k, ∃ e1, setTg tg (enc x) (E s k) = some e1 ∧ ∃ k', b e1 = .nx (E (f s x) k') ∧ P (f s x)) :
    ∀ (s : σ) (k : κ), P s → ∃ k', forGo tg b (xs.map enc) (E s k) = .nx (E (xs.foldl f s) k') ∧ P (xs.foldl f s) := by
  induction xs with
  | nil => intro s k hp; exact ⟨k, rfl, hp⟩
  | cons x xs ih =>
    intro s k hp
    obtain ⟨e1, h1, k1, h2, h3⟩ := step x (.head _) s hp k
    obtain ⟨k', h4, h5⟩ := ih (fun y hy => step y (.tail _ hy)) (f s x) k1 h3
    refine ⟨k', ?_, h5⟩
    rw [List.map_cons, List.foldl_cons]
    unfold forGo
    rw [h1]
    show (match b e1 with | .nx e2 => forGo tg b (xs.map enc) e2 | .ct e2 => forGo tg b (xs.map enc) e2 | .bk e2 => .nx e2 | r => r) = _
    rw [h2]
    exact h4

/-! the same, with the data in view -/
section
variable {e e1 e2 : En} {m n : Sx Opd} {o o2 : Opd} {d d2 d3 : D} {w : Bool}
theorem oV {m : Sx Vl} (h : m e = .ok ⟨d, w⟩ e1) : oVal m e = .ok (.dt d) e1 := oVal_of h
theorem ixV (h : m e = .ok o e1) (h2 : n e1 = .ok o2 e2) (hr : res e2 o = some d) (hr2 : res e2 o2 = some d2) (hp : pIxA [d, d2] = some ⟨d3, w⟩) : oVal (sPrim pIxA [m, n]) e = .ok (.dt d3) e2 := oVal_of (prim2 h h2 hr hr2 hp)
theorem pV1 {p : List D → Option Vl} (h : m e = .ok o e1) (hr : res e1 o = some d) (hp : p [d] = some ⟨d3, w⟩) : oVal (sPrim p [m]) e = .ok (.dt d3) e1 := oVal_of (prim1 h hr hp)
theorem pV2 {p : List D → Option Vl} (h : m e = .ok o e1) (h2 : n e1 = .ok o2 e2) (hr : res e2 o = some d) (hr2 : res e2 o2 = some d2) (hp : p [d, d2] = some ⟨d3, w⟩) : oVal (sPrim p [m, n]) e = .ok (.dt d3) e2 := oVal_of (prim2 h h2 hr hr2 hp)
theorem oN {i : Nat} {s : Slot} (h : e[i]? = some s) (hl : s.look = some d) : oName i e = .ok (.sl i) e := by
  rw [e_oName, h]
  simp only [hl]
theorem rN {i : Nat} {s : Slot} (h : e[i]? = some s) (hl : s.look = some d) : res e (.sl i) = some d := by
  rw [e_res1, h]
  exact hl
end

theorem tup4 {e e1 e2 e3 e4 : En} {m1 m2 m3 m4 : Sx Opd} {d1 d2 d3 d4 : D} (h1 : m1 e = .ok (.dt d1) e1) (h2 : m2 e1 = .ok (.dt d2) e2) (h3 : m3 e2 = .ok (.dt d3) e3) (h4 : m4 e3 = .ok (.dt d4) e4) : sTup [m1, m2, m3, m4] e = .ok (fz (.tup [d1, d2, d3, d4])) e4 := by
  rw [e_tup]; simp only [e_ops1, e_ops0, h1, h2, h3, h4, Out.bind_ok, e_dts1, e_dts0, Option.map_some]; exact if_pos (sz_le (by simp))

/-- a comprehension without a test whose items draw -/
theorem sComp_drawA {α β : Type} (enc : α → D) (f : α → β → D) (Q : α → β → Prop) (E : Int → En) {vs : List Nat} {tg : Tg} {s : Sx Src} {el : Sx Opd} {ck : Option (Nat × D)} (xs : List α) {a0 a1 : Int} (ha : 0 ≤ a1)
    (h : s (E a0) = .ok ⟨xs.map enc, ck⟩ (E a1)) (hc : ∀ a, (hidOk vs (E a) && (Src.apart ⟨[], ck⟩ vs) && tg.ix.all vs.contains) = true) (ok : ∀ a, Src.ok ⟨[], ck⟩ (wipeE vs (E a)))
    (hre : ∀ a b, restoreE vs (E a) (wipeE vs (E b)) = E b)
    (step : ∀ x ∈ xs, ∀ a, 0 ≤ a → ∃ e1, setTg tg (enc x) (wipeE vs (E a)) = some e1 ∧ ∃ y e3 b, el e1 = .ok (.dt (f x y)) e3 ∧ Q x y ∧ 0 ≤ b ∧ wipeE vs e3 = wipeE vs (E b)) :
    ∃ (ys : List (α × β)) (b : Int), 0 ≤ b ∧ sComp vs tg s tTrue el (E a0) = .ok (nw (.lst (ys.map fun y => f y.1 y.2))) (E b) ∧ ys.map (·.1) = xs ∧ ∀ y ∈ ys, Q y.1 y.2 := by
  have key : ∀ (l : List α), (∀ x ∈ l, x ∈ xs) → ∀ a, 0 ≤ a → ∃ (ys : List (α × β)) (b : Int), 0 ≤ b ∧ compGo ⟨xs.map enc, ck⟩ vs tg tTrue el (l.map enc) (wipeE vs (E a)) = .ok (ys.map fun y => f y.1 y.2) (wipeE vs (E b)) ∧ ys.map (·.1) = l ∧ ∀ y ∈ ys, Q y.1 y.2 := by
    intro l
    induction l with
    | nil =>
      intro _ a ha
      refine ⟨[], a, ha, ?_, rfl, fun _ z => by cases z⟩
      rw [List.map_nil]
      unfold compGo
      rw [if_pos (show Src.ok ⟨xs.map enc, ck⟩ (wipeE vs (E a)) from ok a)]
      rfl
    | cons x l ih =>
      intro hl a ha
      obtain ⟨e1, h1, y, e3, b, g1, g2, g3, g4⟩ := step x (hl x (.head _)) a ha
      have hgo : compGo ⟨xs.map enc, ck⟩ vs tg tTrue el ((x :: l).map enc) (wipeE vs (E a)) = ((noX tTrue e1).bind fun k e2 => if k = true then ((noX el e2).bind fun o e3 => match o with
          | .dt d => (compGo ⟨xs.map enc, ck⟩ vs tg tTrue el (l.map enc) (wipeE vs e3)).bind fun ds e4 => .ok (d :: ds) e4
          | .sl _ => .stuck)
        else compGo ⟨xs.map enc, ck⟩ vs tg tTrue el (l.map enc) (wipeE vs e2)) := by
        rw [List.map_cons]
        unfold compGo
        rw [if_pos (show Src.ok ⟨xs.map enc, ck⟩ (wipeE vs (E a)) from ok a), h1]
        cases l <;> rfl
      rw [hgo, noX_of (show tTrue e1 = .ok true e1 from rfl), Out.bind_ok]
      obtain ⟨ys, c, i1, i2, i3, i4⟩ := ih (fun z hz => hl z (.tail _ hz)) b g3
      refine ⟨(x, y) :: ys, c, i1, ?_, by rw [List.map_cons, i3], fun z hz => ?_⟩
      · rw [if_pos rfl, noX_of g1, Out.bind_ok]
        show (compGo ⟨xs.map enc, ck⟩ vs tg tTrue el (l.map enc) (wipeE vs e3)).bind _ = _
        rw [g4, i2]
        rfl
      · rcases List.mem_cons.mp hz with e | hz
        · subst e; exact g2
        · exact i4 z hz
  obtain ⟨ys, b, i1, i2, i3, i4⟩ := key xs (fun _ h => h) a1 ha
  refine ⟨ys, b, i1, ?_, i3, i4⟩
  rw [sComp_of h (hc a1) i2, hre]
end Ev
set_option Elab.async false
set_option linter.all false
set_option autoImplicit false
set_option maxRecDepth 100000
set_option maxHeartbeats 4000000
/-! The text's own error: super().__init__(reason); self.reason = reason. -/
namespace PySem
namespace TalkX
open PySem.W PySem.Calls PyProof.Rows PySem.HandSPX
def iA : Arguments := { posonlyargs := [], args := [{ arg := "self", annotation := none, pos := ⟨4, 17, 4, 21⟩ }, { arg := "reason", annotation := none, pos := ⟨4, 23, 4, 29⟩ }], vararg := none, kwonlyargs := [], kw_defaults := [], kwarg := none, defaults := [] }
def iB : List Stmt := [.Expr (.Call (.Attribute (.Call (.Name "super" ⟨5, 8, 5, 13⟩) [] [] ⟨5, 8, 5, 15⟩) "__init__" ⟨5, 8, 5, 24⟩) [.Name "reason" ⟨5, 25, 5, 31⟩] [] ⟨5, 8, 5, 32⟩) ⟨5, 8, 5, 32⟩, .Assign [.Attribute (.Name "self" ⟨6, 8, 6, 12⟩) "reason" ⟨6, 8, 6, 19⟩] (.Name "reason" ⟨6, 22, 6, 28⟩) ⟨6, 8, 6, 28⟩]
def iS : Scope := { kind := .function, names := [(PySem.Str.ofString "self", .local), (PySem.Str.ofString "reason", .local), (PySem.Str.ofString "__class__", .free), (PySem.Str.ofString "super", .globalImplicit)], isGenerator := false, isCoroutine := false, more := [] }
abbrev veB : List Value := [.type "ValueError", .type "Exception", .type "BaseException", .type "object"]
/-- what the written part says of TalkError, at C, and of its __init__, at fI -/
structure Txt (prog : Program) (K : Frag) (mg : Str → Option Value) (C fI : Addr) : Prop where
  gC : mg "TalkError" = some (.ref C)
  ei : excInitIn K C veB "ValueError.__new__" = true
  cd : ∃ cd, clsIn K C = some cd ∧ refsVE cd.mro = true ∧ cd.hasDict = true
  sa : findIn K (.ref C) "__setattr__" = some (some (.builtin "object.__setattr__"))
  ga : findIn K (.ref C) "__getattribute__" = some (some (.builtin "BaseException.__getattribute__"))
  gg : findIn K (.ref C) "__getattr__" = some none
  noN : findIn K (.ref C) "reason" = some none
  iC : findIn K (.ref C) "__init__" = some (some (.ref fI))
  tC : typeIn K (.ref fI) = some (.type "function")
  kC : keepIn K (.ref C) = true
  exC : subIn K (.ref C) (.type "BaseException") = some true
  veC : subIn K (.ref C) (.type "ValueError") = some true
  tyC : typeIn K (.ref C) = some (.type "type")
  hdC : hasDictIn K C = true
  te : exmOne K (.ref C) (.ref C) = some true
  su : ks_superIn K C C "__init__" = some (some (.builtin "ValueError.__init__"))
  mr : mroIn K C (.ref C) = some true
  st : nsIn K cStatics "thirdparty.any" = some none
  fs : mg "super" = none
  top : (prog.main.scope.names.lookup ("super" : Str)).isSome = false
  fn : ∃ (oc : Value) (od : Option Addr) (doc pm : Value) (an : Option Addr) (cda : Addr) (ct : Value) (osl : Array (Option Value)) (cc : Addr),
    K.lookup fI = some ⟨oc, od, .func (ksFn "__init__" "TalkError.__init__" iA iB iS .none .none doc pm an (.ref cda) ct cc), osl⟩ ∧ codeIn K (.ref cda) "TalkError.__init__" = true ∧
    (∃ ccl cdd vs ccs file tf, K.lookup cda = some ⟨ccl, cdd, .fields vs, ccs⟩ ∧ vs[2]? = some (.str file tf) ∧ ((prog.main.file : Str) == file) = true) ∧ ∃ cl cld csl, K.lookup cc = some ⟨cl, cld, .cell (some (.ref C)), csl⟩
structure InitEnd (h h' : Heap) (x C dx t1 : Addr) (v : Value) : Prop where
  keep : ∀ b o, b ≠ x → h.get? b = some o → h'.get? b = some o
  obj : h'.get? x = some { cls := .ref C, dict := some dx, data := .fields #[.ref t1, .none, .none, .none, .bool false, .none] }
  dbig : h.objs.size ≤ dx
  dne : dx ≠ x
  ns : h'.Ns1 dx (fun y => if y = "reason" then some v else none)
structure OwnMade (h h' : Heap) (e C d : Addr) (v : Value) : Prop where
  keep : ∀ b o, h.get? b = some o → h'.get? b = some o
  new : h.objs.size ≤ e
  obj : ∃ oe t1, h'.get? e = some oe ∧ oe.cls = .ref C ∧ oe.dict = some d ∧ oe.data = .fields #[.ref t1, .none, .none, .none, .bool false, .none]
  dbig : h.objs.size ≤ d
  dne : d ≠ e
  ns : h'.Ns1 d (fun y => if y = "reason" then some v else none)
/-- what stands of the module -/
structure Mods (s : Shared) (mg : Str → Option Value) (mb : Str → Option Value) : Prop where
  g : s.heap.Ns mainGlobals mg
  b : s.heap.Ns builtinsNs mb
  su : mb "super" = some (.type "super")
section
variable {prog : Program} {w : World} {A : Around} {E : Value → Shared → Prop} {R : Result → Shared → Prop} {s : Shared} {K : Frag} {mg mb : Str → Option Value} {C fI : Addr}
theorem kept_but {K : Frag} {h h' : Heap} {x : Addr} (X : K.In h) (hx : K.lookup x = none) (k : ∀ b o, b ≠ x → h.get? b = some o → h'.get? b = some o) : K.In h' := fun a o e =>
  k a o (fun z => by rw [z, hx] at e; cases e) (X a o e)
theorem one_size (v : Value) : [v].length ≤ sizeLine := by
  rw [sizeLine_eq]
  exact (by decide : 1 ≤ 16777216)
/-- super().__init__(..) called on a new one -/
theorem call_mw {nm q : Str} {C N : Addr} {bs bm : List Value} {hdct : Bool} {sn : List Str} {sub : List Value} {ab : Bool} {col : Option Bool} {dd : Option Addr} {k0 k1 k2 k3 k5 : Option Value} {h : Heap} {g : Array GenState} {d : Drawn} {t : Nat} {os : OsState}
    {u e t0 : Addr} {rest : List Value} {Q : Value → Shared → Prop} (hC : h.get? C = some (excClassObj nm q C N bs bm hdct sn sub ab col dd k0 k1 k2 k3 k5 "ValueError.__new__")) (he : h.get? e = some (excO C t0)) (hu : h.get? u = some (kxs_mw "ValueError.__init__" e)) (hrest : rest.length ≤ sizeLine)
    (hq : ∀ h' t1, (∀ b o, b ≠ e → h.get? b = some o → h'.get? b = some o) → h'.get? e = some (excO C t1) → Q .none ⟨h', g, d, t, os⟩) :
    wpAny (model prog w) A (call (.ref u) rest) Q E ⟨h, g, d, t, os⟩ := by
  refine wpAny_call (codeAny_of_tree ?_)
  show wpAny _ A.in1 (callAny (.ref u) ⟨rest, []⟩) _ _ _
  simp only [callAny]
  refine wpAny_bind (wpAny_load hu ?_)
  simp only [kxs_mw, show (Value.type "method-wrapper" == Value.type "method" || Value.type "method-wrapper" == Value.type "builtin_function_or_method" || Value.type "method-wrapper" == Value.type "method-wrapper") = true by decide, if_true]
  refine KFB.if_so (by decide) ?_
  refine wpAny_bind (check_bound_init F.excBase_ValueError.toExcCallFacts hC he rfl ?_)
  refine wpAny_bind (wpAny_pure (wpAny_pure ?_))
  refine ⟨Code.quiet_builtin _ (by decide +kernel), codeAny_builtin F.excBase_ValueError.initEntry ?_⟩
  rw [Around.under_plainId F.excBase_ValueError.init.plain _]
  wp_walk
  refine hq _ h.objs.size (fun b o hb ho => ?_) ?_
  · rw [Heap.get?_update_other _ _ (Ne.symm hb)]
    exact Heap.get?_push_of_some _ ho
  · rw [Heap.get?_update_self _ (Heap.get?_push_of_some _ he) rfl]
    rfl
theorem at_init (T : Txt prog K mg C fI) {x t0 : Addr} {v : Value} (X : K.In s.heap) (hlim : s.heap.NoLimit) (hx : s.heap.get? x = some (excO C t0)) (hnx : K.lookup x = none) (hroom : A.depth < recursionLimit) (MG : Mods s mg mb)
    (hq : ∀ h' tk dx t1, InitEnd s.heap h' x C dx t1 v → R (.ok (.ret .none)) { s with heap := h', toks := tk }) :
    codeAny (model prog w) A (.call (.ref fI) ⟨[.ref x, v], []⟩) R s := by
  obtain ⟨oc, od, doc, pm, an, cda, ct, osl, cc, ho, hcd, ⟨ccl, cdd, cvs, ccs, file, tf, hcode, hvs, hfile⟩, cl, cld, csl, hcell⟩ := T.fn
  obtain ⟨cd, hcl, hmro, hdict⟩ := T.cd
  have hcl2 : ∀ z ∈ (ksFn "__init__" "TalkError.__init__" iA iB iS .none .none doc pm an (.ref cda) ct cc).scope.names, z.2 ≠ .cell := (by decide : ∀ z ∈ iS.names, z.2 ≠ .cell)
  refine ks_codeAny_call_defAt (fd := ksFn "__init__" "TalkError.__init__" iA iB iS .none .none doc pm an (.ref cda) ct cc) (body := iB) (binds := [("self", .ref x), ("reason", v)])
    hroom (X _ _ ho) rfl hlim (codeRec_of X hcd) rfl (BindsTo.of_eq (by first | rfl | with_unfolding_all rfl)) hcl2 (by intro y hy; rcases List.mem_cons.mp hy with rfl | hy; rfl; rcases List.mem_cons.mp hy with rfl | hy; rfl; cases hy) (fun h₀ hns hk => ?_)
  have X0 : K.In h₀ := X.keeps hk
  have hx0 := hk _ _ hx
  have I0 : InstAt h₀ x (excO C t0) C none := ⟨hx0, rfl, rfl, trivial⟩
  have hxC : x ≠ C := ks_ne X0 I0 hcl
  have hCo : ∃ oC, h₀.get? C = some oC ∧ oC.data = .cls cd := by
    unfold clsIn at hcl
    split at hcl
    · rename_i ho1
      cases hcl
      exact ⟨_, X0 _ _ ho1, rfl⟩
    · cases hcl
  obtain ⟨oC, hC1, hC2⟩ := hCo
  -- super().__init__(reason)
  refine ks_wpAt_execs_cons ?_
  refine ks_wpAt_Expr_any ?_
  refine ks_wpAt_MethodCall ?_
  refine ks_wpAt_super_base (env := ksEnv "TalkError.__init__" iS s.heap.objs.size fI (.ref cda) cc) rfl rfl rfl rfl (X0 _ _ ho) rfl rfl rfl (X0 _ _ hcode) rfl hvs hfile T.top ?_
  refine ks_loadName_global rfl rfl (Calls.loadGlobal_builtin (env := ksEnv "TalkError.__init__" iS s.heap.objs.size fI (.ref cda) cc) (MG.g.keeps hk) T.fs (MG.b.keeps hk) MG.su ⟨rfl, ?_⟩)
  refine wpAny_loadName_free rfl rfl rfl ⟨_, X0 _ _ hcell, rfl⟩ ?_
  refine wpAny_loadName_local rfl rfl hns (by first | rfl | with_unfolding_all rfl | kernel_rfl) ?_
  refine ks_wpAny_isType_cls hC1 hC2 ⟨rfl, ?_⟩
  refine ks_wpAny_call_super hC1 hC2 I0.at_ I0.cls (fun c e => by cases e) (looks_mroIn X0 T.mr) (fun h1 e1 k1 => ?_)
  have X1 : K.In h1 := X0.keeps k1
  have hx1 := k1 _ _ hx0
  have hIs : Looks (model prog w) h1 (isInstance (.ref x) (.type "ValueError")) true := (show InstAt h1 x (excO C t0) C none from ⟨hx1, rfl, rfl, trivial⟩).type.andThen (looks_subIn X1 T.veC)
  have hal : alongIn K "__init__" ((cd.mro.dropWhile (· != .ref C)).drop 1) = some (some (.builtin "ValueError.__init__")) := by
    have z := T.su
    unfold ks_superIn at z
    rw [hcl] at z
    exact z
  refine kxs_getMethod kxs_ValueError e1 (looks_opaque X1 T.st) (l₀ := cd.mro) (fun A Q E s k q => wpAny_bind ((looks_clsIn X1 hcl) A _ E s k (wpAny_pure q))) rfl X1 hal hIs hxC (by decide) ?_
  -- the call
  have k2 : ∀ b o, h1.get? b = some o → (h1.push (kxs_mw "ValueError.__init__" x)).get? b = some o := fun b o e => Heap.get?_push_of_some _ e
  have hu : (h1.push (kxs_mw "ValueError.__init__" x)).get? h1.objs.size = some (kxs_mw "ValueError.__init__" x) := Heap.get?_push_at rfl rfl
  have hns2 := (hns.keeps k1).keeps k2
  have hCx : ∃ nm N qn bs bm hdct sn sub ab col dd k0 k1 k2 k3 k5, (h1.push (kxs_mw "ValueError.__init__" x)).get? C = some (excClassObj nm qn C N bs bm hdct sn sub ab col dd k0 k1 k2 k3 k5 "ValueError.__new__") ∧ ∀ X : String, bm.contains (.type X) = veB.contains (.type X) := excInit_of (X1.keeps k2) T.ei
  obtain ⟨nm, N, qn, bs, bm, hdct, sn, sub, ab, col, dd, c0, c1, c2, c3, c5, hCe, _⟩ := hCx
  refine kxs_callWith1 (i := "ValueError.__init__") (x := x) (news := [(h1.objs.size, kxs_mw "ValueError.__init__" x)]) (h₀ := h1) (L := h1.objs.size + 1) (s := { s with heap := h1.push (kxs_mw "ValueError.__init__" x), toks := s.toks + 2 + 1 }) ?_ List.mem_cons_self ?_
  · intro p hp
    rcases List.mem_cons.mp hp with rfl | hp
    · refine ⟨hu, Nat.ne_of_lt (Nat.lt_succ_self _), ?_⟩
      cases z : h1.get? h1.objs.size with
      | none => rfl
      | some o => exact absurd (Heap.lt_size z) (Nat.lt_irrefl _)
    · cases hp
  refine spliced_more (wpAny_Name (wpAny_loadName_local rfl rfl hns2 (by first | rfl | with_unfolding_all rfl | kernel_rfl) ?_) (by decide)) 
  refine spliced_none ⟨hu, ?_⟩
  refine call_mw hCe (k2 _ _ hx1) hu (one_size v) fun h3 t3 k3 hx3 => ?_
  have hxL : s.heap.objs.size ≠ x := Nat.ne_of_gt (Heap.lt_size hx)
  -- self.reason = reason
  show wpAt _ _ _ (execs _ _) _ _ _
  have X3 : K.In h3 := kept_but (X1.keeps k2) hnx k3
  have hns3 : h3.Ns s.heap.objs.size (fun y => [(("self" : Str), Value.ref x), ("reason", v)].reverse.lookup y) := by
    obtain ⟨oL, es, ep, hL, r⟩ := hns2
    exact ⟨oL, es, ep, k3 _ _ hxL hL, r⟩
  refine wpAt_of_wpAny (wpAny_execs_cons (plainObj_wpAny_Assign_Attribute ?_))
  refine wpAny_Name (wpAny_loadName_local rfl rfl hns3 (by first | rfl | with_unfolding_all rfl | kernel_rfl) ?_) (by decide)
  refine wpAny_Name (wpAny_loadName_local rfl rfl hns3 (by first | rfl | with_unfolding_all rfl | kernel_rfl) ?_) (by decide)
  refine set_plain X3 (ox := excO C t3) (od := none) ⟨hx3, rfl, rfl, trivial⟩ T.sa ?_
  refine exc_osa X3 hx3 hcl hmro hdict T.noN (fun h₃ tk₃ dx k₃ dn dne hx₃ hn₃ => ?_)
  show wpAny _ _ (execs _ _) _ _ _
  have z1 : s.heap.objs.size ≤ h3.objs.size := Nat.le_of_lt (by obtain ⟨oL, es, ep, hL, r⟩ := hns3; exact Heap.lt_size hL)
  refine wpAny_execs_nil (hq h₃ tk₃ dx t3 ⟨fun b o hb e => k₃ b o hb (k3 b o hb (k2 _ _ (k1 _ _ (hk b o e)))), hx₃, Nat.le_trans z1 dn, dne, hn₃⟩)
theorem made (T : Txt prog K mg C fI) {v : Value} (X : K.In s.heap) (hlim : s.heap.NoLimit) (hroom : A.depth + 1 < recursionLimit) (MG : Mods s mg mb)
    (hq : ∀ h' tk e d, OwnMade s.heap h' e C d v → R (.ok (.ret (.ref e))) { s with heap := h', toks := tk }) :
    codeAny (model prog w) A (.call (.ref C) ⟨[v], []⟩) R s := by
  obtain ⟨nm, N, q, bs, bm, hdct, sn, sub, ab, col, dd, k0, k1, k2, k3, k5, hC, hbm⟩ := excInit_of X T.ei
  obtain ⟨hp, g, dr, tk, os⟩ := s
  have k : ∀ b o, hp.get? b = some o → ((hp.push (kdv_tup [v])).push (excO C hp.objs.size)).get? b = some o := fun b o e => Heap.get?_push_of_some _ (Heap.get?_push_of_some _ e)
  have hget : ((hp.push (kdv_tup [v])).push (excO C hp.objs.size)).get? (hp.objs.size + 1) = some (excO C hp.objs.size) := by heap_get
  have hnx : K.lookup (hp.objs.size + 1) = none := by
    cases e : K.lookup (hp.objs.size + 1) with
    | none => rfl
    | some o =>
      have z : hp.get? (hp.objs.size + 1) = some o := X _ _ e
      exact absurd (Nat.lt_of_succ_lt (Heap.lt_size z)) (Nat.lt_irrefl _)
  refine call_own F.excBase_ValueError hbm hC (looks_findIn X T.iC) (fun self => bind_fn X self T.tC) (one_size v) ?_
  refine at_init (s := ⟨(hp.push (kdv_tup [v])).push (excO C hp.objs.size), g, dr, tk, os⟩) T (X.keeps k) (hlim.keeps k) hget hnx ?_ ⟨MG.g.keeps k, MG.b.keeps k, MG.su⟩ fun h' tk' dx t1 ⟨k', hx, dn, dne, hns⟩ => ?_
  · show A.depth + 1 < recursionLimit
    exact hroom
  · have old : ∀ b o, hp.get? b = some o → h'.get? b = some o := fun b o e => k' b o (Nat.ne_of_lt (Nat.lt_succ_of_lt (Heap.lt_size e))) (k b o e)
    have z : hp.objs.size + 1 + 1 ≤ dx := by
      first
        | (simpa only [Heap.size_push] using dn)
        | exact dn
        | (have q := dn; rw [Heap.size_push, Heap.size_push] at q; exact q)
    exact ⟨rfl, hq h' tk' (hp.objs.size + 1) dx ⟨old, Nat.le_succ _, ⟨_, _, hx, rfl, rfl, rfl⟩, Nat.le_trans (Nat.le_trans (Nat.le_succ _) (Nat.le_succ _)) z, dne, hns⟩⟩
end
end TalkX
end PySem
set_option Elab.async false
set_option linter.all false
set_option autoImplicit false
set_option maxRecDepth 100000
set_option maxHeartbeats 2000000
/-! raise TalkError(..). -/
namespace L2
open PySem PySem.Spec PyProof.Rows
theorem relO_one {v : V} {v' : Value} (r : RelV v v') (x f : Str) : RelO (List.lookup f [(x, v)]) (if f = x then some v' else none) := by
  by_cases hw : f = x
  · subst hw
    rw [if_pos rfl]
    have q : List.lookup f [(f, v)] = some v := by simp [List.lookup]
    rw [q]
    exact r
  · rw [if_neg hw]
    have qw : (f == x) = false := by simpa using hw
    have q2 : List.lookup f [(x, v)] = none := by simp [List.lookup, qw]
    rw [q2]
    trivial
section
variable {X : Cx} {C fI : Addr}
/-- TalkError(e) -/
def tMkTalk (C : Addr) (ta : TA) : St → Hp → XK → Prop := fun σ H Q => ta σ H fun vs H1 => ∃ v, vs = [v] ∧ ∀ d, H1 d = none → Q (.ref C) (some d) (upd H1 d (.xd [(("reason" : Str), v)]))
theorem pmkN_talk {a : Expr} {ta : TA} {p pos : Pos} (T : PySem.TalkX.Txt X.prog X.K X.mg C fI) (hr : X.A.depth + 1 < recursionLimit) (ha : PA X [a] ta) (hg : Gl X "TalkError")
    (he : starEach (a :: []) X.env = (false, eval a X.env) :: starEach [] X.env := by rfl) (hpl : (backTo pos (starEach [] X.env)).any (·.1) = false := by rfl) :
    L2N.PMk X (.Call (.Name "TalkError" p) [a] [] pos) (tMkTalk C ta) := by
  intro pins s σ H Q I h
  refine wpAny_Call_Name_kw (ld_glob I hg T.gC ?_)
  refine PySem.W.callWith_K (h₀ := X.base) I.ok.mod.kin T.kC (thn (ha.run pos pins s σ H _ I h) fun us s1 hh => ?_) he hpl
  obtain ⟨vs, H1, I1, r1, v, ev, q1⟩ := hh
  subst ev
  refine ⟨I1.kIn, ?_⟩
  cases r1 with
  | cons rv rn =>
    rename_i v' us'
    cases rn
    show wpAny _ _ (call (.ref C) [v']) _ _ _
    have hlim := I1.nolimit
    obtain ⟨mb, hb1, hb2⟩ := I1.mod.blt
    have MG : PySem.TalkX.Mods s1 X.mg mb := ⟨I1.mod.glob.keeps I1.bk, hb1.keeps I1.bk, (hb2 "super" (by decide)).trans (by first | boot_by_name | rfl | kernel_rfl)⟩
    obtain ⟨hp, g, dr, tk, os⟩ := s1
    refine wpAny_call (PySem.TalkX.made T I1.kIn hlim hr MG fun h' tk' e d M => ?_)
    show L2N.MkP X pins σ Q (.ref e) ⟨h', g, dr, tk', os⟩
    obtain ⟨oe, t1, hoe, hc, hd, hdat⟩ := M.obj
    have hns := M.ns
    obtain ⟨G', g1, g2⟩ := restrict h' fun b => decide (b ≠ e)
    have gk : ∀ b, b ≠ e → G'.get? b = h'.get? b := fun b hb => g1 b (decide_eq_true hb)
    have ge : G'.get? e = none := g2 e (by simp)
    have old : ∀ b o, hp.get? b = some o → G'.get? b = some o := fun b o q => (gk b (Nat.ne_of_lt (Nat.lt_of_lt_of_le (Heap.lt_size q) M.new))).trans (M.keep b o q)
    have ob : ObjOk X.prog X.w (upd H1 d (.xd [(("reason" : Str), v)])) G' d (.xd [(("reason" : Str), v)]) :=
      ⟨_, hns.at (fun o q => (gk d M.dne).trans q), fun f => relO_one rv "reason" f⟩
    have J : Inv X pins σ (upd H1 d (.xd [(("reason" : Str), v)])) ⟨G', g, dr, tk', os⟩ := I1.laid (t' := tk') old M.dbig ob
    refine ⟨e, oe, _, ⟨G', g, dr, tk', os⟩, _, .ref C, some d, rfl, J, fun b o q => ?_, ge, hoe, ⟨hc, hd, fun vs e => by rw [hdat] at e; cases e; rfl⟩, hdat, rfl, ?_, rfl, I1.bare, raises_own T.exC T.tyC, q1 d (I1.hok.fresh M.dbig)⟩
    · by_cases hb : b = e
      · have q' : G'.get? b = some o := q
        rw [hb, ge] at q'; cases q'
      · exact (gk b hb).symm.trans q
    · rw [upd_ne (Ne.symm M.dne)]
      exact I1.hok.fresh M.new
theorem pmk_talk {a : Expr} {ta : TA} {p pos : Pos} (T : PySem.TalkX.Txt X.prog X.K X.mg C fI) (hr : X.A.depth + 1 < recursionLimit) (ha : PA X [a] ta) (hg : Gl X "TalkError")
    (he : starEach (a :: []) X.env = (false, eval a X.env) :: starEach [] X.env := by rfl) (hpl : (backTo pos (starEach [] X.env)).any (·.1) = false := by rfl) :
    PMk X (.Call (.Name "TalkError" p) [a] [] pos) (tMkTalk C ta) := by
  intro pins s σ H Q I h
  refine wpAny_mono (pmkN_talk T hr ha hg he hpl pins s σ H Q I h) (fun u s1 z => ?_) fun _ _ z => z
  obtain ⟨a, oe, vs, sI, H', cls, d, e1, I', k, na, ha', hz, r⟩ := z
  exact ⟨a, oe, vs, sI, H', cls, d, e1, I', k, na, ha', hz.zc, r⟩
end
end L2
namespace Ev
open PySem L2 PySem.Spec PyProof.Rows
theorem dep1 {k : Nat} {A : Around} (hr : Room k A) : A.depth + 1 < recursionLimit := by have := hr.dp; omega
/-- raise TalkError(..) -/
def sRaise (x : Str) : SS := fun e => .exc ⟨"TalkError", [("reason", .str x)]⟩ e
structure TalkG (P : Program) (K : PySem.W.Frag) (mg : Str → Option Value) (cl : Str → Option Addr) : Prop where
  ex : ∃ C fI, cl "TalkError" = some C ∧ PySem.TalkX.Txt P K mg C fI
section
variable {X : Cx} {cl : Str → Option Addr} {W : WX} {p pos pos2 pos3 : Pos} {j : Nat} {x : Str}
theorem raise_read {C : Addr} {ta : TA} (hcl : cl "TalkError" = some C) (hx : PyData.strOk x = true ∧ x.length ≤ sizeLine) {D : Ends} {σ : L2.St} {H : Hp} (hta : ∀ Q, Q [.str x] H → ta σ H Q) (h : tS (gl X cl) W (sRaise x) D σ H) : tMkTalk C ta σ H fun cls d H' => W cls d σ H' := by
  obtain ⟨G, e, M, r, h⟩ := h
  refine hta _ ⟨_, rfl, fun d hd => ?_⟩
  exact h (.ref C) (some d) σ (upd M d (.xd [("reason", .str x)])) _ (r.ext (.newM r.sub hd)) ⟨C, d, _, rfl, hcl, rfl, upd_same, .cons (.str x hx) .nil⟩
theorem zRaise (hc : X.calm = true) (T : TalkG X.prog X.K X.mg cl) (hr : X.A.depth + 1 < recursionLimit) (tk : L2.Takes X W) (hx : strB x = true := by kernel_rfl) (h : glB X "TalkError" = true := by kernel_rfl)
    (he : starEach (.Constant (.str x) j p :: []) X.env = (false, eval (.Constant (.str x) j p) X.env) :: starEach [] X.env := by rfl) (hpl : (backTo pos (starEach [] X.env)).any (·.1) = false := by rfl) :
    PS X (.Raise (some (.Call (.Name "TalkError" pos3) [.Constant (.str x) j p] [] pos)) none pos2) (tS (gl X cl) W (sRaise x)) := by
  obtain ⟨C, fI, hcl, T⟩ := T.ex
  exact PS_imp (L2.ps_raise hc tk (pmk_talk T hr (pa_cons pe_str pa_nil) (glB_of h).1 he hpl)) fun D σ H w => raise_read hcl (strB_of hx) (fun Q q => q) w
theorem zRaiseN (hc : X.calm = true) (T : TalkG X.prog X.K X.mg cl) (hr : X.A.depth + 1 < recursionLimit) (tk : L2N.Takes X W) (hx : strB x = true := by kernel_rfl) (h : glB X "TalkError" = true := by kernel_rfl)
    (he : starEach (.Constant (.str x) j p :: []) X.env = (false, eval (.Constant (.str x) j p) X.env) :: starEach [] X.env := by rfl) (hpl : (backTo pos (starEach [] X.env)).any (·.1) = false := by rfl) :
    PS X (.Raise (some (.Call (.Name "TalkError" pos3) [.Constant (.str x) j p] [] pos)) none pos2) (tS (gl X cl) W (sRaise x)) := by
  obtain ⟨C, fI, hcl, T⟩ := T.ex
  exact PS_imp (L2N.ps_raise hc tk (pmkN_talk T hr (pa_cons pe_str pa_nil) (glB_of h).1 he hpl)) fun D σ H w => raise_read hcl (strB_of hx) (fun Q q => q) w
theorem zRaiseH (hc : L2H.HotC X) (T : TalkG X.prog X.K X.mg cl) (hr : X.A.depth + 1 < recursionLimit) (tk : L2.Takes X W) (hx : strB x = true := by kernel_rfl) (h : glB X "TalkError" = true := by kernel_rfl)
    (he : starEach (.Constant (.str x) j p :: []) X.env = (false, eval (.Constant (.str x) j p) X.env) :: starEach [] X.env := by rfl) (hpl : (backTo pos (starEach [] X.env)).any (·.1) = false := by rfl) :
    PS X (.Raise (some (.Call (.Name "TalkError" pos3) [.Constant (.str x) j p] [] pos)) none pos2) (tS (gl X cl) W (sRaise x)) := by
  obtain ⟨C, fI, hcl, T⟩ := T.ex
  exact PS_imp (L2H.ps_raiseH hc tk (pmkN_talk T hr (pa_cons pe_str pa_nil) (glB_of h).1 he hpl)) fun D σ H w => raise_read hcl (strB_of hx) (fun Q q => q) w
end
end Ev
set_option Elab.async false
set_option linter.all false
set_option autoImplicit false
set_option maxRecDepth 100000
set_option maxHeartbeats 2000000
/-! Defs that may raise; their calls; what catches. -/
namespace Ev
open PySem L2 PySem.Spec PyProof.Rows
def runFX (t : SS) (modes : List Bool) (n : Nat) : List D → Res Vl := fun ds => if ds.length = modes.length then (match t (startE modes ds n) with
  | .rt v _ => .ok v
  | .nx _ => .ok (fz .non)
  | .exc x _ => .exc x
  | _ => .stuck) else .stuck
def runBX (t : SS) (m n : Nat) : D → List D → ResB := fun d0 ds => if ds.length = m then (match t (startB d0 ds n) with
  | .rt v e => boxOf v e
  | .nx e => boxOf (fz .non) e
  | .exc x _ => .exc x
  | _ => .stuck) else .stuck
section
variable {g : Gl0} {M H : Hp}
theorem pure_fnX {t : SS} {modes : List Bool} {N : List Str} {vs : List V} {Q : VK} {E : XK} (h : spFn g modes (runFX t modes N.length) vs H Q E) : tS g (fun cls d _ H => E cls d H) t { nx := fun _ H' => Q .non H', rt := Q } (L2.start N vs) H := by
  obtain ⟨M, ds, sm, ar, hF⟩ := h
  refine ⟨_, _, M, rel_start sm ar, ?_⟩
  unfold runFX at hF
  rw [if_pos (argR_len2 ar)] at hF
  have ext : ∀ {e M' σ' H'}, Rel g ⟨H, M, none, fun _ => False, fun a => H a ≠ none⟩ e M' σ' H' → Ext M H M' H' := fun {e M' σ' H'} r => ⟨fun a o e => r.keep a o e nB, r.base, r.sub, fun a ha => by
    rcases r.fresh a ha with z | z | z
    · exact .inl z
    · exact .inr z
    · exact z.elim⟩
  cases q : t (startE modes ds N.length) with
  | rt v e =>
    rw [q] at hF
    intro x σ' M' H' r' vr
    have hF' : Gives g M H v Q := hF
    refine hF' x M' H' (ext r') ?_ ?_
    · obtain ⟨d, b⟩ := v
      cases b with
      | false => exact vr
      | true =>
        obtain ⟨p, o, e1, hp, ro, mp, h0⟩ := vr
        refine ⟨p, o, e1, ?_, hp, ro⟩
        rcases h0 with h0 | h0
        · exact h0
        · exact h0.elim
    · obtain ⟨d, b⟩ := v
      cases b with
      | false => exact fun z => by cases z
      | true =>
        intro _ q0 eq
        obtain ⟨p, o, e1, hp, ro, mp, h0⟩ := vr
        rw [e1] at eq; cases eq
        exact mp
  | nx e =>
    rw [q] at hF
    intro σ' M' H' r'
    have hF' : Gives g M H (fz .non) Q := hF
    exact hF' .non M' H' (ext r') .non (fun z => by cases z)
  | bk e => rw [q] at hF; exact hF.elim
  | ct e => rw [q] at hF; exact hF.elim
  | exc x e =>
    rw [q] at hF
    intro c d σ' M' H' r' xr
    exact hF c d M' H' (ext r') xr
  | stuck => rw [q] at hF; exact hF.elim
theorem pure_bxX {t : SS} {m : Nat} {N : List Str} {vs : List V} {Q : VK} {E : XK} (h : spBx g (List.replicate m false) (runBX t m N.length) vs H Q E) : tS g (fun cls d _ H => E cls d H) t { nx := fun _ H' => Q .non H', rt := Q } (L2.start N vs) H := by
  obtain ⟨b, o, d0, M, us, ds, rfl, hb, ro, mb, sm, ar, hF⟩ := h
  have hl : ds.length = m := by rw [argR_len2 ar, List.length_replicate]
  refine ⟨_, _, M, rel_startB (N := N) sm hb ro mb (all_held ar), ?_⟩
  unfold runBX at hF
  rw [if_pos hl] at hF
  have ext : ∀ {e M' σ' H'}, Rel g ⟨H, M, some b, fun _ => False, fun _ => False⟩ e M' σ' H' → ExtB b M H M' H' := fun {e M' σ' H'} r => ⟨fun a o ne e => r.keep a o e (fun z => by rcases z with z | z; cases z; exact ne rfl; exact z), r.base, r.sub, fun a ha => by
    rcases r.fresh a ha with z | z | z
    · exact .inl z
    · exact .inr z
    · exact z.elim⟩
  have box : ∀ {e M' σ' H' d}, Rel g ⟨H, M, some b, fun _ => False, fun _ => False⟩ e M' σ' H' → e[0]? = some (.bx d) → ∃ o', H' b = some o' ∧ RepO g M' b o' d := fun {e M' σ' H' d} r he => by
    obtain ⟨x, _, a, o', _, ha, ro', _, e2⟩ := r.at he
    have : a = b := by
      have e3 : (some b : Option Addr) = some a := e2
      cases e3; rfl
    subst this
    exact ⟨o', ha, ro'⟩
  cases q : t (startB d0 ds N.length) with
  | rt v e =>
    rw [q] at hF
    intro x σ' M' H' r' vr
    have hF' : (match boxOf v e with
      | .ok v d1 => ∀ z M' H' o', ExtB b M H M' H' → H' b = some o' → RepO g M' b o' d1 → PX g M H M' H' z v → (v.nw = true → ∀ q, z = .ref q → M' q = none) → Q z H'
      | .exc x => ∀ c d M' H', ExtB b M H M' H' → ExR g M' c d x → E c d H'
      | .stuck => False) := hF
    unfold boxOf at hF'
    cases he : e[0]? with
    | none => rw [he] at hF'; exact hF'.elim
    | some s =>
      rw [he] at hF'
      cases s with
      | bx d =>
        obtain ⟨o', hb', ro'⟩ := box r' he
        refine hF' x M' H' o' (ext r') hb' ro' ?_ ?_
        · obtain ⟨d, bb⟩ := v
          cases bb with
          | false => exact vr
          | true =>
            obtain ⟨p, o, e1, hp, ro, mp, h0⟩ := vr
            refine ⟨p, o, e1, ?_, hp, ro⟩
            rcases h0 with h0 | h0
            · exact h0
            · exact h0.elim
        · obtain ⟨d, bb⟩ := v
          cases bb with
          | false => exact fun z => by cases z
          | true =>
            intro _ q0 eq
            obtain ⟨p, o, e1, hp, ro, mp, h0⟩ := vr
            rw [e1] at eq; cases eq
            exact mp
      | _ => exact hF'.elim
  | nx e =>
    rw [q] at hF
    intro σ' M' H' r'
    have hF' : (match boxOf (fz .non) e with
      | .ok v d1 => ∀ z M' H' o', ExtB b M H M' H' → H' b = some o' → RepO g M' b o' d1 → PX g M H M' H' z v → (v.nw = true → ∀ q, z = .ref q → M' q = none) → Q z H'
      | .exc x => ∀ c d M' H', ExtB b M H M' H' → ExR g M' c d x → E c d H'
      | .stuck => False) := hF
    unfold boxOf at hF'
    cases he : e[0]? with
    | none => rw [he] at hF'; exact hF'.elim
    | some s =>
      rw [he] at hF'
      cases s with
      | bx d =>
        obtain ⟨o', hb', ro'⟩ := box r' he
        exact hF' .non M' H' o' (ext r') hb' ro' .non (fun z => by cases z)
      | _ => exact hF'.elim
  | bk e => rw [q] at hF; exact hF.elim
  | ct e => rw [q] at hF; exact hF.elim
  | exc x e =>
    rw [q] at hF
    intro c d σ' M' H' r' xr
    exact hF c d M' H' (ext r') xr
  | stuck => rw [q] at hF; exact hF.elim
end
/-! ### what may pass -/
section
variable {X : Cx} {W : WX}
abbrev PassQ (CX : CXT) (X : Cx) (W : WX) : Prop := ∀ σ, PassesAt CX X σ (WAt W σ)
theorem passNN (tk : L2N.Takes X W) : PassQ (L2N.CX X.prog X.w) X W := fun σ => L2N.passAt tk σ
theorem passLL (tk : L2.Takes X W) : PassQ (L2.CX X.prog X.w) X W := fun σ => L2.passAt tk σ
theorem cx_nl {P : Program} {w : World} {outer : List Env} {H : Hp} {s : Shared} {E : XK} {u : Value} {s' : Shared} (h : L2N.CX P w outer H s E u s') : L2.CX P w outer H s E u s' := by
  obtain ⟨a, B, H', cls, d, e, fl, r⟩ := h
  exact ⟨a, B, H', cls, d, e, L2H.flyingZ_imp (fun o z => L2N.Zn.zc z) fl, r⟩
theorem passNL (tk : L2.Takes X W) : PassQ (L2N.CX X.prog X.w) X W := fun σ pins H s e s' I c => L2.passAt tk σ pins H s e s' I (cx_nl c)
theorem cx_no {P : Program} {w : World} {outer : List Env} {H : Hp} {s : Shared} {E : XK} {u : Value} {s' : Shared} (h : L2.CX P w outer H s E u s') (hE : ∀ c d H, ¬ E c d H) : False := by
  obtain ⟨a, B, H', cls, d, _, _, _, _, _, _, _, z⟩ := h
  exact hE _ _ _ z
theorem passL0 : PassQ (L2.CX X.prog X.w) X W0 := fun σ pins H s e s' I c => (cx_no c fun _ _ _ z => z).elim
theorem passN0 : PassQ (L2N.CX X.prog X.w) X W0 := fun σ pins H s e s' I c => (cx_no (cx_nl c) fun _ _ _ z => z).elim
end
end Ev
set_option Elab.async false
set_option linter.all false
set_option autoImplicit false
set_option maxRecDepth 100000
set_option maxHeartbeats 2000000
/-! Calls of defs that may raise; try. -/
namespace Ev
open PySem L2 PySem.Spec PyProof.Rows
/-- as FnD, ClD, by what may come out -/
structure FnQ (CX : CXT) (P : Program) (w : World) (K : PySem.W.Frag) (mg : Str → Option Value) (base : Heap) (k : Nat) (x : Str) (n : Nat) (sp : Sp) : Prop where
  ex : ∃ f fd ps, FnOk P w K mg base CX k f fd ps sp ∧ mg x = some (.ref f) ∧ PySem.W.keepIn K (.ref f) = true ∧ Binds K fd ps []
structure ClQ (CX : CXT) (P : Program) (w : World) (K : PySem.W.Frag) (mg : Str → Option Value) (base : Heap) (cl : Str → Option Addr) (k : Nat) (x : Str) (sp : Sp) : Prop where
  ex : ∃ C f fd ps, cl x = some C ∧ Mk K C f ∧ FnOk P w K mg base CX k f fd ps sp ∧ mg x = some (.ref C) ∧ Binds K fd ps []
section
variable {X : Cx} {cl : Str → Option Addr} {W : WX} {CX : CXT} {pos pos2 pos3 : Pos} {x : Str} {a : Expr} {es : List Expr} {ms : List (Sx Opd)} {modes : List Bool} {k k' : Nat}
theorem kCallQ {F : List D → Res Vl} (FO : FnQ CX X.prog X.w X.K X.mg X.base k x modes.length (spFn (gl X cl) modes F)) (px : PassQ CX X W) {A : Around} (hr : Room k' A) (hk : k ≤ k') (ha : VA X cl W (a :: es) ms) (h : glB X x = true := by kernel_rfl) (eA : X.A = A := by rfl)
    (he : starEach (a :: es) X.env = (false, eval a X.env) :: starEach es X.env := by rfl) (hpl : (backTo pos (starEach es X.env)).any (·.1) = false := by rfl) : VE X cl W (.Call (.Name x pos2) (a :: es) [] pos) (sCall modes F ms) := by
  subst eA
  obtain ⟨f, fd, ps, ok, hm, hkp, hb⟩ := FO.ex
  obtain ⟨g1, g2⟩ := glB_of h
  exact ve_call (CX := CX) ok (hr.mono hk) g1 hm hkp hb px ha g2 he hpl
theorem kMakeQ {F : D → List D → ResB} (FO : ClQ CX X.prog X.w X.K X.mg X.base cl k x (spBx (gl X cl) modes F)) (px : PassQ CX X W) {A : Around} (hr : Room k' A) (hk : k + 1 ≤ k') (ha : VA X cl W (a :: es) ms) (h : glB X x = true := by kernel_rfl) (eA : X.A = A := by rfl)
    (he : starEach (a :: es) X.env = (false, eval a X.env) :: starEach es X.env := by rfl) (hpl : (backTo pos (starEach es X.env)).any (·.1) = false := by rfl) : VE X cl W (.Call (.Name x pos2) (a :: es) [] pos) (sMake x modes F ms) := by
  subst eA
  obtain ⟨C, f, fd, ps, hC, MK, ok, hm, hb⟩ := FO.ex
  obtain ⟨g1, g2⟩ := glB_of h
  exact ve_make (CX := CX) hC MK ok (hr.mono hk) g1 hm hb (fun t hp => pe_makeSD (E := WAt W) MK ok (hr.mono hk) g1 hm hb .nil px hp g2 he hpl) ha
end
/-! ### defs -/
section
variable {P : Program} {w : World} {K : PySem.W.Frag} {mg : Str → Option Value} {base : Heap} {cl : Str → Option Addr} {x qual : Str} {params : Arguments} {body : List Stmt} {scope : Scope} {f : Addr} {fd : FuncData} {N ps : List Str} {k : Nat}
abbrev WO (E : XK) : WX := fun cls d _ H => E cls d H
/-- what is known in the body of a def that may raise -/
structure InL (X : Cx) (W : WX) : Prop where
  tk : L2.Takes X W
  hp : PassesOwn (model X.prog X.w) X.A X.env X.xe
  pa : ∀ hd : Option Value, PassesOwnAt (model X.prog X.w) (X.A.mark hd) X.A X.env X.xe
structure InN (X : Cx) (W : WX) : Prop where
  tk : L2N.Takes X W
  hp : PassesOwn (model X.prog X.w) X.A X.env X.xe
abbrev ctxL (P : Program) (w : World) (K : PySem.W.Frag) (mg : Str → Option Value) (base : Heap) (N : List Str) (qual : Str) (scope : Scope) (f : Addr) (cdv : Value) (A : Around) (outer : List Env) (s : Shared) (H : Hp) (E : XK) : Cx := cxOf (L2.CX P w) P w K mg base N qual scope f cdv A outer s H E
abbrev ctxN (P : Program) (w : World) (K : PySem.W.Frag) (mg : Str → Option Value) (base : Heap) (N : List Str) (qual : Str) (scope : Scope) (f : Addr) (cdv : Value) (A : Around) (outer : List Env) (s : Shared) (H : Hp) (E : XK) : Cx := cxOf (L2N.CX P w) P w K mg base N qual scope f cdv A outer s H E
theorem def_okL {modes : List Bool} {t : SS} (F : FunD K x qual params body scope [] [] f fd) (S : FnScope N ps scope) (hl : modes.length = ps.length)
    (der : ∀ (cdv : Value) (A : Around) (outer : List Env) (s : Shared) (H : Hp) (E : XK), Room k (ctxL P w K mg base N qual scope f cdv A outer s H E).A → InL (ctxL P w K mg base N qual scope f cdv A outer s H E) (WO E) → VSs (ctxL P w K mg base N qual scope f cdv A outer s H E) cl (WO E) body t) :
    FnOk P w K mg base (L2.CX P w) (k + 1) f fd ps (spFn ⟨P, w, K, cl⟩ modes (runFX t modes N.length)) :=
  F.ok S (fun vs H Q E h => (spFn_len h).trans hl) fun cdv A outer s H vs Q E hr h => ⟨_, der cdv A outer s H E hr ⟨L2.takes_of rfl rfl rfl rfl, L2.passes_of rfl, L2H.passesAt_of rfl⟩, pure_fnX h⟩
theorem bx_okL {m : Nat} {t : SS} (F : FunD K x qual params body scope [] [] f fd) (S : FnScope N ps scope) (hl : m + 1 = ps.length)
    (der : ∀ (cdv : Value) (A : Around) (outer : List Env) (s : Shared) (H : Hp) (E : XK), Room k (ctxL P w K mg base N qual scope f cdv A outer s H E).A → InL (ctxL P w K mg base N qual scope f cdv A outer s H E) (WO E) → VSs (ctxL P w K mg base N qual scope f cdv A outer s H E) cl (WO E) body t) :
    FnOk P w K mg base (L2.CX P w) (k + 1) f fd ps (spBx ⟨P, w, K, cl⟩ (List.replicate m false) (runBX t m N.length)) :=
  F.ok S (fun vs H Q E h => by rw [spBx_len h, List.length_replicate]; exact hl) fun cdv A outer s H vs Q E hr h => ⟨_, der cdv A outer s H E hr ⟨L2.takes_of rfl rfl rfl rfl, L2.passes_of rfl, L2H.passesAt_of rfl⟩, pure_bxX h⟩
theorem def_okN {modes : List Bool} {t : SS} (F : FunD K x qual params body scope [] [] f fd) (S : FnScope N ps scope) (hl : modes.length = ps.length)
    (der : ∀ (cdv : Value) (A : Around) (outer : List Env) (s : Shared) (H : Hp) (E : XK), Room k (ctxN P w K mg base N qual scope f cdv A outer s H E).A → InN (ctxN P w K mg base N qual scope f cdv A outer s H E) (WO E) → VSs (ctxN P w K mg base N qual scope f cdv A outer s H E) cl (WO E) body t) :
    FnOk P w K mg base (L2N.CX P w) (k + 1) f fd ps (spFn ⟨P, w, K, cl⟩ modes (runFX t modes N.length)) :=
  F.ok S (fun vs H Q E h => (spFn_len h).trans hl) fun cdv A outer s H vs Q E hr h => ⟨_, der cdv A outer s H E hr ⟨L2N.takes_of rfl rfl rfl rfl, L2.passes_of rfl⟩, pure_fnX h⟩
theorem bx_okN {m : Nat} {t : SS} (F : FunD K x qual params body scope [] [] f fd) (S : FnScope N ps scope) (hl : m + 1 = ps.length)
    (der : ∀ (cdv : Value) (A : Around) (outer : List Env) (s : Shared) (H : Hp) (E : XK), Room k (ctxN P w K mg base N qual scope f cdv A outer s H E).A → InN (ctxN P w K mg base N qual scope f cdv A outer s H E) (WO E) → VSs (ctxN P w K mg base N qual scope f cdv A outer s H E) cl (WO E) body t) :
    FnOk P w K mg base (L2N.CX P w) (k + 1) f fd ps (spBx ⟨P, w, K, cl⟩ (List.replicate m false) (runBX t m N.length)) :=
  F.ok S (fun vs H Q E h => by rw [spBx_len h, List.length_replicate]; exact hl) fun cdv A outer s H vs Q E hr h => ⟨_, der cdv A outer s H E hr ⟨L2N.takes_of rfl rfl rfl rfl, L2.passes_of rfl⟩, pure_bxX h⟩
end
/-! ### try -/
/-- a TalkError of the body is caught -/
def sTry (b : SS) (h : Exn → SS) : SS := fun e => match b e with
  | .exc x e' => if x.cls = "TalkError" then h x e' else .stuck
  | r => r
/-- nothing is raised -/
def noXs (h : SS) : SS := fun e => match h e with
  | .exc _ _ => .stuck
  | r => r
theorem noXs_post {g : Gl0} {W : WX} {G : Gh} {D : Ends} {h : SS} {e : En} (w : sPost g W G D (noXs h e)) : sPost g W0 G D (h e) := by
  unfold noXs at w
  cases q : h e with
  | nx e' => rw [q] at w; exact w
  | rt v e' => rw [q] at w; exact w
  | bk e' => rw [q] at w; exact w
  | ct e' => rw [q] at w; exact w
  | stuck => rw [q] at w; exact w
  | exc x e' => rw [q] at w; exact w.elim
/-- return e.reason -/
def hReason (i : Nat) (x : Exn) : SS := fun e => match e[i]?, x.fs with
  | some _, [(f, d)] => if f = "reason" then .rt (fz d) e else .stuck
  | _, _ => .stuck
section
variable {X : Cx} {C fI : Addr}
def tByTalk (C : Addr) (a : Addr) (cls : Value) (d : Option Addr) (te : TE) : TE := fun σ H Q => te σ H fun x H1 => x = .ref a ∧ cls = .ref C ∧ ∃ (dd : Addr) (v : V), d = some dd ∧ H1 dd = some (.xd [(("reason" : Str), v)]) ∧ Q v H1
theorem pe_byTalk {a : Addr} {oe : Obj} {cls : Value} {d : Option Addr} {pn : List (Addr × Obj)} {e : Expr} {te : TE} {pos : Pos} (T : PySem.TalkX.Txt X.prog X.K X.mg C fI) (hz : Zc cls d oe) (hf : ∃ vs, oe.data = .fields vs) (he : PE (X.suite a ((a, oe) :: pn)) e te)
    (hb : attributeBase e "reason" X.env (eval e X.env) = eval e X.env := by rfl) :
    PE (X.suite a ((a, oe) :: pn)) (.Attribute e "reason" pos) (tByTalk C a cls d te) := by
  refine ⟨fun pins s σ H Q I h => ?_⟩
  refine attr_of hb (thn (he.run pins s σ H _ I h) fun u s1 hh => ?_)
  obtain ⟨x, H1, I1, rx, ex, ec, dd, v, ed, ea, q⟩ := hh
  subst ex
  obtain rfl : u = Value.ref a := rx
  subst ec
  subst ed
  obtain ⟨ha, _⟩ := I1.pin (a, oe) (List.mem_append_left _ List.mem_cons_self)
  obtain ⟨vs, hd⟩ := hf
  have hx : ObjOk X.prog X.w H1 s1.heap dd (.xd [(("reason" : Str), v)]) := I1.hok dd _ ea
  obtain ⟨mA, hns, hr⟩ := hx
  obtain ⟨od, ho, hl⟩ := lookIn_ns hns
  have l : List.lookup ("reason" : Str) [(("reason" : Str), v)] = some v := by simp [List.lookup]
  obtain ⟨u, hu, ru⟩ := RelO.some_of (v := v) (o := mA "reason") (by rw [← l]; exact hr "reason")
  have J : PySem.W.InstAt s1.heap a oe C (some od) := ⟨ha, hz.1, by unfold PySem.W.notCls; rw [hd] <;> rfl, by rw [hz.2]; exact ho⟩
  exact HandSPX.exc_get I1.kIn J T.ga T.gg T.exC (PySem.W.findObj_own T.hdC T.noN rfl (by rw [hl, hu])) (handed_of ru) ⟨v, H1, I1.tok _, ru, q⟩
end
section
variable {X : Cx} {cl : Str → Option Addr} {W : WX} {body : List Stmt} {b : SS} {n : Str} {np p1 p2 p3 pos pos' : Pos} {i : Nat}
/-- try: .. except TalkError as e: return e.reason -/
theorem zTryR (T : TalkG X.prog X.K X.mg cl) (hN : X.N.Nodup) (i : Nat)
    (hb : ∀ (W : WX) (pn : List (Addr × Obj)) (xe : Value → Shared → Prop), L2.Takes (X.tr pn xe) W → PassesOwn (model X.prog X.w) X.A X.env xe → VSs (X.tr pn xe) cl W body b)
    (tk : L2.Takes X W) (hi : (decide (X.N[i]? = some n) && decide (X.env.kindOf n = some .local)) = true := by kernel_rfl) (h : glB X "TalkError" = true := by kernel_rfl)
    (hv : nmB X i n = true := by kernel_rfl) (hs : X.stack = X.env :: X.outer := by rfl) (hf : X.env.frame = some X.env.locals := by rfl) (hbs : attributeBase (.Name n p1) "reason" X.env (eval (.Name n p1) X.env) = eval (.Name n p1) X.env := by rfl) :
    VS X cl W (.Try body [.ExceptHandler (some (.Name "TalkError" np)) (some n) [.Return (some (.Attribute (.Name n p1) "reason" p2)) p3] pos'] [] [] pos) (sTry b (hReason i)) := by
  obtain ⟨C, fI, hcl, T⟩ := T.ex
  simp only [Bool.and_eq_true, decide_eq_true_eq] at hi
  obtain ⟨v1, v2, v3, v4⟩ := nmB_of hv
  refine PS_imp (L2.ps_try_as (i := i) (tb := fun W => tS (gl X cl) W b) (ts := fun a cls d => tRet (tByTalk C a cls d (tVar i))) (Wout := W) hs hf hN hi.1 hi.2 ⟨(glB_of h).1, (glB_of h).2, .inl T.gC⟩ tk
    (fun W pn xe tk' hp => hb W pn xe tk' hp)
    (fun a oe cls d pn hz hfz => pss_one (ps_ret (pe_byTalk T hz hfz (pe_var (X := X.suite a ((a, oe) :: pn)) v1 v2 v3 v4) hbs)))) fun D σ H ⟨G, e, M, r, w⟩ => ⟨G, e, M, r, ?_⟩
  unfold sTry at w
  cases q : b e with
  | nx e' => rw [q] at w; exact w
  | rt v e' => rw [q] at w; exact w
  | bk e' => rw [q] at w; exact w
  | ct e' => rw [q] at w; exact w
  | stuck => rw [q] at w; exact w
  | exc x e' =>
    rw [q] at w
    obtain ⟨xc, xf⟩ := x
    have w : sPost (gl X cl) W G D (if xc = "TalkError" then hReason i ⟨xc, xf⟩ e' else .stuck) := w
    by_cases hx : xc = "TalkError"
    · rw [if_pos hx] at w
      intro cls d σ' M' H' r' xr
      obtain ⟨C2, dd, fs, rfl, hC2, rfl, hdd, rf⟩ := xr
      have hC2 : cl xc = some C2 := hC2
      rw [hx, hcl] at hC2
      cases hC2
      refine ⟨true, T.te, fun _ a ha => ?_, fun z => Bool.noConfusion z⟩
      unfold hReason at w
      cases hei : e'[i]? with
      | none => rw [hei] at w; exact w.elim
      | some sl =>
        rw [hei] at w
        have hl : i < σ'.length := by rw [← r'.len]; exact (List.getElem?_eq_some_iff.mp hei).1
        cases rf with
        | nil => exact w.elim
        | @cons fn vv dv fs2 ds2 rv rest =>
          cases rest with
          | cons _ _ => exact w.elim
          | nil =>
            have w2 : sPost (gl X cl) W G D (if fn = "reason" then Fl.rt (fz dv) e' else .stuck) := w
            by_cases hfn : fn = "reason"
            · rw [if_pos hfn] at w2
              subst hfn
              exact ⟨.ref a, List.getElem?_set_self hl, rfl, rfl, dd, vv, rfl, r'.sub _ _ hdd, w2 vv σ' M' H' r' rv⟩
            · rw [if_neg hfn] at w2
              exact w2.elim
    · rw [if_neg hx] at w
      exact w.elim
/-- try: .. except TalkError: a suite that raises nothing, and does nothing with it -/
theorem zTryO (T : TalkG X.prog X.K X.mg cl) {s0 : Stmt} {suite : List Stmt} {h : SS}
    (hb : ∀ (W : WX) (pn : List (Addr × Obj)) (xe : Value → Shared → Prop), L2.Takes (X.tr pn xe) W → PassesOwn (model X.prog X.w) X.A X.env xe → VSs (X.tr pn xe) cl W body b)
    (hsu : ∀ (a : Addr) (oe : Obj) (pn : List (Addr × Obj)), VSs (X.suite a ((a, oe) :: pn)) cl W0 (s0 :: suite) h)
    (tk : L2.Takes X W) (hg : glB X "TalkError" = true := by kernel_rfl) (hs : X.stack = X.env :: X.outer := by rfl) (hf : X.env.frame = some X.env.locals := by rfl) :
    VS X cl W (.Try body [.ExceptHandler (some (.Name "TalkError" np)) none (s0 :: suite) pos'] [] [] pos) (sTry b fun _ => noXs h) := by
  obtain ⟨C, fI, hcl, T⟩ := T.ex
  refine PS_imp (L2.ps_try_only (tb := fun W => tS (gl X cl) W b) (ts := fun a cls d => tS (gl X cl) W0 h) (Wout := W) hs hf ⟨(glB_of hg).1, (glB_of hg).2, .inl T.gC⟩ tk
    (fun W pn xe tk' hp => hb W pn xe tk' hp) (fun a oe cls d pn hz hfz => hsu a oe pn)) fun D σ H ⟨G, e, M, r, w⟩ => ⟨G, e, M, r, ?_⟩
  unfold sTry at w
  cases q : b e with
  | nx e' => rw [q] at w; exact w
  | rt v e' => rw [q] at w; exact w
  | bk e' => rw [q] at w; exact w
  | ct e' => rw [q] at w; exact w
  | stuck => rw [q] at w; exact w
  | exc x e' =>
    rw [q] at w
    obtain ⟨xc, xf⟩ := x
    have w : sPost (gl X cl) W G D (if xc = "TalkError" then noXs h e' else .stuck) := w
    by_cases hx : xc = "TalkError"
    · rw [if_pos hx] at w
      intro cls d σ' M' H' r' xr
      obtain ⟨C2, dd, fs, rfl, hC2, rfl, hdd, rf⟩ := xr
      have hC2 : cl xc = some C2 := hC2
      rw [hx, hcl] at hC2
      cases hC2
      refine ⟨true, T.te, fun _ a ha => ⟨G, e', M', r', ?_⟩, fun z => Bool.noConfusion z⟩
      exact noXs_post w
    · rw [if_neg hx] at w
      exact w.elim
/-- try: .. except TalkError: a suite that raises -/
theorem zTryH (T : TalkG X.prog X.K X.mg cl) {s0 : Stmt} {suite : List Stmt} {h : SS}
    (hb : ∀ (W : WX) (pn : List (Addr × Obj)) (xe : Value → Shared → Prop), L2N.Takes (X.tr pn xe) W → PassesOwn (model X.prog X.w) X.A X.env xe → VSs (X.tr pn xe) cl W body b)
    (hsu : ∀ (a : Addr) (oe : Obj) (pn : List (Addr × Obj)), L2.Takes (L2H.suiteX X a ((a, oe) :: pn)) W → L2H.HotC (L2H.suiteX X a ((a, oe) :: pn)) → VSs (L2H.suiteX X a ((a, oe) :: pn)) cl W (s0 :: suite) h)
    (I : InL X W) (hg : glB X "TalkError" = true := by kernel_rfl) (hs : X.stack = X.env :: X.outer := by rfl) (hf : X.env.frame = some X.env.locals := by rfl) :
    VS X cl W (.Try body [.ExceptHandler (some (.Name "TalkError" np)) none (s0 :: suite) pos'] [] [] pos) (sTry b fun _ => h) := by
  obtain ⟨C, fI, hcl, T⟩ := T.ex
  refine PS_imp (L2H.ps_try_onlyX (tb := fun W => tS (gl X cl) W b) (ts := fun a cls d => tS (gl X cl) W h) (Wout := W) hs hf ⟨(glB_of hg).1, (glB_of hg).2, .inl T.gC⟩ I.pa I.tk
    (fun W pn xe tk' _ hp => hb W pn xe tk' hp) (fun a oe cls d pn hz hfz tk hot => hsu a oe pn tk hot)) fun D σ H ⟨G, e, M, r, w⟩ => ⟨G, e, M, r, ?_⟩
  unfold sTry at w
  cases q : b e with
  | nx e' => rw [q] at w; exact w
  | rt v e' => rw [q] at w; exact w
  | bk e' => rw [q] at w; exact w
  | ct e' => rw [q] at w; exact w
  | stuck => rw [q] at w; exact w
  | exc x e' =>
    rw [q] at w
    obtain ⟨xc, xf⟩ := x
    have w : sPost (gl X cl) W G D (if xc = "TalkError" then h e' else .stuck) := w
    by_cases hx : xc = "TalkError"
    · rw [if_pos hx] at w
      intro cls d σ' M' H' r' xr
      obtain ⟨C2, dd, fs, rfl, hC2, rfl, hdd, rf⟩ := xr
      have hC2 : cl xc = some C2 := hC2
      rw [hx, hcl] at hC2
      cases hC2
      exact ⟨true, T.te, fun _ a ha => ⟨G, e', M', r', w⟩, fun z => Bool.noConfusion z⟩
    · rw [if_neg hx] at w
      exact w.elim
end
end Ev
set_option Elab.async false
set_option linter.all false
set_option autoImplicit false
set_option maxRecDepth 100000
set_option maxHeartbeats 2000000
/-! The head's facts of the text's own error. -/
namespace Ev
open PySem L2 PySem.Spec PyProof.Rows PySem.W
abbrev FnV2 : Type := Option (Str × Str × Arguments × FuncBody × Scope × Addr × List Str × Value × Value × Addr)
def talkFn (K : Frag) : FnV2 := match K.lookup (He.ma K (He.ga K "TalkError") "__init__") with
  | some ⟨_, _, .func fd, _⟩ => some (fd.name, fd.qualname, fd.params, fd.body, fd.scope, fd.globals, fd.closure.map (·.1), fd.defaults, fd.kwdefaults, fd.builtins)
  | _ => none
def talkVal : FnV2 := some ("__init__", "TalkError.__init__", PySem.TalkX.iA, .stmts PySem.TalkX.iB, PySem.TalkX.iS, mainGlobals, ["__class__"], .none, .none, builtinsNs)
/-- what of it is to be seen at once -/
def talkB (file : Str) (K : Frag) : Bool :=
  let C := He.ga K "TalkError"
  let fI := He.ma K C "__init__"
  (excInitIn K C PySem.TalkX.veB "ValueError.__new__" && (match clsIn K C with | some cd => HandSPX.refsVE cd.mro && cd.hasDict | none => false)) &&
  ((decide (findIn K (.ref C) "__setattr__" = some (some (.builtin "object.__setattr__"))) && decide (findIn K (.ref C) "__getattribute__" = some (some (.builtin "BaseException.__getattribute__")))) &&
  (decide (findIn K (.ref C) "__getattr__" = some none) && decide (findIn K (.ref C) "reason" = some none))) &&
  ((decide (findIn K (.ref C) "__init__" = some (some (.ref fI))) && decide (typeIn K (.ref fI) = some (.type "function"))) && (keepIn K (.ref C) && decide (subIn K (.ref C) (.type "BaseException") = some true))) &&
  ((decide (subIn K (.ref C) (.type "ValueError") = some true) && decide (typeIn K (.ref C) = some (.type "type"))) && (hasDictIn K C && decide (exmOne K (.ref C) (.ref C) = some true))) &&
  ((decide (ks_superIn K C C "__init__" = some (some (.builtin "ValueError.__init__"))) && decide (mroIn K C (.ref C) = some true)) && decide (nsIn K cStatics "thirdparty.any" = some none)) &&
  (decide (nsIn K mainGlobals "TalkError" = some (some (.ref C))) && decide (nsIn K mainGlobals "super" = some none)) &&
  (match K.lookup fI with
    | some ⟨_, _, .func fd, _⟩ => (match fd.code, fd.closure with
      | .ref cda, [(_, cc)] => codeIn K (.ref cda) "TalkError.__init__" && (match K.lookup cda with
        | some ⟨_, _, .fields vs, _⟩ => (match (vs[2]? : Option Value) with
          | some (.str f _) => f == file
          | _ => false)
        | _ => false) && (match K.lookup cc with
        | some ⟨_, _, .cell (some (.ref D)), _⟩ => D == C
        | _ => false)
      | _, _ => false)
    | _ => false)
theorem talk_ok {P : Program} {K : Frag} {h : Heap} {mg : Str → Option Value} {cl : Str → Option Addr} {file : Str} (X : K.In h) (Gh : h.Ns mainGlobals mg) (hb : talkB file K = true) (hf : talkFn K = talkVal) (hp : P.main.file = file) (htop : (P.main.scope.names.lookup ("super" : Str)).isSome = false)
    (hcl : cl "TalkError" = some (He.ga K "TalkError")) : TalkG P K mg cl := by
  unfold talkB at hb
  simp only [Bool.and_eq_true, decide_eq_true_eq] at hb
  obtain ⟨⟨⟨⟨⟨⟨⟨b1, b2⟩, ⟨b3, b4⟩, b5, b6⟩, ⟨b7, b8⟩, b9, b10⟩, ⟨b11, b12⟩, b13, b14⟩, ⟨b15, b16⟩, b17⟩, b18, b19⟩, b20⟩ := hb
  refine ⟨He.ga K "TalkError", He.ma K (He.ga K "TalkError") "__init__", hcl, ?_⟩
  refine ⟨mg_of X Gh b18, b1, ?_, b3, b4, b5, b6, b7, b8, b9, b10, b11, b12, b13, b14, b15, b16, b17, mg_none_of X Gh b19, htop, ?_⟩
  · cases q : clsIn K (He.ga K "TalkError") with
    | none => rw [q] at b2; cases b2
    | some cd =>
      rw [q] at b2
      obtain ⟨z1, z2⟩ := Bool.and_eq_true_iff.mp b2
      exact ⟨cd, rfl, z1, z2⟩
  · unfold talkFn at hf
    cases q : K.lookup (He.ma K (He.ga K "TalkError") "__init__") with
    | none => rw [q] at b20; cases b20
    | some o =>
      obtain ⟨oc, od, dt, osl⟩ := o
      rw [q] at b20 hf
      cases dt with
      | func fd =>
        obtain ⟨n1, n2, n3, n4, n5, n6, n7, n8, n9, n10, n11, n12, n13, n14, n15⟩ := fd
        have e2 : (some (n1, n2, n3, n4, n5, n6, n7.map (·.1), n8, n9, n15) : FnV2) = talkVal := hf
        unfold talkVal at e2
        simp only [Option.some.injEq, Prod.mk.injEq] at e2
        obtain ⟨h1, h2, h3, h4, h5, h6, h7, h8, h9, h10⟩ := e2
        subst h1 h2 h3 h4 h5 h6 h8 h9 h10
        cases n13 with
        | ref cda =>
          cases n7 with
          | nil => cases h7
          | cons c0 r =>
            cases r with
            | cons _ _ => exact absurd (congrArg List.length h7) (by simp)
            | nil =>
              obtain ⟨cn, cc⟩ := c0
              have hcn : cn = ("__class__" : Str) := (List.cons.inj (show [cn] = [("__class__" : Str)] from h7)).1
              have b20' : ((codeIn K (.ref cda) "TalkError.__init__" && (match K.lookup cda with
                | some ⟨_, _, .fields vs, _⟩ => (match (vs[2]? : Option Value) with
                  | some (.str f _) => f == file
                  | _ => false)
                | _ => false)) && (match K.lookup cc with
                | some ⟨_, _, .cell (some (.ref D)), _⟩ => D == He.ga K "TalkError"
                | _ => false)) = true := b20
              obtain ⟨z, z3⟩ := Bool.and_eq_true_iff.mp b20'
              obtain ⟨z1, z2⟩ := Bool.and_eq_true_iff.mp z
              refine ⟨oc, od, n10, n11, n12, cda, n14, osl, cc, by rw [hcn], z1, ?_, ?_⟩
              · cases q2 : K.lookup cda with
                | none => rw [q2] at z2; cases z2
                | some o2 =>
                  obtain ⟨c1, d1, dt1, s1⟩ := o2
                  rw [q2] at z2
                  cases dt1 with
                  | fields vs =>
                    have z2' : (match (vs[2]? : Option Value) with | some (.str f _) => f == file | _ => false) = true := z2
                    cases q3 : vs[2]? with
                    | none => rw [q3] at z2'; cases z2'
                    | some v =>
                      rw [q3] at z2'
                      cases v with
                      | str f t => exact ⟨c1, d1, vs, s1, f, t, rfl, q3, by rw [hp]; rw [beq_iff_eq.mp (show (f == file) = true from z2')]; exact beq_self_eq_true _⟩
                      | _ => cases z2'
                  | _ => cases z2
              · cases q2 : K.lookup cc with
                | none => rw [q2] at z3; cases z3
                | some o2 =>
                  obtain ⟨c1, d1, dt1, s1⟩ := o2
                  rw [q2] at z3
                  cases dt1 with
                  | cell v =>
                    cases v with
                    | none => cases z3
                    | some v =>
                      cases v with
                      | ref D =>
                        have : D = He.ga K "TalkError" := beq_iff_eq.mp z3
                        subst this
                        exact ⟨c1, d1, s1, rfl⟩
                      | _ => cases z3
                  | _ => cases z3
        | _ => cases b20
      | _ => cases b20
/-! ### the hook -/
def obsY (n : Nat) (fa : List He.Fa) (fn : List He.DefD) (ex : Frag → Bool) (gt : Addr → Option Obj) : Bool × FnV2 × He.AlD := (ex (He.frG gt (cStatics :: He.asD gt n)), talkFn (He.frG gt (cStatics :: He.asD gt n)), He.obsD fa fn (He.frG gt (cStatics :: He.asD gt n)))
def SaysY (fa : List He.Fa) (fn : List He.DefD) (ex : Frag → Bool) (K : Frag) : Prop := ex K = true ∧ talkFn K = talkVal ∧ He.SaysD fa fn K
def hookY (n : Nat) (fa : List He.Fa) (fn : List He.DefD) (ex : Frag → Bool) : PySem.W.Hook where
  α := Bool × FnV2 × He.AlD
  obs := fun s => obsY n fa fn ex s.heap.get?
  val := fun _ => (true, talkVal, He.valD fn)
  says := fun _ h => ∃ K : Frag, K.In h ∧ SaysY fa fn ex K
  of := fun _ _ e => ⟨_, He.frG_in, congrArg (fun z : Bool × FnV2 × He.AlD => z.1) e, congrArg (fun z : Bool × FnV2 × He.AlD => z.2.1) e, congrArg (fun z : Bool × FnV2 × He.AlD => z.2.2) e⟩
  keeps := fun _ _ _ ⟨K, hK, c⟩ k => ⟨K, PySem.W.Frag.In.keeps hK k, c⟩
theorem obsY_eq {n : Nat} {fa : List He.Fa} {fn : List He.DefD} {ex : Frag → Bool} {gt : Addr → Option Obj} {s : Shared} (h : ∀ a, gt a = s.heap.get? a) : obsY n fa fn ex gt = (hookY n fa fn ex).obs s := by
  have e : gt = s.heap.get? := funext h
  rw [e] <;> rfl
end Ev
set_option Elab.async false
set_option linter.all false
set_option autoImplicit false
set_option maxRecDepth 100000
set_option maxHeartbeats 1000000
/-! Steps with exceptions. -/
namespace Ev
open PySem
def talkE (r : Str) : Exn := ⟨"TalkError", [("reason", .str r)]⟩
section
variable {t : SS} {a b c : SS} {m n : Nat} {d0 d : D} {ds : List D} {e e1 e2 e3 e' : En} {v : Vl} {x : Exn} {modes : List Bool} {tt : Sx Bool}
theorem runBX_rt (h : t (startB d0 ds n) = .rt v (.bx d :: e)) (hl : ds.length = m := by rfl) : runBX t m n d0 ds = .ok v d := by
  unfold runBX
  rw [if_pos hl, h]
  rfl
theorem runBX_nx (h : t (startB d0 ds n) = .nx (.bx d :: e)) (hl : ds.length = m := by rfl) : runBX t m n d0 ds = .ok (fz .non) d := by
  unfold runBX
  rw [if_pos hl, h]
  rfl
/-- it raises -/
def Xc (t : SS) (e : En) (x : Exn) : Prop := ∃ e', t e = .exc x e'
def Xo {α : Type} (m : Sx α) (e : En) (x : Exn) : Prop := ∃ e', m e = .exc x e'
theorem runBX_exc (h : Xc t (startB d0 ds n) x) (hl : ds.length = m := by rfl) : runBX t m n d0 ds = .exc x := by
  obtain ⟨e', h⟩ := h
  unfold runBX
  rw [if_pos hl, h]
theorem runFX_of {k : Nat} (h : Rt t (startE modes ds k) v) (hl : ds.length = modes.length := by rfl) : runFX t modes k ds = .ok v := by
  obtain ⟨e', h⟩ := h
  unfold runFX
  rw [if_pos hl, h]
theorem runFX_nx {k : Nat} (h : t (startE modes ds k) = .nx e) (hl : ds.length = modes.length := by rfl) : runFX t modes k ds = .ok (fz .non) := by
  unfold runFX
  rw [if_pos hl, h]
theorem runFX_exc {k : Nat} (h : Xc t (startE modes ds k) x) (hl : ds.length = modes.length := by rfl) : runFX t modes k ds = .exc x := by
  obtain ⟨e', h⟩ := h
  unfold runFX
  rw [if_pos hl, h]
theorem Xc.then (h : a e = .nx e1) (k : Xc b e1 x) : Xc (sThen a b) e x := let ⟨e', k⟩ := k; ⟨e', then_step h k⟩
theorem Xc.stop (h : Xc a e x) : Xc (sThen a b) e x := let ⟨e', h⟩ := h; ⟨e', by unfold sThen; rw [h]⟩
theorem Xc.ift (h : tt e = .ok true e1) (k : Xc a e1 x) : Xc (sIfS tt a b) e x := let ⟨e', k⟩ := k; ⟨e', if_t h k⟩
theorem Xc.iff (h : tt e = .ok false e1) (k : Xc b e1 x) : Xc (sIfS tt a b) e x := let ⟨e', k⟩ := k; ⟨e', if_f h k⟩
theorem Xc.gt (h : tt e = .ok true e1) (k : Xc a e1 x) : Xc (sThen (sIfS tt a c) b) e x := Xc.stop (Xc.ift h k)
theorem Xc.gf (h : tt e = .ok false e1) (k : Xc b e1 x) : Xc (sThen (sIfS tt a sSkip) b) e x := let ⟨e', k⟩ := k; ⟨e', guard_f h k⟩
theorem Xc.raise {r : Str} : Xc (sRaise r) e (talkE r) := ⟨e, rfl⟩
theorem Xc.ret {m : Sx Vl} (h : Xo m e x) : Xc (sRet m) e x := let ⟨e', h⟩ := h; ⟨e', by unfold sRet; rw [h]⟩
theorem Xc.asg {m : Sx Vl} {i : Nat} (h : Xo m e x) : Xc (sAsg m i) e x := let ⟨e', h⟩ := h; ⟨e', by unfold sAsg; rw [h]⟩
theorem Xc.drop {m : Sx Vl} (h : Xo m e x) : Xc (sDrop m) e x := let ⟨e', h⟩ := h; ⟨e', by unfold sDrop; rw [h]⟩
theorem Xo.oV {m : Sx Vl} (h : Xo m e x) : Xo (oVal m) e x := let ⟨e', h⟩ := h; ⟨e', by unfold oVal; rw [h]; rfl⟩
/-! an argument that raises -/
theorem Xo.op1 {m : Sx Opd} {ms : List (Sx Opd)} (h : Xo m e x) : Xo (sOps (m :: ms)) e x := let ⟨e', h⟩ := h; ⟨e', by unfold sOps; rw [h]; rfl⟩
theorem Xo.op2 {m : Sx Opd} {o : Opd} {ms : List (Sx Opd)} (h : m e = .ok o e1) (k : Xo (sOps ms) e1 x) : Xo (sOps (m :: ms)) e x := let ⟨e', k⟩ := k; ⟨e', by unfold sOps; rw [h, Out.bind_ok, k]; rfl⟩
theorem Xo.call {F : List D → Res Vl} {ms : List (Sx Opd)} (h : Xo (sOps ms) e x) : Xo (sCall modes F ms) e x := let ⟨e', h⟩ := h; ⟨e', by unfold sCall; rw [h]; rfl⟩
theorem Xo.prim {p : List D → Option Vl} {ms : List (Sx Opd)} (h : Xo (sOps ms) e x) : Xo (sPrim p ms) e x := let ⟨e', h⟩ := h; ⟨e', by unfold sPrim sArgs; rw [h]; rfl⟩
theorem Xo.lst {ms : List (Sx Opd)} (h : Xo (sOps ms) e x) : Xo (sLst ms) e x := let ⟨e', h⟩ := h; ⟨e', by unfold sLst sSeqD; rw [h]; rfl⟩
theorem Xo.tBool {m : Sx Vl} (h : Xo m e x) : Xo (tBool m) e x := let ⟨e', h⟩ := h; ⟨e', by unfold Ev.tBool; rw [h]; rfl⟩
end
section
variable {c : Str} {e e1 e2 e3 e4 e5 : En} {m1 m2 m3 m4 m5 : Sx Opd} {d1 d2 d3 d4 d5 d : D} {x : Exn} {F : List D → Res Vl} {B : D → List D → ResB}
theorem callX1 (h1 : m1 e = .ok (.dt d1) e1) (hF : F [d1] = .exc x) : Xo (sCall [false] F [m1]) e x := ⟨e1, by
  simp [sCall, sOps, h1, okModes, ress, res, hF, ofRes]⟩
theorem callX2 (h1 : m1 e = .ok (.dt d1) e1) (h2 : m2 e1 = .ok (.dt d2) e2) (hF : F [d1, d2] = .exc x) : Xo (sCall [false, false] F [m1, m2]) e x := ⟨e2, by
  simp [sCall, sOps, h1, h2, okModes, ress, res, hF, ofRes]⟩
theorem callX3 (h1 : m1 e = .ok (.dt d1) e1) (h2 : m2 e1 = .ok (.dt d2) e2) (h3 : m3 e2 = .ok (.dt d3) e3) (hF : F [d1, d2, d3] = .exc x) : Xo (sCall [false, false, false] F [m1, m2, m3]) e x := ⟨e3, by
  simp [sCall, sOps, h1, h2, h3, okModes, ress, res, hF, ofRes]⟩
theorem makeX3 (h1 : m1 e = .ok (.dt d1) e1) (h2 : m2 e1 = .ok (.dt d2) e2) (h3 : m3 e2 = .ok (.dt d3) e3) (hB : B (.obj c []) [d1, d2, d3] = .exc x) : Xo (sMake c (List.replicate 3 false) B [m1, m2, m3]) e x := ⟨e3, by
  simp [sMake, sOps, h1, h2, h3, okModes, ress, res, hB, List.replicate]⟩
theorem makeX4 (h1 : m1 e = .ok (.dt d1) e1) (h2 : m2 e1 = .ok (.dt d2) e2) (h3 : m3 e2 = .ok (.dt d3) e3) (h4 : m4 e3 = .ok (.dt d4) e4) (hB : B (.obj c []) [d1, d2, d3, d4] = .exc x) : Xo (sMake c (List.replicate 4 false) B [m1, m2, m3, m4]) e x := ⟨e4, by
  simp [sMake, sOps, h1, h2, h3, h4, okModes, ress, res, hB, List.replicate]⟩
theorem makeX5 (h1 : m1 e = .ok (.dt d1) e1) (h2 : m2 e1 = .ok (.dt d2) e2) (h3 : m3 e2 = .ok (.dt d3) e3) (h4 : m4 e3 = .ok (.dt d4) e4) (h5 : m5 e4 = .ok (.dt d5) e5) (hB : B (.obj c []) [d1, d2, d3, d4, d5] = .exc x) : Xo (sMake c (List.replicate 5 false) B [m1, m2, m3, m4, m5]) e x := ⟨e5, by
  simp [sMake, sOps, h1, h2, h3, h4, h5, okModes, ress, res, hB, List.replicate]⟩
theorem make4 (h1 : m1 e = .ok (.dt d1) e1) (h2 : m2 e1 = .ok (.dt d2) e2) (h3 : m3 e2 = .ok (.dt d3) e3) (h4 : m4 e3 = .ok (.dt d4) e4) (hB : B (.obj c []) [d1, d2, d3, d4] = .ok (fz .non) d) : sMake c (List.replicate 4 false) B [m1, m2, m3, m4] e = .ok (nw d) e4 := by
  simp [sMake, sOps, h1, h2, h3, h4, okModes, ress, res, hB, List.replicate]
end
section
variable {b : SS} {h : Exn → SS} {e e' : En} {x : Exn} {v : Vl} {i : Nat} {s : Slot} {r : Str}
theorem try_nx (q : b e = .nx e') : sTry b h e = .nx e' := by unfold sTry; rw [q]
theorem Rt.try (q : Rt b e v) : Rt (sTry b h) e v := by
  obtain ⟨e', q⟩ := q
  exact ⟨e', by unfold sTry; rw [q]⟩
theorem try_exc {r : Fl} (q : b e = .exc x e') (hx : x.cls = "TalkError") (k : h x e' = r) : sTry b h e = r := by
  unfold sTry
  rw [q]
  have : (if x.cls = "TalkError" then h x e' else .stuck) = r := by rw [if_pos hx]; exact k
  exact this
theorem Xc.try {y : Exn} (q : Xc b e x) (hx : x.cls = "TalkError") (k : ∀ e', Xc (h x) e' y) : Xc (sTry b h) e y := by
  obtain ⟨e', q⟩ := q
  obtain ⟨e2, k⟩ := k e'
  exact ⟨e2, try_exc q hx k⟩
theorem reason_rt (hs : e[i]? = some s) : hReason i (talkE r) e = .rt (fz (.str r)) e := by
  unfold hReason talkE
  rw [hs]
  simp
end
/-! the same, with what stands behind it -/
section
variable {c : Str} {e e1 e2 e3 e4 e5 : En} {m m1 m2 m3 m4 m5 : Sx Opd} {n : Sx Vl} {ms : List (Sx Opd)} {modes : List Bool} {d1 d2 d3 d4 d5 d : D} {x : Exn} {F : List D → Res Vl} {B : D → List D → ResB} {i : Nat}
theorem call1_exc (h1 : m1 e = .ok (.dt d1) e1) (hF : F [d1] = .exc x) : sCall [false] F [m1] e = .exc x e1 := by
  simp [sCall, sOps, h1, okModes, ress, res, hF, ofRes]
theorem call2_exc (h1 : m1 e = .ok (.dt d1) e1) (h2 : m2 e1 = .ok (.dt d2) e2) (hF : F [d1, d2] = .exc x) : sCall [false, false] F [m1, m2] e = .exc x e2 := by
  simp [sCall, sOps, h1, h2, okModes, ress, res, hF, ofRes]
theorem call3_exc (h1 : m1 e = .ok (.dt d1) e1) (h2 : m2 e1 = .ok (.dt d2) e2) (h3 : m3 e2 = .ok (.dt d3) e3) (hF : F [d1, d2, d3] = .exc x) : sCall [false, false, false] F [m1, m2, m3] e = .exc x e3 := by
  simp [sCall, sOps, h1, h2, h3, okModes, ress, res, hF, ofRes]
theorem make3_exc (h1 : m1 e = .ok (.dt d1) e1) (h2 : m2 e1 = .ok (.dt d2) e2) (h3 : m3 e2 = .ok (.dt d3) e3) (hB : B (.obj c []) [d1, d2, d3] = .exc x) : sMake c (List.replicate 3 false) B [m1, m2, m3] e = .exc x e3 := by
  simp [sMake, sOps, h1, h2, h3, okModes, ress, res, hB, List.replicate]
theorem make4_exc (h1 : m1 e = .ok (.dt d1) e1) (h2 : m2 e1 = .ok (.dt d2) e2) (h3 : m3 e2 = .ok (.dt d3) e3) (h4 : m4 e3 = .ok (.dt d4) e4) (hB : B (.obj c []) [d1, d2, d3, d4] = .exc x) : sMake c (List.replicate 4 false) B [m1, m2, m3, m4] e = .exc x e4 := by
  simp [sMake, sOps, h1, h2, h3, h4, okModes, ress, res, hB, List.replicate]
theorem make5_exc (h1 : m1 e = .ok (.dt d1) e1) (h2 : m2 e1 = .ok (.dt d2) e2) (h3 : m3 e2 = .ok (.dt d3) e3) (h4 : m4 e3 = .ok (.dt d4) e4) (h5 : m5 e4 = .ok (.dt d5) e5) (hB : B (.obj c []) [d1, d2, d3, d4, d5] = .exc x) : sMake c (List.replicate 5 false) B [m1, m2, m3, m4, m5] e = .exc x e5 := by
  simp [sMake, sOps, h1, h2, h3, h4, h5, okModes, ress, res, hB, List.replicate]
theorem arg_exc (h : n e = .exc x e1) : sCall modes F (oVal n :: ms) e = .exc x e1 := by
  unfold sCall sOps oVal
  rw [h]
  rfl
theorem ret_exc (h : n e = .exc x e1) : sRet n e = .exc x e1 := by unfold sRet; rw [h]
theorem asg_exc (h : n e = .exc x e1) : sAsg n i e = .exc x e1 := by unfold sAsg; rw [h]
theorem then_exc {a b : SS} (h : a e = .exc x e1) : sThen a b e = .exc x e1 := by unfold sThen; rw [h]
/-- try: .. except TalkError as e: return e.reason; the body raises -/
theorem Rt.reason {b : SS} {r : Str} {s : Slot} (q : b e = .exc (talkE r) e1) (hs : e1[i]? = some s) : Rt (sTry b (hReason i)) e (fz (.str r)) := ⟨_, try_exc q rfl (reason_rt hs)⟩
end
end Ev
set_option Elab.async false
set_option linter.all false
set_option autoImplicit false
set_option maxRecDepth 100000
set_option maxHeartbeats 2000000
/-! Comprehensions with two clauses. -/
namespace Ev
open PySem L2 PySem.Spec PyProof.Rows
theorem own_back {e1 e : En} {σ : L2.St} {vs : List Nat} {D : Addr} (hhid : hidOk vs e1 = true) (ne : ∀ j, ¬ Owns e (wipe σ vs) j D) (j : Nat) (oj : Owns (restoreE vs e1 e) σ j D) : False := by
  -- an owner in the restored slots is an owner within
  obtain ⟨sl, q1, q2, q3⟩ := oj
  by_cases hj : j ∈ vs
  · -- restored slots own nothing
    have : ∀ (us : List Nat) (a : En), hidOk us e1 = true → j ∈ us → ∀ sl, (restoreE us e1 a)[j]? = some sl → ¬ sl.own := by
      intro us
      induction us with
      | nil => intro a _ hm; cases hm
      | cons u us ih =>
        intro a hh hm sl hsl
        unfold hidOk at hh
        rw [List.all_cons, Bool.and_eq_true] at hh
        unfold restoreE at hsl
        cases hu : e1[u]? with
        | none => rw [hu] at hh; exact absurd hh.1 (by simp)
        | some t0 =>
          rw [hu] at hsl hh
          by_cases huj : u = j
          · subst huj
            have hl := (List.getElem?_eq_some_iff.mp hsl).1
            rw [List.length_set] at hl
            rw [List.getElem?_set_self hl] at hsl
            cases hsl
            intro so
            cases sl with
            | ow d => exact absurd hh.1 (by simp)
            | bx d => exact absurd hh.1 (by simp)
            | _ => exact so
          · rw [List.getElem?_set_ne huj] at hsl
            rcases List.mem_cons.mp hm with z | z
            · exact absurd z.symm huj
            · exact ih a hh.2 z sl hsl
    exact this vs _ hhid hj sl q1 q2
  · have : ∀ (us : List Nat) (a : En), j ∉ us → (restoreE us e1 a)[j]? = a[j]? := by
      intro us
      induction us with
      | nil => intro a _; rfl
      | cons u us ih =>
        intro a hm
        unfold restoreE
        cases hu : e1[u]? with
        | none => exact ih a fun z => hm (List.mem_cons_of_mem _ z)
        | some t0 =>
          show ((restoreE us e1 a).set u t0)[j]? = a[j]?
          rw [List.getElem?_set_ne (fun z => hm (by rw [z]; exact List.mem_cons_self)), ih a fun z => hm (List.mem_cons_of_mem _ z)]
    rw [this vs _ hj] at q1
    exact ne j ⟨sl, q1, q2, by rw [wipe_get, if_neg hj]; exact q3⟩
open Classical in
noncomputable def comp2Go (s : Src) (vs : List Nat) (tg : Tg) (t : Sx Bool) (s1 : Sx Src) (vs1 : List Nat) (tg1 : Tg) (t1 : Sx Bool) (el : Sx Opd) : List D → En → Out (List D)
  | [], e => if s.ok e then .ok [] e else .stuck
  | x :: xs, e => if s.ok e then (match setTg tg x e with
    | none => .stuck
    | some e1 => (noX t e1).bind fun k e2 => if k = true then ((noX s1 e2).bind fun src e3 => if src.apart vs1 = true then
          ((compGo src vs1 tg1 t1 el src.items (wipeE vs1 e3)).bind fun ds e4 => (comp2Go s vs tg t s1 vs1 tg1 t1 el xs (wipeE vs e4)).bind fun ds2 e5 => .ok (ds ++ ds2) e5) else .stuck)
      else comp2Go s vs tg t s1 vs1 tg1 t1 el xs (wipeE vs e2)) else .stuck
noncomputable def sComp2 (vs : List Nat) (tg : Tg) (s : Sx Src) (t : Sx Bool) (vs1 : List Nat) (tg1 : Tg) (s1 : Sx Src) (t1 : Sx Bool) (el : Sx Opd) : Sx Vl := fun e => (s e).bind fun src e1 =>
  if (hidOk vs e1 && src.apart vs && (tg.ix.all vs.contains && (tg1.ix.all vs1.contains && vs1.all vs.contains))) = true then
    ((comp2Go src vs tg t s1 vs1 tg1 t1 el src.items (wipeE vs e1)).bind fun ds e2 => if ds.length ≤ sizeLine then .ok (nw (.lst ds)) (restoreE vs e1 e2) else .stuck) else .stuck
theorem noX_no {α : Type} (m : Sx α) (e : En) (x : Exn) (e' : En) : noX m e ≠ .exc x e' := by
  intro q
  unfold noX at q
  split at q <;> cases q
theorem compGo_no {src : Src} {vs : List Nat} {tg : Tg} {t : Sx Bool} {el : Sx Opd} : ∀ (xs : List D) (e : En) (x : Exn) (e' : En), compGo src vs tg t el xs e ≠ .exc x e' := by
  intro xs
  induction xs with
  | nil => intro e x e' q; unfold compGo at q; split at q <;> cases q
  | cons y ys ih =>
    intro e x e' q
    unfold compGo at q
    split at q
    · split at q
      · cases q
      · cases q1 : noX t _ with
        | stuck => rw [q1] at q; cases q
        | exc x2 e2 => exact noX_no _ _ _ _ q1
        | ok k e2 =>
          rw [q1, Out.bind_ok] at q
          split at q
          · cases q2 : noX el e2 with
            | stuck => rw [q2] at q; cases q
            | exc x2 e3 => exact noX_no _ _ _ _ q2
            | ok o e3 =>
              rw [q2, Out.bind_ok] at q
              split at q
              · cases q3 : compGo src vs tg t el ys (wipeE vs e3) with
                | stuck => rw [q3] at q; cases q
                | exc x2 e4 => exact ih _ _ _ q3
                | ok ds e4 => rw [q3] at q; cases q
              · cases q
          · exact ih _ _ _ q
    · cases q
theorem comp2Go_no {src : Src} {vs : List Nat} {tg : Tg} {t : Sx Bool} {s1 : Sx Src} {vs1 : List Nat} {tg1 : Tg} {t1 : Sx Bool} {el : Sx Opd} : ∀ (xs : List D) (e : En) (x : Exn) (e' : En), comp2Go src vs tg t s1 vs1 tg1 t1 el xs e ≠ .exc x e' := by
  intro xs
  induction xs with
  | nil => intro e x e' q; unfold comp2Go at q; split at q <;> cases q
  | cons y ys ih =>
    intro e x e' q
    unfold comp2Go at q
    split at q
    · split at q
      · cases q
      · cases q1 : noX t _ with
        | stuck => rw [q1] at q; cases q
        | exc x2 e2 => exact noX_no _ _ _ _ q1
        | ok k e2 =>
          rw [q1, Out.bind_ok] at q
          split at q
          · cases q2 : noX s1 e2 with
            | stuck => rw [q2] at q; cases q
            | exc x2 e3 => exact noX_no _ _ _ _ q2
            | ok o e3 =>
              rw [q2, Out.bind_ok] at q
              split at q
              · cases q3 : compGo o vs1 tg1 t1 el o.items (wipeE vs1 e3) with
                | stuck => rw [q3] at q; cases q
                | exc x2 e4 => exact compGo_no _ _ _ _ q3
                | ok ds e4 =>
                  rw [q3, Out.bind_ok] at q
                  cases q4 : comp2Go src vs tg t s1 vs1 tg1 t1 el ys (wipeE vs e4) with
                  | stuck => rw [q4] at q; cases q
                  | exc x2 e5 => exact ih _ _ _ q4
                  | ok ds2 e5 => rw [q4] at q; cases q
              · cases q
          · exact ih _ _ _ q
    · cases q
theorem comp2_read {g : Gl0} {W : WX} {vs : List Nat} {tg : Tg} {s : Sx Src} {t : Sx Bool} {vs1 : List Nat} {tg1 : Tg} {s1 : Sx Src} {t1 : Sx Bool} {el : Sx Opd} {tt tt1 : TT} (htt : ∀ σ H Q, tT g W0 t σ H Q → tt σ H Q) (htt1 : ∀ σ H Q, tT g W0 t1 σ H Q → tt1 σ H Q) {σ : L2.St} {H : Hp} {Q : VK} (h : tE g W (sComp2 vs tg s t vs1 tg1 s1 t1 el) σ H Q) :
    tLc2 (tI g W s) (gTg g.K tg) tt (tI g W0 s1) (gTg g.K tg1) tt1 (tO g W0 el) vs vs1 σ H Q := by
  obtain ⟨G, e, M, r, h⟩ := h
  unfold sComp2 at h
  refine tG_last r h fun src e1 J M1 H1 _ r1 _ x1 h1 => ?_
  obtain ⟨S, jok, hlen, per⟩ := x1
  intro D hD
  by_cases hc : (hidOk vs e1 && src.apart vs && (tg.ix.all vs.contains && (tg1.ix.all vs1.contains && vs1.all vs.contains))) = true
  · rw [if_pos hc] at h1
    rw [Bool.and_eq_true, Bool.and_eq_true, Bool.and_eq_true, Bool.and_eq_true] at hc
    obtain ⟨⟨hhid, hap⟩, htg, htg1, hvv⟩ := hc
    have inB : ∀ {l m : List Nat}, l.all m.contains = true → ∀ j ∈ l, j ∈ m := fun {l m} h j hj => by
      have := List.all_eq_true.mp h j hj
      rw [List.contains_eq_mem] at this
      simpa using this
    have apart : ∀ {q : Src} {m : List Nat}, q.apart m = true → ∀ j d, q.chk = some (j, d) → j ∉ m := fun {q m} h j d hj hm => by
      unfold Src.apart at h
      rw [hj] at h
      have h' : (!m.contains j) = true := h
      rw [Bool.not_eq_true', List.contains_eq_mem] at h'
      exact absurd hm (by simpa using h')
    cases hgo : comp2Go src vs tg t s1 vs1 tg1 t1 el src.items (wipeE vs e1) with
    | stuck => rw [hgo] at h1; exact h1.elim
    | exc x e' => exact absurd hgo (comp2Go_no _ _ _ _)
    | ok dsA e4 =>
      rw [hgo, Out.bind_ok] at h1
      by_cases hz : dsA.length ≤ sizeLine
      · rw [if_pos hz] at h1
        have rD := r1.ext (.new r1.sub (o := .lst []) hD)
        have vD : VR g G e1 M1 σ (upd H1 D (.lst [])) (.ref D) (nw (.lst [])) :=
          ⟨D, _, rfl, upd_same, .lst .nil (Nat.zero_le _), r1.sub.none hD, r1.h0none hD, fun z => r1.bl D z hD, fun z => (r1.lent D z).1 hD, fun i q => by
            obtain ⟨_, _, o, ho⟩ := r1.owned q
            rw [hD] at ho; cases ho⟩
        refine ⟨fun i m H => m = src.items.length - i ∧ i ≤ src.items.length ∧ ∃ e M dacc ds, Rel g G e M (wipe σ vs) H ∧ VR g G e M (wipe σ vs) H (.ref D) (nw (.lst dacc)) ∧ Sub M1 M ∧ comp2Go src vs tg t s1 vs1 tg1 t1 el (src.items.drop i) e = .ok ds e4 ∧ dacc ++ ds = dsA,
          ⟨src.items.length, rfl, Nat.zero_le _, _, M1, [], dsA, rD.wipe vs, VR.wipe rD vD vs, .refl, by rw [List.drop_zero]; exact hgo, rfl⟩, ?_⟩
        rintro i m Hi ⟨rfl, hi, e, M, dacc, ds, ri, vi, sM, hrun, hds⟩
        have stands : src.ok e → S M Hi := fun ok => per G e M Hi (wipe σ vs) ri sM ok fun j d hj => by
          rw [wipe_get, if_neg (apart hap j d hj)]
        by_cases hlt : i < src.items.length
        · refine .inr ?_
          have hdrop : src.items.drop i = src.items[i] :: src.items.drop (i + 1) := List.drop_eq_getElem_cons hlt
          rw [hdrop] at hrun
          unfold comp2Go at hrun
          split at hrun
          · rename_i hok
            have st := stands hok
            refine ⟨jok.go i M Hi st ri.sub hlt, fun H' => src.items.length - (i + 1) = src.items.length - (i + 1) ∧ i + 1 ≤ src.items.length ∧ ∃ e M dacc ds, Rel g G e M (wipe σ vs) H' ∧ VR g G e M (wipe σ vs) H' (.ref D) (nw (.lst dacc)) ∧ Sub M1 M ∧ comp2Go src vs tg t s1 vs1 tg1 t1 el (src.items.drop (i + 1)) e = .ok ds e4 ∧ dacc ++ ds = dsA,
              fun H' q => ⟨src.items.length - (i + 1), by omega, q⟩, fun x H' hy => ?_⟩
            obtain ⟨M', w, rx⟩ := jok.yld i M Hi x H' st ri.sub hy _ (List.getElem?_eq_getElem hlt)
            have ri' := ri.ext w
            have vi' := vi.ext w
            split at hrun
            · cases hrun
            · rename_i e' hset
              obtain ⟨σ2, r2, v2, s2, k2⟩ := tg_ok rx hset ri' vi'
              have hw2 : wipe σ2 vs = wipe σ vs := by
                have : Same' vs (wipe σ vs) σ2 := ⟨s2.1, fun j hj => s2.2 j fun hm => hj (inB htg j hm)⟩
                rw [wipe_same this, wipe_wipe]
              refine k2 _ ⟨hw2, ?_⟩
              obtain ⟨k, e2, hk, hrun⟩ := bind_ok' hrun
              have hk' := noX_ok hk
              refine htt σ2 H' _ ⟨G.here e' M' σ2 H', e', M', r2.here, ?_⟩
              rw [hk']
              intro b M3 H3 r3 eb
              subst eb
              have r3' := r2.back r3
              have v3 := v2.stay r2 r3 r3.base
              have s13 : Sub M1 M3 := (sM.trans w.mono).trans r3.base
              cases b with
              | true =>
                have hrun' : ((noX s1 e2).bind fun src e3 => if src.apart vs1 = true then
                  ((compGo src vs1 tg1 t1 el src.items (wipeE vs1 e3)).bind fun ds e4 => (comp2Go _ vs tg t s1 vs1 tg1 t1 el _ (wipeE vs e4)).bind fun ds2 e5 => .ok (ds ++ ds2) e5) else .stuck) = .ok ds e4 := hrun
                obtain ⟨src1, e3, hs1, hrun2⟩ := bind_ok' hrun'
                have hs1' := noX_ok hs1
                rw [if_pos rfl]
                refine ⟨G.here e2 M3 σ2 H3, e2, M3, r3'.here, ?_⟩
                rw [hs1']
                intro J1 M5 H5 r5 x5
                have r5' := r3'.back r5
                have v5 := v3.stay r3' r5 r5.base
                by_cases hap1 : src1.apart vs1 = true
                · rw [if_pos hap1] at hrun2
                  obtain ⟨ds1, e6, hgo1, hrun3⟩ := bind_ok' hrun2
                  obtain ⟨ds2, e7, hgo2, hfin⟩ := bind_ok' hrun3
                  cases hfin
                  obtain ⟨S1, jok1, hlen1, per1⟩ := x5
                  refine ⟨fun j k H => k = src1.items.length - j ∧ j ≤ src1.items.length ∧ ∃ e M dacc1 dsj, Rel g G e M (wipe σ2 vs1) H ∧ VR g G e M (wipe σ2 vs1) H (.ref D) (nw (.lst dacc1)) ∧ Sub M5 M ∧ compGo src1 vs1 tg1 t1 el (src1.items.drop j) e = .ok dsj e6 ∧ dacc1 ++ dsj = dacc ++ ds1,
                    ⟨_, rfl, Nat.zero_le _, wipeE vs1 e3, M5, dacc, ds1, r5'.wipe vs1, VR.wipe r5' v5 vs1, .refl, by rw [List.drop_zero]; exact hgo1, rfl⟩, ?_⟩
                  rintro j k Hj ⟨rfl, hj, ej, Mj, dacc1, dsj, rj, vj, sMj, hrunj, hdsj⟩
                  have stands1 : src1.ok ej → S1 Mj Hj := fun ok => per1 G ej Mj Hj (wipe σ2 vs1) rj sMj ok fun q d hq => by
                    rw [wipe_get, if_neg (apart hap1 q d hq)]
                  by_cases hlt1 : j < src1.items.length
                  · refine .inr ?_
                    have hdrop1 : src1.items.drop j = src1.items[j] :: src1.items.drop (j + 1) := List.drop_eq_getElem_cons hlt1
                    rw [hdrop1] at hrunj
                    unfold compGo at hrunj
                    split at hrunj
                    · rename_i hok1
                      have st1 := stands1 hok1
                      refine ⟨jok1.go j Mj Hj st1 rj.sub hlt1, fun H' => src1.items.length - (j + 1) = src1.items.length - (j + 1) ∧ j + 1 ≤ src1.items.length ∧ ∃ e M dacc1 dsj, Rel g G e M (wipe σ2 vs1) H' ∧ VR g G e M (wipe σ2 vs1) H' (.ref D) (nw (.lst dacc1)) ∧ Sub M5 M ∧ compGo src1 vs1 tg1 t1 el (src1.items.drop (j + 1)) e = .ok dsj e6 ∧ dacc1 ++ dsj = dacc ++ ds1,
                        fun H' q => ⟨src1.items.length - (j + 1), by omega, q⟩, fun xj Hj' hyj => ?_⟩
                      obtain ⟨Mj', wj, rxj⟩ := jok1.yld j Mj Hj xj Hj' st1 rj.sub hyj _ (List.getElem?_eq_getElem hlt1)
                      have rj' := rj.ext wj
                      have vj' := vj.ext wj
                      split at hrunj
                      · cases hrunj
                      · rename_i ej' hsetj
                        obtain ⟨σ3, r3j, v3j, s3j, k3⟩ := tg_ok rxj hsetj rj' vj'
                        have hw3 : wipe σ3 vs1 = wipe σ2 vs1 := by
                          have : Same' vs1 (wipe σ2 vs1) σ3 := ⟨s3j.1, fun q hq => s3j.2 q fun hm => hq (inB htg1 q hm)⟩
                          rw [wipe_same this, wipe_wipe]
                        refine k3 _ ⟨hw3, ?_⟩
                        obtain ⟨kj, e2j, hkj, hrunj⟩ := bind_ok' hrunj
                        have hkj' := noX_ok hkj
                        refine htt1 σ3 Hj' _ ⟨G.here ej' Mj' σ3 Hj', ej', Mj', r3j.here, ?_⟩
                        rw [hkj']
                        intro bj M8 H8 r8 ebj
                        subst ebj
                        have r8' := r3j.back r8
                        have v8 := v3j.stay r3j r8 r8.base
                        have s18 : Sub M5 M8 := (sMj.trans wj.mono).trans r8.base
                        cases bj with
                        | true =>
                          have hrunj' : ((noX el e2j).bind fun o e3 => match o with
                            | .dt d => (compGo src1 vs1 tg1 t1 el (src1.items.drop (j + 1)) (wipeE vs1 e3)).bind fun ds e4 => Out.ok (d :: ds) e4
                            | .sl _ => .stuck) = .ok dsj e6 := hrunj
                          obtain ⟨o, e3j, ho, hrun2j⟩ := bind_ok' hrunj'
                          have ho' := noX_ok ho
                          rw [if_pos rfl]
                          refine ⟨G.here e2j M8 σ3 H8, e2j, M8, r8'.here, ?_⟩
                          rw [ho']
                          intro y M9 H9 r9 oy
                          cases o with
                          | sl q => cases hrun2j
                          | dt d =>
                            have r9' := r8'.back r9
                            have v9 := v8.stay r8' r9 r9.base
                            obtain ⟨dsj', e6', hgoj', hfinj⟩ := bind_ok' hrun2j
                            cases hfinj
                            obtain ⟨q, o9, eq, hp9, ro9, _⟩ := id v9
                            cases eq
                            cases ro9 with
                            | lst rr9 hz9 =>
                              rename_i acc
                              have hla : acc.length < sizeLine := by
                                rw [rr9.length]
                                have h1 := congrArg List.length hdsj
                                have h2 := congrArg List.length hds
                                simp only [List.length_append, List.length_cons] at h1 h2
                                omega
                              obtain ⟨r10, v10⟩ := r9'.upT v9 (o' := .lst (acc ++ [y])) (d' := .lst (dacc1 ++ [d])) (.lst (rr9.append (.cons oy .nil)) (by rw [List.length_append, List.length_singleton, ← rr9.length]; exact hla))
                              refine ⟨acc, hp9, hla, rfl, hlt1, wipeE vs1 e3j, M9, dacc1 ++ [d], dsj', ?_, ?_, s18.trans r9.base, hgoj', by rw [List.append_assoc]; exact hdsj⟩
                              · have := r10.wipe vs1
                                rw [hw3] at this
                                exact this
                              · have := VR.wipe r10 v10 vs1
                                rw [hw3] at this
                                exact this
                        | false =>
                          have hrunj' : compGo src1 vs1 tg1 t1 el (src1.items.drop (j + 1)) (wipeE vs1 e2j) = .ok dsj e6 := hrunj
                          rw [if_neg Bool.false_ne_true]
                          refine ⟨rfl, hlt1, wipeE vs1 e2j, M8, dacc1, dsj, ?_, ?_, s18, hrunj', hdsj⟩
                          · have := r8'.wipe vs1
                            rw [hw3] at this
                            exact this
                          · have := VR.wipe r8' v8 vs1
                            rw [hw3] at this
                            exact this
                    · cases hrunj
                  · refine .inl ?_
                    have ej0 : j = src1.items.length := by omega
                    subst ej0
                    rw [List.drop_length] at hrunj
                    unfold compGo at hrunj
                    split at hrunj
                    · rename_i hok1
                      cases hrunj
                      rw [List.append_nil] at hdsj
                      have hw4 : wipe (wipe σ2 vs1) vs = wipe σ vs := by
                        have : Same' vs σ2 (wipe σ2 vs1) := ⟨wipe_length σ2 vs1, fun q hq => by rw [wipe_get, if_neg fun hm => hq (inB hvv q hm)]⟩
                        rw [wipe_same this, hw2]
                      refine ⟨jok1.stop Mj Hj (stands1 hok1) rj.sub, rfl, hlt, wipeE vs e6, Mj, dacc1, ds2, ?_, ?_, (s13.trans r5.base).trans sMj, hgo2, by rw [hdsj, List.append_assoc]; exact hds⟩
                      · have := rj.wipe vs
                        rw [hw4] at this
                        exact this
                      · have := VR.wipe rj vj vs
                        rw [hw4] at this
                        exact this
                    · cases hrunj
                · rw [if_neg hap1] at hrun2
                  cases hrun2
              | false =>
                have hrun' : comp2Go src vs tg t s1 vs1 tg1 t1 el (src.items.drop (i + 1)) (wipeE vs e2) = .ok ds e4 := hrun
                rw [if_neg Bool.false_ne_true]
                refine ⟨rfl, hlt, wipeE vs e2, M3, dacc, ds, ?_, ?_, s13, hrun', hds⟩
                · have := r3'.wipe vs
                  rw [hw2] at this
                  exact this
                · have := VR.wipe r3' v3 vs
                  rw [hw2] at this
                  exact this
          · cases hrun
        · refine .inl ?_
          have ei : i = src.items.length := by omega
          subst ei
          rw [List.drop_length] at hrun
          unfold comp2Go at hrun
          split at hrun
          · rename_i hok
            cases hrun
            rw [List.append_nil] at hds
            subst hds
            refine ⟨jok.stop M Hi (stands hok) ri.sub, ?_⟩
            have rr := Rel.restore r1 vs hhid ri sM ⟨wipe_length σ vs, fun j hj => by rw [wipe_get, if_neg hj]⟩
            refine h1 (.ref D) M Hi rr ?_
            obtain ⟨q, o, e2, hp, ro, mp, h0, nb, nr, ne⟩ := vi
            cases e2
            exact ⟨D, o, rfl, hp, ro, mp, h0, nb, nr, fun j oj => own_back hhid ne j oj⟩
          · cases hrun
      · rw [if_neg hz] at h1
        exact h1.elim
  · rw [if_neg hc] at h1
    exact h1.elim
section
variable {X : Cx} {cl : Str → Option Addr} {W : WX} {pos : Pos}
theorem CIf.tt {scope : Scope} {ifs : List Expr} {t : Sx Bool} (h : CIf X cl scope ifs t) : ∃ tt : TT, (∀ σ H Q, tT (gl X cl) W0 t σ H Q → tt σ H Q) ∧ Blk X scope fun Y => PTs Y ifs tt := by
  cases h with
  | none => exact ⟨tYes, yes_of, fun _ _ _ _ _ => pts_nil⟩
  | one h => exact ⟨tT (gl X cl) W0 t, fun _ _ _ z => z, fun a b c d e => pts_one (h a b c d e)⟩
theorem kComp2 {elt tgt iter tgt1 iter1 : Expr} {ifs ifs1 : List Expr} {scope : Scope} (own : List (Str × Nat)) (vs1 : List Nat) {tg tg1 : Tg} {s s1 : Sx Src} {t t1 : Sx Bool} {el : Sx Opd} (hc : X.calm = true) (hN : X.N.Nodup) (hi : VI X cl W tgt iter s) (hg : Blk X scope fun Y => VG Y tgt tg) (ht : CIf X cl scope ifs t)
    (hi1 : Blk X scope fun Y => VI Y cl W0 tgt1 iter1 s1) (hg1 : Blk X scope fun Y => VG Y tgt1 tg1) (ht1 : CIf X cl scope ifs1 t1) (he : Blk X scope fun Y => VO Y cl W0 elt el)
    (hv : vs1.all (own.map (·.2)).contains = true := by kernel_rfl) (ok : blkC X.N X.env.scope scope own = true := by kernel_rfl) (hs : ∀ x, foldedSetIterable iter X.env x = pure x := by intro _; rfl) (hs1 : ∀ env x, foldedSetIterable iter1 env x = pure x := by intro _ _; rfl) :
    VE X cl W (.ListComp elt [⟨tgt, iter, ifs, 0⟩, ⟨tgt1, iter1, ifs1, 0⟩] scope pos) (sComp2 (own.map (·.2)) tg s t vs1 tg1 s1 t1 el) := by
  obtain ⟨tt, k1, k2⟩ := ht.tt
  obtain ⟨tt1, k3, k4⟩ := ht1.tt
  have hv' : ∀ i ∈ vs1, i ∈ own.map (·.2) := fun i hi => by
    have := List.all_eq_true.mp hv i hi
    rw [List.contains_eq_mem] at this
    simpa using this
  exact PE_imp (pe_lc2 hc hN hi (blkOk_by ok) hv' hg k2 hi1 hg1 k4 he hs hs1) fun σ H Q h => comp2_read k1 k3 h
theorem sCompS2 {y : Str} {py spos : Pos} {elt tgt iter tgt1 iter1 : Expr} {ifs ifs1 : List Expr} {scope : Scope} (own : List (Str × Nat)) (vs1 : List Nat) {tg tg1 : Tg} {s s1 : Sx Src} {t t1 : Sx Bool} {el : Sx Opd} (i : Nat) (hc : X.calm = true) (hN : X.N.Nodup) (hi : VI X cl W tgt iter s) (hg : Blk X scope fun Y => VG Y tgt tg) (ht : CIf X cl scope ifs t)
    (hi1 : Blk X scope fun Y => VI Y cl W0 tgt1 iter1 s1) (hg1 : Blk X scope fun Y => VG Y tgt1 tg1) (ht1 : CIf X cl scope ifs1 t1) (he : Blk X scope fun Y => VO Y cl W0 elt el)
    (hy : (decide (X.N[i]? = some y) && decide (X.env.scope.names.lookup y = some .local)) = true := by kernel_rfl) (hsw : swapsWith (.ListComp elt [⟨tgt, iter, ifs, 0⟩, ⟨tgt1, iter1, ifs1, 0⟩] scope pos) (some (.Name y py)) spos.line X.env = pure true := by rfl)
    (hv : vs1.all (own.map (·.2)).contains = true := by kernel_rfl) (ok : blkC X.N X.env.scope scope own = true := by kernel_rfl) (hs : ∀ x, foldedSetIterable iter X.env x = pure x := by intro _; rfl) (hs1 : ∀ env x, foldedSetIterable iter1 env x = pure x := by intro _ _; rfl) :
    VS X cl W (.Assign [.Name y py] (.ListComp elt [⟨tgt, iter, ifs, 0⟩, ⟨tgt1, iter1, ifs1, 0⟩] scope pos) spos) (sAsg (sComp2 (own.map (·.2)) tg s t vs1 tg1 s1 t1 el) i) := by
  rw [Bool.and_eq_true, decide_eq_true_eq, decide_eq_true_eq] at hy
  obtain ⟨tt, k1, k2⟩ := ht.tt
  obtain ⟨tt1, k3, k4⟩ := ht1.tt
  have hv' : ∀ i ∈ vs1, i ∈ own.map (·.2) := fun i hi => by
    have := List.all_eq_true.mp hv i hi
    rw [List.contains_eq_mem] at this
    simpa using this
  exact PS_imp (ps_setLc2 hc hN hy.1 hy.2 hsw hi (blkOk_by ok) hv' hg k2 hi1 hg1 k4 he hs hs1) fun D σ H h => asg_read (fun σ H Q z => comp2_read k1 k3 z) h
end
end Ev
set_option Elab.async false
set_option linter.all false
set_option autoImplicit false
set_option maxRecDepth 100000
set_option maxHeartbeats 1000000
/-! list(range(n)), repr(b). -/
namespace Ev
open PySem L2 PySem.Spec PyProof.Rows
def sListR (m : Sx Opd) : Sx Vl := fun e => (m e).bind fun o e => match res e o with
  | some (.int j) => if 0 ≤ j ∧ j ≤ 100000 then .ok (nw (.lst ((List.range j.toNat).map fun (k : Nat) => .int (k : Nat)))) e else .stuck
  | _ => .stuck
section
variable {X : Cx} {cl : Str → Option Addr} {W : WX} {pos pos2 p1 p2 : Pos}
theorem reps_range {g : Gl0} {M : Hp} (j : Int) (h : 0 ≤ j) : Reps g M (rgV 0 j) ((List.range j.toNat).map fun (k : Nat) => D.int (k : Nat)) := by
  unfold rgV
  have : ∀ l : List Nat, Reps g M (l.map fun i => V.int (0 + (i : Nat))) (l.map fun (k : Nat) => D.int (k : Nat)) := by
    intro l
    induction l with
    | nil => exact .nil
    | cons a l ih => exact .cons (by show Rep g M (V.int (0 + (a : Nat))) (.int (a : Nat)); rw [Int.zero_add]; exact .int _) ih
  rw [Int.sub_zero]
  exact this _
theorem kListR {a : Expr} {m : Sx Opd} (hc : X.calm = true) (hm : X.mg "range" = none) (hm2 : X.mg "list" = none) (ha : VO X cl W a m) (h : glB X "range" = true := by kernel_rfl) (h2 : glB X "list" = true := by kernel_rfl)
    (na : starEach [a] X.env = (false, eval a X.env) :: starEach [] X.env := by rfl) (nb : starEach [.Call (.Name "range" p1) [a] [] p2] X.env = (false, eval (.Call (.Name "range" p1) [a] [] p2) X.env) :: starEach [] X.env := by rfl) :
    VE X cl W (.Call (.Name "list" pos2) [.Call (.Name "range" p1) [a] [] p2] [] pos) (sListR m) :=
  PE_imp (pe_listRg hc (glB_of h2).1 hm2 (prg_1 (glB_of h).1 hm ha na) nb) fun σ H Q ⟨G, e, M, r, h⟩ => by
    unfold sListR at h
    refine tG_last r h fun o e1 x M1 H1 _ r1 _ x1 h1 => ?_
    cases hr : res e1 o with
    | none => rw [hr] at h1; exact h1.elim
    | some d =>
      rw [hr] at h1
      have pr := r1.res hr x1
      cases d with
      | int j =>
        have h1' : tPost (gl X cl) W (VR (gl X cl)) G σ Q (if 0 ≤ j ∧ j ≤ 100000 then .ok (nw (.lst ((List.range j.toNat).map fun (k : Nat) => .int (k : Nat)))) e1 else .stuck) := h1
        by_cases hj : 0 ≤ j ∧ j ≤ 100000
        · rw [if_pos hj] at h1'
          refine ⟨j, pr.int, ⟨by omega, by omega, by omega, by omega, by omega⟩, fun q hq => ?_⟩
          have hn : ((List.range j.toNat).map fun (k : Nat) => D.int (k : Nat)).length ≤ sizeLine := by
            rw [List.length_map, List.length_range, sizeLine_eq]; omega
          refine h1' (.ref q) M1 _ (r1.ext (.new r1.sub hq)) ?_
          refine ⟨q, _, rfl, upd_same, .lst (reps_range j hj.1) hn, r1.sub.none hq, r1.h0none hq, fun z => r1.bl q z hq, fun z => (r1.lent q z).1 hq, fun i w => ?_⟩
          obtain ⟨_, _, o2, ho⟩ := r1.owned w
          rw [hq] at ho; cases ho
        · rw [if_neg hj] at h1'
          exact h1'.elim
      | _ => exact h1.elim
/-- repr of a truth value -/
def bT (b : Bool) : Str := if b = true then "True" else "False"
def pRepr : List D → Option Vl
  | [.bl b] => some (fz (.str (bT b)))
  | _ => none
theorem bRepr : CallR X (.builtin "repr") (rPs (gl X cl) pRepr) := by
  intro pins s σ H xs us Q I r h
  obtain ⟨M, ds, w, sm, pr, hp, k⟩ := h
  unfold pRepr at hp
  split at hp
  · rename_i b
    cases hp
    obtain ⟨x, rfl, q⟩ := preps1 pr
    have hx := q.bl
    subst hx
    cases r with
    | cons r1 r2 =>
      cases r2
      cases r1
      refine PySem.P.repr_of_bool ⟨.str (bT b), H, I.tok _, ⟨_, by cases b <;> rfl⟩, rPs.fz k sm (.str _ ⟨by cases b <;> kernel_rfl, ?_⟩)⟩
      rw [sizeLine_eq]
      cases b <;> decide
  · cases hp
end
section
variable {e e1 : En} {m : Sx Opd} {o : Opd} {n : Nat}
theorem listR_of (h : m e = .ok o e1) (hr : res e1 o = some (.int (n : Int))) (hn : n ≤ 100000) : sListR m e = .ok (nw (.lst ((List.range n).map fun (k : Nat) => .int (k : Nat)))) e1 := by
  unfold sListR
  rw [h, Out.bind_ok, hr]
  show (if 0 ≤ (n : Int) ∧ (n : Int) ≤ 100000 then _ else _) = _
  rw [if_pos ⟨by omega, by omega⟩]
  rfl
end
end Ev
set_option Elab.async false
set_option linter.all false
set_option autoImplicit false
set_option maxRecDepth 100000
set_option maxHeartbeats 1000000
/-! Two clauses, no effects. -/
namespace Ev
open PySem
theorem compGo_mapE {β : Type} (enc : β → D) (f : β → D) {ys0 : List D} {ck : Option (Nat × D)} {vs : List Nat} {tg : Tg} {el : Sx Opd} {e : En} (ok : Src.ok ⟨[], ck⟩ (wipeE vs e)) : ∀ (l : List β),
    (∀ y ∈ l, ∃ e2, setTg tg (enc y) (wipeE vs e) = some e2 ∧ el e2 = .ok (.dt (f y)) e2 ∧ wipeE vs e2 = wipeE vs e) → compGo ⟨ys0, ck⟩ vs tg tTrue el (l.map enc) (wipeE vs e) = .ok (l.map f) (wipeE vs e)
  | [], _ => by
    show compGo _ vs tg tTrue el [] _ = _
    unfold compGo
    rw [if_pos (show Src.ok ⟨ys0, ck⟩ (wipeE vs e) from ok)]
    rfl
  | y :: l, h => by
    obtain ⟨e2, h1, h2, h3⟩ := h y (.head _)
    have ih := compGo_mapE enc f (ys0 := ys0) (tg := tg) (el := el) ok l fun z hz => h z (.tail _ hz)
    rw [List.map_cons]
    unfold compGo
    rw [if_pos (show Src.ok ⟨ys0, ck⟩ (wipeE vs e) from ok), h1]
    show ((noX tTrue e2).bind _) = _
    rw [noX_of (show tTrue e2 = .ok true e2 from rfl), Out.bind_ok, if_pos rfl, noX_of h2, Out.bind_ok]
    show (compGo ⟨ys0, ck⟩ vs tg tTrue el (l.map enc) (wipeE vs e2)).bind _ = _
    rw [h3, ih]
    rfl
theorem sComp2_map {α β : Type} (enc : α → D) (xs : List α) (ys : α → List β) (enc2 : α → β → D) (f : α → β → D) {vs vs1 : List Nat} {tg tg1 : Tg} {s s1 : Sx Src} {el : Sx Opd} {e : En} {ck : Option (Nat × D)}
    (h : s e = .ok ⟨xs.map enc, ck⟩ e) (hc : (hidOk vs e && (Src.apart ⟨[], ck⟩ vs) && (tg.ix.all vs.contains && (tg1.ix.all vs1.contains && vs1.all vs.contains))) = true) (ok : Src.ok ⟨[], ck⟩ (wipeE vs e)) (hre : restoreE vs e (wipeE vs e) = e)
    (hl : (xs.flatMap fun x => (ys x).map (f x)).length ≤ sizeLine)
    (step : ∀ x ∈ xs, ∃ e1, setTg tg (enc x) (wipeE vs e) = some e1 ∧ ∃ ck1, s1 e1 = .ok ⟨(ys x).map (enc2 x), ck1⟩ e1 ∧ Src.apart ⟨[], ck1⟩ vs1 = true ∧ Src.ok ⟨[], ck1⟩ (wipeE vs1 e1) ∧ wipeE vs (wipeE vs1 e1) = wipeE vs e ∧
      ∀ y ∈ ys x, ∃ e2, setTg tg1 (enc2 x y) (wipeE vs1 e1) = some e2 ∧ el e2 = .ok (.dt (f x y)) e2 ∧ wipeE vs1 e2 = wipeE vs1 e1) :
    sComp2 vs tg s tTrue vs1 tg1 s1 tTrue el e = .ok (nw (.lst (xs.flatMap fun x => (ys x).map (f x)))) e := by
  have key : ∀ l : List α, (∀ x ∈ l, x ∈ xs) → comp2Go ⟨xs.map enc, ck⟩ vs tg tTrue s1 vs1 tg1 tTrue el (l.map enc) (wipeE vs e) = .ok (l.flatMap fun x => (ys x).map (f x)) (wipeE vs e) := by
    intro l
    induction l with
    | nil =>
      intro _
      show comp2Go _ vs tg tTrue s1 vs1 tg1 tTrue el [] _ = _
      unfold comp2Go
      rw [if_pos (show Src.ok ⟨xs.map enc, ck⟩ (wipeE vs e) from ok)]
      rfl
    | cons x l ih =>
      intro hx
      obtain ⟨e1, h1, ck1, h2, h3, h4, h5, h6⟩ := step x (hx x (.head _))
      rw [List.map_cons]
      unfold comp2Go
      rw [if_pos (show Src.ok ⟨xs.map enc, ck⟩ (wipeE vs e) from ok), h1]
      show ((noX tTrue e1).bind _) = _
      rw [noX_of (show tTrue e1 = .ok true e1 from rfl), Out.bind_ok, if_pos rfl, noX_of h2, Out.bind_ok]
      rw [if_pos (show Src.apart ⟨(ys x).map (enc2 x), ck1⟩ vs1 = true from h3)]
      have hg : compGo ⟨(ys x).map (enc2 x), ck1⟩ vs1 tg1 tTrue el ((ys x).map (enc2 x)) (wipeE vs1 e1) = .ok ((ys x).map (f x)) (wipeE vs1 e1) := compGo_mapE (enc2 x) (f x) h4 (ys x) h6
      show (compGo ⟨(ys x).map (enc2 x), ck1⟩ vs1 tg1 tTrue el ((ys x).map (enc2 x)) (wipeE vs1 e1)).bind _ = _
      rw [hg, Out.bind_ok, h5, ih fun z hz => hx z (.tail _ hz)]
      rfl
  unfold sComp2
  rw [h, Out.bind_ok, if_pos (show (hidOk vs e && (Src.apart ⟨xs.map enc, ck⟩ vs) && (tg.ix.all vs.contains && (tg1.ix.all vs1.contains && vs1.all vs.contains))) = true from hc)]
  show (comp2Go ⟨xs.map enc, ck⟩ vs tg tTrue s1 vs1 tg1 tTrue el (xs.map enc) (wipeE vs e)).bind _ = _
  rw [key xs fun _ h => h, Out.bind_ok, if_pos hl, hre]
end Ev
set_option Elab.async false
set_option linter.all false
set_option autoImplicit false
set_option maxRecDepth 100000
set_option maxHeartbeats 0
namespace Lw
open PySem PySem.Spec PyProof.Rows Ev
open L2 (FunD FnScope FnOk defArgs defBody defScope inClass)
def top (i : Nat) : Stmt := PySem.Challenge.pw_allwhotalk_k02_dual_and_together.main.body.getD i (.Pass ⟨0, 0, 0, 0⟩)
abbrev FnP (K : PySem.W.Frag) (x q : Str) (st : Stmt) (f : Addr) (fd : FuncData) : Prop := FunD K x q (defArgs st) (defBody st) (defScope st) [] [] f fd
def at_ (c f : Str) : Bool := (decide (c = "Partner") && decide (f = "final")) || (decide (c = "Partner") && decide (f = "states")) || (decide (c = "Partner") && decide (f = "transitions")) || (decide (c = "Service") && decide (f = "final")) || (decide (c = "Service") && decide (f = "inputs")) || (decide (c = "Service") && decide (f = "outputs")) || (decide (c = "Service") && decide (f = "states")) || (decide (c = "Service") && decide (f = "transitions"))
structure Gs (K : PySem.W.Frag) (mg : Str → Option Value) (cl : Str → Option Addr) : Prop where
  hat : HAt K cl at_
  f_abs : mg "abs" = none
  f_all : mg "all" = none
  f_any : mg "any" = none
  f_bool : mg "bool" = none
  f_int : mg "int" = none
  f_isinstance : mg "isinstance" = none
  f_len : mg "len" = none
  f_list : mg "list" = none
  f_range : mg "range" = none
  f_sorted : mg "sorted" = none
  f_str : mg "str" = none
  f_tuple : mg "tuple" = none
  f_zip : mg "zip" = none
  c_LETTERS : GStr mg "LETTERS" "abcdefghijklmnopqrstuvwxyz"
  c_LONGEST_MESSAGE : GInt mg "LONGEST_MESSAGE" 8
  c_MOST_MESSAGES : GInt mg "MOST_MESSAGES" 3
  c_MOST_PARTNER_STATES : GInt mg "MOST_PARTNER_STATES" 300
  c_MOST_PARTNER_TRANSITIONS : GInt mg "MOST_PARTNER_TRANSITIONS" 2000
  c_MOST_STATES : GInt mg "MOST_STATES" 12
  c_MOST_TRANSITIONS : GInt mg "MOST_TRANSITIONS" 60

abbrev s_u_law_cell : Stmt := (top 27)
noncomputable def t_u_law_cell : SS := (sThen (sIfS (tBool (sPrim pLt [oName 1, oVal (sPrim pLenA [oName 0])])) (sRet (sPrim pIxA [oName 0, oName 1])) sSkip)
   (sRet (sC (.int 0))))
noncomputable def F_u_law_cell : List D → Res Vl := runF t_u_law_cell [false, false] 2
theorem sc_u_law_cell : FnScope ["_law_script", "_law_k"] ["_law_script", "_law_k"] (defScope s_u_law_cell) := _root_.C8.fnScope_by (by kernel_rfl)
theorem d_u_law_cell {P : Program} {w : World} {K : PySem.W.Frag} {mg : Str → Option Value} {base : Heap} {cl : Str → Option Addr} {f : Addr} {fd : FuncData} (G : Gs K mg cl) (F : FnP K "_law_cell" "_law_cell" s_u_law_cell f fd) (TG : TalkG P K mg cl) :
    FnOk P w K mg base CX0' 1 f fd ["_law_script", "_law_k"] (spFn ⟨P, w, K, cl⟩ [false, false] F_u_law_cell) :=
  def_ok (cl := cl) (k := 0) (t := t_u_law_cell) (N := ["_law_script", "_law_k"]) (ps := ["_law_script", "_law_k"]) (modes := [false, false]) F sc_u_law_cell rfl fun cdv A outer s H E hr =>
    have hu := hu65 hr
    have hN : List.Nodup (["_law_script", "_law_k"] : List Str) := sc_u_law_cell.nd
    (zCons (zIf (tCmp cLt (kO 1) (kV (kCallB bLen G.f_len (kCons (kO 0) kNil)))) (zOne (zRet (kIx hu (kO 0) (kO 1)))) zNil)
   (zOne (zRet kInt)))

abbrev s_u_law_row : Stmt := (top 28)
noncomputable def b0_u_law_row : SS := (sIfS (tBool (sPrim pGt [oName 5, oVal (sC (.int 0))])) (sThen (sDrop (sMeth .lst pAppend [false] 3 [oVal (sPrim pMod [oVal (sPrim pInt [oName 5]), oVal (sC (.int 840))])]))
   (sAsg (sPrim pFdiv [oName 5, oVal (sC (.int 840))]) 5)) sSkip)
noncomputable def b1_u_law_row : SS := (sThen (sAsg (sPrim pMod [oVal (sPrim pInt [oVal (sPrim pAdd [oVal (sPrim pAdd [oVal (sPrim pMul [oName 5, oVal (sC (.int 69069))]), oVal (sPrim pMul [oVal (sC (.int 104729)), oVal (sPrim pAdd [oName 4, oName 6])])]), oVal (sC (.int 1))])]), oVal (sC (.int 4294967291))]) 5)
   (sDrop (sMeth .lst pAppend [false] 3 [oVal (sPrim pMod [oVal (sPrim pInt [oVal (sPrim pFdiv [oName 5, oVal (sC (.int 5003))])]), oVal (sC (.int 840))])])))
noncomputable def b2_u_law_row : SS := (sThen (sAsg (sCall [false, false] F_u_law_cell [oVal (sName 0), oVal (sName 4)]) 5)
   (sThen (sAsg (sPrim pAdd [oVal (sPrim pAbs [oVal (sPrim pMul [oVal (sC (.int 2)), oName 5])]), oVal (sPrim pInt [oVal (sPrim pLt [oName 5, oVal (sC (.int 0))])])]) 5)
   (sIfS (tBool (sPrim pGt [oName 5, oVal (sPrim pPow [oVal (sC (.int 10)), oVal (sC (.int 18))])])) (sFor (.one 6) (sRange [oVal (sC (.int 60))]) b0_u_law_row) (sFor (.one 6) (sRange [oVal (sC (.int 10))]) b1_u_law_row))))
noncomputable def t_u_law_row : SS := (sThen (sAsg (sLst []) 3)
   (sThen (sFor (.one 4) (sRange [oName 1, oName 2]) b2_u_law_row)
   (sRetName 3)))
noncomputable def F_u_law_row : List D → Res Vl := runF t_u_law_row [false, false, false] 7
theorem sc_u_law_row : FnScope ["_law_script", "_law_first", "_law_last", "_law_row_here", "_law_k", "_law_cell_here", "_law_turn"] ["_law_script", "_law_first", "_law_last"] (defScope s_u_law_row) := _root_.C8.fnScope_by (by kernel_rfl)
theorem d_u_law_row {P : Program} {w : World} {K : PySem.W.Frag} {mg : Str → Option Value} {base : Heap} {cl : Str → Option Addr} {f : Addr} {fd : FuncData} (G : Gs K mg cl) (F : FnP K "_law_row" "_law_row" s_u_law_row f fd) (TG : TalkG P K mg cl) (h_u_law_cell : FnD P w K mg base 1 "_law_cell" [false, false].length (spFn ⟨P, w, K, cl⟩ [false, false] F_u_law_cell)) :
    FnOk P w K mg base CX0' 2 f fd ["_law_script", "_law_first", "_law_last"] (spFn ⟨P, w, K, cl⟩ [false, false, false] F_u_law_row) :=
  def_ok (cl := cl) (k := 1) (t := t_u_law_row) (N := ["_law_script", "_law_first", "_law_last", "_law_row_here", "_law_k", "_law_cell_here", "_law_turn"]) (ps := ["_law_script", "_law_first", "_law_last"]) (modes := [false, false, false]) F sc_u_law_row rfl fun cdv A outer s H E hr =>
    have hu := hu65 hr
    have hN : List.Nodup (["_law_script", "_law_first", "_law_last", "_law_row_here", "_law_k", "_law_cell_here", "_law_turn"] : List Str) := sc_u_law_row.nd
    (zCons (zSet hN 3 (kLst kNil))
   (zCons (zFor PassesOwn.never rfl (iRange2 G.f_range (kCons (kO 1) (kCons (kO 2) kNil))) (g1 hN 4) (zCons (zSet hN 5 (kCall h_u_law_cell hr (by decide) (kCons (kV (kN 0)) (kCons (kV (kN 4)) kNil))))
   (zCons (zSet hN 5 (kAdd (kV (kCallB cr_absP G.f_abs (kCons (kV (kMul (kV kInt) (kO 5))) kNil))) (kV (kCallTy cr_intP G.f_int (kCons (kV (kCmp cLt (kO 5) (kV kInt))) kNil)))))
   (zOne (zIf (tCmp cGt (kO 5) (kV (kPow (kV kInt) (kV kInt)))) (zOne (zFor PassesOwn.never rfl (iRange1 G.f_range (kCons (kV kInt) kNil)) (g1 hN 6) (zOne (zIf (tCmp cGt (kO 5) (kV kInt)) (zCons (zExpr (kMeth mAppend 3 (kCons (kV (kMod (kV (kCallTy cr_intP G.f_int (kCons (kO 5) kNil))) (kV kInt))) kNil)))
   (zOne (zSet hN 5 (kFdiv (kO 5) (kV kInt))))) zNil)))) (zOne (zFor PassesOwn.never rfl (iRange1 G.f_range (kCons (kV kInt) kNil)) (g1 hN 6) (zCons (zSet hN 5 (kMod (kV (kCallTy cr_intP G.f_int (kCons (kV (kAdd (kV (kAdd (kV (kMul (kO 5) (kV kInt))) (kV (kMul (kV kInt) (kV (kAdd (kO 4) (kO 6))))))) (kV kInt))) kNil))) (kV kInt)))
   (zOne (zExpr (kMeth mAppend 3 (kCons (kV (kMod (kV (kCallTy cr_intP G.f_int (kCons (kV (kFdiv (kO 5) (kV kInt))) kNil))) (kV kInt))) kNil))))))))))))
   (zOne (zRetName 3))))

abbrev s_u_law_draw : Stmt := (top 29)
noncomputable def t_u_law_draw : SS := (sThen (sAsg (sPrim pIxA [oName 0, oVal (sC (.int 1))]) 2)
   (sThen (sSetI pSetL 0 (oVal (sC (.int 1))) (sPrim pAdd [oName 2, oVal (sC (.int 1))]))
   (sThen (sIfS (tBool (sPrim pLt [oName 2, oVal (sPrim pLenA [oVal (sPrim pIxA [oName 0, oVal (sC (.int 0))])])])) (sRet (sPrim pMod [oVal (sPrim pInt [oVal (sPrim pIxA [oVal (sPrim pIxA [oName 0, oVal (sC (.int 0))]), oName 2])]), oName 1])) sSkip)
   (sRet (sPrim pMod [oVal (sPrim pInt [oVal (sPrim pAdd [oVal (sPrim pMul [oName 2, oVal (sC (.int 5))]), oVal (sC (.int 1))])]), oName 1])))))
noncomputable def F_u_law_draw : D → List D → ResB := runB t_u_law_draw 1 3
theorem sc_u_law_draw : FnScope ["_law_box", "_law_many", "_law_at"] ["_law_box", "_law_many"] (defScope s_u_law_draw) := _root_.C8.fnScope_by (by kernel_rfl)
theorem d_u_law_draw {P : Program} {w : World} {K : PySem.W.Frag} {mg : Str → Option Value} {base : Heap} {cl : Str → Option Addr} {f : Addr} {fd : FuncData} (G : Gs K mg cl) (F : FnP K "_law_draw" "_law_draw" s_u_law_draw f fd) (TG : TalkG P K mg cl) :
    FnOk P w K mg base CX0' 1 f fd ["_law_box", "_law_many"] (spBx ⟨P, w, K, cl⟩ (List.replicate 1 false) F_u_law_draw) :=
  bx_ok (cl := cl) (k := 0) (t := t_u_law_draw) (N := ["_law_box", "_law_many", "_law_at"]) (ps := ["_law_box", "_law_many"]) (m := 1) F sc_u_law_draw rfl fun cdv A outer s H E hr =>
    have hu := hu65 hr
    have hN : List.Nodup (["_law_box", "_law_many", "_law_at"] : List Str) := sc_u_law_draw.nd
    (zCons (zSet hN 2 (kIx hu (kO 0) (kV kInt)))
   (zCons (zSetI set_listP 0 (kV kInt) (kAdd (kO 2) (kV kInt)))
   (zCons (zIf (tCmp cLt (kO 2) (kV (kCallB bLen G.f_len (kCons (kV (kIx hu (kO 0) (kV kInt))) kNil)))) (zOne (zRet (kMod (kV (kCallTy cr_intP G.f_int (kCons (kV (kIx hu (kV (kIx hu (kO 0) (kV kInt))) (kO 2))) kNil))) (kO 1)))) zNil)
   (zOne (zRet (kMod (kV (kCallTy cr_intP G.f_int (kCons (kV (kAdd (kV (kMul (kO 2) (kV kInt))) (kV kInt))) kNil))) (kO 1)))))))

abbrev s_u_law_service : Stmt := (top 31)
noncomputable def b0_u_law_service : SS := (sThen (sAsg (sCallB (List.replicate 1 false) F_u_law_draw 0 [oVal (sC (.int 9))]) 8)
   (sThen (sAsg (sC (.str "tau")) 9)
   (sThen (sIfS (tBool (sPrim pGt [oName 8, oVal (sC (.int 0))])) (sAsg (sPrim pIxA [oName 4, oVal (sPrim pMod [oVal (sPrim pInt [oName 8]), oVal (sPrim pLenA [oName 4])])]) 9) sSkip)
   (sThen (sAsg (sTup [oVal (sCallB (List.replicate 1 false) F_u_law_draw 0 [oVal (sName 3)]), oVal (sName 9), oVal (sCallB (List.replicate 1 false) F_u_law_draw 0 [oVal (sName 3)])]) 10)
   (sIfS (tBool (sPrim pNotInA [oName 10, oName 5])) (sDrop (sMeth .lst pAppend [false] 5 [oVal (sName 10)])) sSkip)))))
noncomputable def t_u_law_service : SS := (sThen (sAsg (sPrim pAdd [oVal (sC (.int 1)), oVal (sCallB (List.replicate 1 false) F_u_law_draw 0 [oVal (sName 2)])]) 3)
   (sThen (sAsg (sPrim pAdd [oVal (sPrim pAdd [oVal (sComp [12] (.one 12) (sSeq (oVal (sPrim pIxA [oName 1, oVal (sC (.int 0))]))) tTrue (oVal (sPrim pAdd [oVal (sC (.str "?")), oName 12]))), oVal (sComp [12] (.one 12) (sSeq (oVal (sPrim pIxA [oName 1, oVal (sC (.int 1))]))) tTrue (oVal (sPrim pAdd [oVal (sC (.str "!")), oName 12])))]), oVal (sLst [oVal (sC (.str "tau"))])]) 4)
   (sThen (sAsg (sLst []) 5)
   (sThen (sFor (.one 6) (sRange [oVal (sCallB (List.replicate 1 false) F_u_law_draw 0 [oVal (sPrim pAdd [oVal (sPrim pMul [oVal (sC (.int 3)), oName 3]), oVal (sC (.int 1))])])]) b0_u_law_service)
   (sThen (sAsg (sComp [11] (.one 11) (sRange [oName 3]) (tBool (sPrim pEq [oVal (sCallB (List.replicate 1 false) F_u_law_draw 0 [oVal (sC (.int 2))]), oVal (sC (.int 0))])) (oVal (sName 11))) 7)
   (sRet (sLst [oVal (sPrim pList [oVal (sPrim pIxA [oName 1, oVal (sC (.int 0))])]), oVal (sPrim pList [oVal (sPrim pIxA [oName 1, oVal (sC (.int 1))])]), oVal (sName 3), oVal (sPrim pSortedA [oName 5]), oVal (sName 7)])))))))
noncomputable def F_u_law_service : D → List D → ResB := runB t_u_law_service 2 13
theorem sc_u_law_service : FnScope ["_law_box", "_law_face_here", "_law_most", "_law_states", "_law_words", "_law_rows", "_law_turn", "_law_final", "_law_kind", "_law_label", "_law_row_here", "_law_s", "_law_m"] ["_law_box", "_law_face_here", "_law_most"] (defScope s_u_law_service) := _root_.C8.fnScope_by (by kernel_rfl)
theorem d_u_law_service {P : Program} {w : World} {K : PySem.W.Frag} {mg : Str → Option Value} {base : Heap} {cl : Str → Option Addr} {f : Addr} {fd : FuncData} (G : Gs K mg cl) (F : FnP K "_law_service" "_law_service" s_u_law_service f fd) (TG : TalkG P K mg cl) (h_u_law_draw : FnD P w K mg base 1 "_law_draw" (List.replicate 1 false).length (spBx ⟨P, w, K, cl⟩ (List.replicate 1 false) F_u_law_draw)) :
    FnOk P w K mg base CX0' 2 f fd ["_law_box", "_law_face_here", "_law_most"] (spBx ⟨P, w, K, cl⟩ (List.replicate 2 false) F_u_law_service) :=
  bx_ok (cl := cl) (k := 1) (t := t_u_law_service) (N := ["_law_box", "_law_face_here", "_law_most", "_law_states", "_law_words", "_law_rows", "_law_turn", "_law_final", "_law_kind", "_law_label", "_law_row_here", "_law_s", "_law_m"]) (ps := ["_law_box", "_law_face_here", "_law_most"]) (m := 2) F sc_u_law_service rfl fun cdv A outer s H E hr =>
    have hu := hu65 hr
    have hN : List.Nodup (["_law_box", "_law_face_here", "_law_most", "_law_states", "_law_words", "_law_rows", "_law_turn", "_law_final", "_law_kind", "_law_label", "_law_row_here", "_law_s", "_law_m"] : List Str) := sc_u_law_service.nd
    (zCons (zSet hN 3 (kAdd (kV kInt) (kV (kCallBx h_u_law_draw hr (by decide) 0 (kCons (kO 0) (kCons (kV (kN 2)) kNil))))))
   (zCons (zSet hN 4 (kAdd (kV (kAdd (kV (kComp [("_law_m", 12)] rfl hN (iSeq1 (kV (kIx hu (kO 1) (kV kInt)))) (fun _ _ _ _ _ => g1 hN 12) CIf.none (fun _ _ _ _ _ => kV (kAdd (kV kStr) (kO 12))))) (kV (kComp [("_law_m", 12)] rfl hN (iSeq1 (kV (kIx hu (kO 1) (kV kInt)))) (fun _ _ _ _ _ => g1 hN 12) CIf.none (fun _ _ _ _ _ => kV (kAdd (kV kStr) (kO 12))))))) (kV (kLst (kCons (kV kStr) kNil)))))
   (zCons (zSet hN 5 (kLst kNil))
   (zCons (zFor PassesOwn.never rfl (iRange1 G.f_range (kCons (kV (kCallBx h_u_law_draw hr (by decide) 0 (kCons (kO 0) (kCons (kV (kAdd (kV (kMul (kV kInt) (kO 3))) (kV kInt))) kNil)))) kNil)) (g1 hN 6) (zCons (zSet hN 8 (kCallBx h_u_law_draw hr (by decide) 0 (kCons (kO 0) (kCons (kV kInt) kNil))))
   (zCons (zSet hN 9 kStr)
   (zCons (zIf (tCmp cGt (kO 8) (kV kInt)) (zOne (zSet hN 9 (kIx hu (kO 4) (kV (kMod (kV (kCallTy cr_intP G.f_int (kCons (kO 8) kNil))) (kV (kCallB bLen G.f_len (kCons (kO 4) kNil)))))))) zNil)
   (zCons (zSet hN 10 (kTup (kCons (kV (kCallBx h_u_law_draw hr (by decide) 0 (kCons (kO 0) (kCons (kV (kN 3)) kNil)))) (kCons (kV (kN 9)) (kCons (kV (kCallBx h_u_law_draw hr (by decide) 0 (kCons (kO 0) (kCons (kV (kN 3)) kNil)))) kNil)))))
   (zOne (zIf (tCmp (cNotIn hu) (kO 10) (kO 5)) (zOne (zExpr (kMeth mAppend 5 (kCons (kV (kN 10)) kNil)))) zNil)))))))
   (zCons (sCompS [("_law_s", 11)] 7 rfl hN (iRange1 G.f_range (kCons (kO 3) kNil)) (fun _ _ _ _ _ => g1 hN 11) (CIf.one (fun _ _ _ _ _ => tCmp (cEq hu) (kV (kCallBx h_u_law_draw hr (by decide) 0 (kCons (kO 0) (kCons (kV kInt) kNil)))) (kV kInt))) (fun _ _ _ _ _ => kV (kN 11)))
   (zOne (zRet (kLst (kCons (kV (kCallTy cr_listP G.f_list (kCons (kV (kIx hu (kO 1) (kV kInt))) kNil))) (kCons (kV (kCallTy cr_listP G.f_list (kCons (kV (kIx hu (kO 1) (kV kInt))) kNil))) (kCons (kV (kN 3)) (kCons (kV (kCallB (bSorted rfl hu) G.f_sorted (kCons (kO 5) kNil))) (kCons (kV (kN 7)) kNil)))))))))))))

abbrev s_u_law_face : Stmt := (top 30)
noncomputable def t_u_law_face : SS := (sThen (sAsg (sPrim pIxA [oVal (sLst [oVal (sLst [oVal (sC (.str "a"))]), oVal (sLst [oVal (sC (.str "a")), oVal (sC (.str "b"))]), oVal (sLst []), oVal (sLst [oVal (sC (.str "b"))]), oVal (sLst [oVal (sC (.str "a")), oVal (sC (.str "b"))])]), oVal (sCallB (List.replicate 1 false) F_u_law_draw 0 [oVal (sC (.int 5))])]) 1)
   (sThen (sAsg (sPrim pIxA [oVal (sLst [oVal (sLst [oVal (sC (.str "c"))]), oVal (sLst [oVal (sC (.str "c")), oVal (sC (.str "d"))]), oVal (sLst [oVal (sC (.str "c"))]), oVal (sLst []), oVal (sLst [oVal (sC (.str "d"))])]), oVal (sCallB (List.replicate 1 false) F_u_law_draw 0 [oVal (sC (.int 5))])]) 2)
   (sRet (sLst [oVal (sPrim pList [oName 1]), oVal (sPrim pList [oName 2])]))))
noncomputable def F_u_law_face : D → List D → ResB := runB t_u_law_face 0 3
theorem sc_u_law_face : FnScope ["_law_box", "_law_ins", "_law_outs"] ["_law_box"] (defScope s_u_law_face) := _root_.C8.fnScope_by (by kernel_rfl)
theorem d_u_law_face {P : Program} {w : World} {K : PySem.W.Frag} {mg : Str → Option Value} {base : Heap} {cl : Str → Option Addr} {f : Addr} {fd : FuncData} (G : Gs K mg cl) (F : FnP K "_law_face" "_law_face" s_u_law_face f fd) (TG : TalkG P K mg cl) (h_u_law_draw : FnD P w K mg base 1 "_law_draw" (List.replicate 1 false).length (spBx ⟨P, w, K, cl⟩ (List.replicate 1 false) F_u_law_draw)) :
    FnOk P w K mg base CX0' 2 f fd ["_law_box"] (spBx ⟨P, w, K, cl⟩ (List.replicate 0 false) F_u_law_face) :=
  bx_ok (cl := cl) (k := 1) (t := t_u_law_face) (N := ["_law_box", "_law_ins", "_law_outs"]) (ps := ["_law_box"]) (m := 0) F sc_u_law_face rfl fun cdv A outer s H E hr =>
    have hu := hu65 hr
    have hN : List.Nodup (["_law_box", "_law_ins", "_law_outs"] : List Str) := sc_u_law_face.nd
    (zCons (zSet hN 1 (kIx hu (kV (kLst (kCons (kV (kLst (kCons (kV kStr) kNil))) (kCons (kV (kLst (kCons (kV kStr) (kCons (kV kStr) kNil)))) (kCons (kV (kLst kNil)) (kCons (kV (kLst (kCons (kV kStr) kNil))) (kCons (kV (kLst (kCons (kV kStr) (kCons (kV kStr) kNil)))) kNil))))))) (kV (kCallBx h_u_law_draw hr (by decide) 0 (kCons (kO 0) (kCons (kV kInt) kNil))))))
   (zCons (zSet hN 2 (kIx hu (kV (kLst (kCons (kV (kLst (kCons (kV kStr) kNil))) (kCons (kV (kLst (kCons (kV kStr) (kCons (kV kStr) kNil)))) (kCons (kV (kLst (kCons (kV kStr) kNil))) (kCons (kV (kLst kNil)) (kCons (kV (kLst (kCons (kV kStr) kNil))) kNil))))))) (kV (kCallBx h_u_law_draw hr (by decide) 0 (kCons (kO 0) (kCons (kV kInt) kNil))))))
   (zOne (zRet (kLst (kCons (kV (kCallTy cr_listP G.f_list (kCons (kO 1) kNil))) (kCons (kV (kCallTy cr_listP G.f_list (kCons (kO 2) kNil))) kNil)))))))

abbrev s_u_turned : Stmt := (top 22)
noncomputable def t_u_turned : SS := (sRet (sPrim pAdd [oVal (sIf (tBool (sPrim pEq [oVal (sPrim pIxA [oName 0, oVal (sC (.int 0))]), oVal (sC (.str "!"))])) (sC (.str "?")) (sC (.str "!"))), oVal (sSlice (oName 0) (some (oVal (sC (.int 1)))) none)]))
noncomputable def F_u_turned : List D → Res Vl := runF t_u_turned [false] 1
theorem sc_u_turned : FnScope ["label"] ["label"] (defScope s_u_turned) := _root_.C8.fnScope_by (by kernel_rfl)
theorem d_u_turned {P : Program} {w : World} {K : PySem.W.Frag} {mg : Str → Option Value} {base : Heap} {cl : Str → Option Addr} {f : Addr} {fd : FuncData} (G : Gs K mg cl) (F : FnP K "_turned" "_turned" s_u_turned f fd) (TG : TalkG P K mg cl) :
    FnOk P w K mg base CX0' 1 f fd ["label"] (spFn ⟨P, w, K, cl⟩ [false] F_u_turned) :=
  def_ok (cl := cl) (k := 0) (t := t_u_turned) (N := ["label"]) (ps := ["label"]) (modes := [false]) F sc_u_turned rfl fun cdv A outer s H E hr =>
    have hu := hu65 hr
    have hN : List.Nodup (["label"] : List Str) := sc_u_turned.nd
    (zOne (zRet (kAdd (kV (kIf (tCmp (cEq hu) (kV (kIx hu (kO 0) (kV kInt))) (kV kStr)) kStr kStr)) (kV (kSlice (kO 0) (pSome (kV kInt)) pNone)))))

abbrev s_is_number : Stmt := (top 10)
noncomputable def t_is_number : SS := (sRet (sAnd (sPrim (pIsi (fIsi "int")) [oName 0]) (sAnd (sNot (oVal (sPrim (pIsi (fIsi "bool")) [oName 0]))) (sChain pLe pLe (oVal (sC (.int 0))) (oName 0) (oName 1)))))
noncomputable def F_is_number : List D → Res Vl := runF t_is_number [false, false] 2
theorem sc_is_number : FnScope ["thing", "most"] ["thing", "most"] (defScope s_is_number) := _root_.C8.fnScope_by (by kernel_rfl)
theorem d_is_number {P : Program} {w : World} {K : PySem.W.Frag} {mg : Str → Option Value} {base : Heap} {cl : Str → Option Addr} {f : Addr} {fd : FuncData} (G : Gs K mg cl) (F : FnP K "is_number" "is_number" s_is_number f fd) (TG : TalkG P K mg cl) :
    FnOk P w K mg base CX0' 1 f fd ["thing", "most"] (spFn ⟨P, w, K, cl⟩ [false, false] F_is_number) :=
  def_ok (cl := cl) (k := 0) (t := t_is_number) (N := ["thing", "most"]) (ps := ["thing", "most"]) (modes := [false, false]) F sc_is_number rfl fun cdv A outer s H E hr =>
    have hu := hu65 hr
    have hN : List.Nodup (["thing", "most"] : List Str) := sc_is_number.nd
    (zOne (zRet (kAnd (kIsi (fIsi_ok "int") (kO 0) G.f_isinstance G.f_int) (kAnd (kNot (kV (kIsi (fIsi_ok "bool") (kO 0) G.f_isinstance G.f_bool))) (kOne (kChain cLe cLe (kV kInt) (kO 0) (kO 1)))))))

abbrev s_u_are_transitions : Stmt := (top 15)
noncomputable def b0_u_are_transitions : SS := (sThen (sIfS (Ev.tOr (Ev.tNot (tVal (oVal (sPrim (pIsi (fIsi "tuple")) [oName 3])))) (Ev.tOr (tBool (sPrim pNe [oVal (sPrim pLenA [oName 3]), oVal (sC (.int 3))])) (Ev.tNot (tVal (oVal (sPrim (pIsi (fIsi "str")) [oVal (sPrim pIxA [oName 3, oVal (sC (.int 1))])])))))) (sRet (sC (.bl false))) sSkip)
   (sIfS (Ev.tOr (Ev.tNot (tVal (oVal (sCall [false, false] F_is_number [oVal (sPrim pIxA [oName 3, oVal (sC (.int 0))]), oVal (sPrim pSub [oName 1, oVal (sC (.int 1))])])))) (Ev.tNot (tVal (oVal (sCall [false, false] F_is_number [oVal (sPrim pIxA [oName 3, oVal (sC (.int 2))]), oVal (sPrim pSub [oName 1, oVal (sC (.int 1))])]))))) (sRet (sC (.bl false))) sSkip))
noncomputable def t_u_are_transitions : SS := (sThen (sIfS (Ev.tOr (Ev.tNot (tVal (oVal (sPrim (pIsi (fIsi "list")) [oName 0])))) (tBool (sPrim pGt [oVal (sPrim pLenA [oName 0]), oName 2]))) (sRet (sC (.bl false))) sSkip)
   (sThen (sFor (.one 3) (sSeq (oVal (sName 0))) b0_u_are_transitions)
   (sRet (sPrim pEq [oVal (sPrim pLenA [oVal (sDComp [3] (.one 3) (sSeq (oName 0)) tTrue (oVal (sName 3)) (oVal (sC (.bl true))))]), oVal (sPrim pLenA [oName 0])]))))
noncomputable def F_u_are_transitions : List D → Res Vl := runF t_u_are_transitions [false, false, false] 4
theorem sc_u_are_transitions : FnScope ["thing", "states", "most", "told"] ["thing", "states", "most"] (defScope s_u_are_transitions) := _root_.C8.fnScope_by (by kernel_rfl)
theorem d_u_are_transitions {P : Program} {w : World} {K : PySem.W.Frag} {mg : Str → Option Value} {base : Heap} {cl : Str → Option Addr} {f : Addr} {fd : FuncData} (G : Gs K mg cl) (F : FnP K "_are_transitions" "_are_transitions" s_u_are_transitions f fd) (TG : TalkG P K mg cl) (h_is_number : FnD P w K mg base 1 "is_number" [false, false].length (spFn ⟨P, w, K, cl⟩ [false, false] F_is_number)) :
    FnOk P w K mg base CX0' 2 f fd ["thing", "states", "most"] (spFn ⟨P, w, K, cl⟩ [false, false, false] F_u_are_transitions) :=
  def_ok (cl := cl) (k := 1) (t := t_u_are_transitions) (N := ["thing", "states", "most", "told"]) (ps := ["thing", "states", "most"]) (modes := [false, false, false]) F sc_u_are_transitions rfl fun cdv A outer s H E hr =>
    have hu := hu65 hr
    have hN : List.Nodup (["thing", "states", "most", "told"] : List Str) := sc_u_are_transitions.nd
    (zCons (zIf (tW (wOr (tNot1 (tTru (kV (kIsi (fIsi_ok "list") (kO 0) G.f_isinstance G.f_list)))) (wOr1 (tCmp cGt (kV (kCallB bLen G.f_len (kCons (kO 0) kNil))) (kO 2))))) (zOne (zRet kBool)) zNil)
   (zCons (zFor PassesOwn.never rfl (iSeq1 (kV (kN 0))) (g1 hN 3) (zCons (zIf (tW (wOr (tNot1 (tTru (kV (kIsi (fIsi_ok "tuple") (kO 3) G.f_isinstance G.f_tuple)))) (wOr (tCmp (cNe hu) (kV (kCallB bLen G.f_len (kCons (kO 3) kNil))) (kV kInt)) (wOr1 (tNot1 (tTru (kV (kIsi (fIsi_ok "str") (kV (kIx hu (kO 3) (kV kInt))) G.f_isinstance G.f_str)))))))) (zOne (zRet kBool)) zNil)
   (zOne (zIf (tW (wOr (tNot1 (tTru (kV (kCall h_is_number hr (by decide) (kCons (kV (kIx hu (kO 3) (kV kInt))) (kCons (kV (kSub (kO 1) (kV kInt))) kNil)))))) (wOr1 (tNot1 (tTru (kV (kCall h_is_number hr (by decide) (kCons (kV (kIx hu (kO 3) (kV kInt))) (kCons (kV (kSub (kO 1) (kV kInt))) kNil))))))))) (zOne (zRet kBool)) zNil))))
   (zOne (zRet (kCmp (cEq hu) (kV (kCallB bLen G.f_len (kCons (kV (kDComp [("told", 3)] hu rfl hN (iSeq1 (kO 0)) (fun _ _ _ _ _ => g1 hN 3) CIf.none (fun _ _ _ _ _ => kV (kN 3)) (fun _ _ _ _ _ => kV kBool))) kNil))) (kV (kCallB bLen G.f_len (kCons (kO 0) kNil))))))))

abbrev s_is_ascending : Stmt := (top 13)
noncomputable def t_is_ascending : SS := (sRet (sPrim pAll [oVal (sComp [1, 2] (.many [1, 2]) (sZip (oName 0) (oVal (sSlice (oName 0) (some (oVal (sC (.int 1)))) none))) tTrue (oVal (sPrim pLt [oName 1, oName 2])))]))
noncomputable def F_is_ascending : List D → Res Vl := runF t_is_ascending [false] 3
theorem sc_is_ascending : FnScope ["things", "one", "two"] ["things"] (defScope s_is_ascending) := _root_.C8.fnScope_by (by kernel_rfl)
theorem d_is_ascending {P : Program} {w : World} {K : PySem.W.Frag} {mg : Str → Option Value} {base : Heap} {cl : Str → Option Addr} {f : Addr} {fd : FuncData} (G : Gs K mg cl) (F : FnP K "is_ascending" "is_ascending" s_is_ascending f fd) (TG : TalkG P K mg cl) :
    FnOk P w K mg base CX0' 1 f fd ["things"] (spFn ⟨P, w, K, cl⟩ [false] F_is_ascending) :=
  def_ok (cl := cl) (k := 0) (t := t_is_ascending) (N := ["things", "one", "two"]) (ps := ["things"]) (modes := [false]) F sc_is_ascending rfl fun cdv A outer s H E hr =>
    have hu := hu65 hr
    have hN : List.Nodup (["things", "one", "two"] : List Str) := sc_is_ascending.nd
    (zOne (zRet (kCallB (cr_allP rfl) G.f_all (kCons (kV (kComp [("one", 1), ("two", 2)] rfl hN (iZip1 G.f_zip (kCons (kO 0) (kCons (kV (kSlice (kO 0) (pSome (kV kInt)) pNone)) kNil))) (fun _ _ _ _ _ => gN rfl (gsCons hN 1 (gsCons hN 2 gsNil))) CIf.none (fun _ _ _ _ _ => kV (kCmp cLt (kO 1) (kO 2))))) kNil))))

abbrev s_u_are_final : Stmt := (top 16)
noncomputable def t_u_are_final : SS := (sThen (sIfS (Ev.tOr (Ev.tNot (tVal (oVal (sPrim (pIsi (fIsi "list")) [oName 0])))) (Ev.tNot (tVal (oVal (sPrim pAll [oVal (sComp [2] (.one 2) (sSeq (oName 0)) tTrue (oVal (sCall [false, false] F_is_number [oVal (sName 2), oVal (sPrim pSub [oName 1, oVal (sC (.int 1))])])))]))))) (sRet (sC (.bl false))) sSkip)
   (sRet (sCall [false] F_is_ascending [oVal (sName 0)])))
noncomputable def F_u_are_final : List D → Res Vl := runF t_u_are_final [false, false] 3
theorem sc_u_are_final : FnScope ["thing", "states", "state"] ["thing", "states"] (defScope s_u_are_final) := _root_.C8.fnScope_by (by kernel_rfl)
theorem d_u_are_final {P : Program} {w : World} {K : PySem.W.Frag} {mg : Str → Option Value} {base : Heap} {cl : Str → Option Addr} {f : Addr} {fd : FuncData} (G : Gs K mg cl) (F : FnP K "_are_final" "_are_final" s_u_are_final f fd) (TG : TalkG P K mg cl) (h_is_number : FnD P w K mg base 1 "is_number" [false, false].length (spFn ⟨P, w, K, cl⟩ [false, false] F_is_number)) (h_is_ascending : FnD P w K mg base 1 "is_ascending" [false].length (spFn ⟨P, w, K, cl⟩ [false] F_is_ascending)) :
    FnOk P w K mg base CX0' 2 f fd ["thing", "states"] (spFn ⟨P, w, K, cl⟩ [false, false] F_u_are_final) :=
  def_ok (cl := cl) (k := 1) (t := t_u_are_final) (N := ["thing", "states", "state"]) (ps := ["thing", "states"]) (modes := [false, false]) F sc_u_are_final rfl fun cdv A outer s H E hr =>
    have hu := hu65 hr
    have hN : List.Nodup (["thing", "states", "state"] : List Str) := sc_u_are_final.nd
    (zCons (zIf (tW (wOr (tNot1 (tTru (kV (kIsi (fIsi_ok "list") (kO 0) G.f_isinstance G.f_list)))) (wOr1 (tNot1 (tTru (kV (kCallB (cr_allP rfl) G.f_all (kCons (kV (kComp [("state", 2)] rfl hN (iSeq1 (kO 0)) (fun _ _ _ _ _ => g1 hN 2) CIf.none (fun _ _ _ _ _ => kV (kCall h_is_number hr (by decide) (kCons (kV (kN 2)) (kCons (kV (kSub (kO 1) (kV kInt))) kNil)))))) kNil)))))))) (zOne (zRet kBool)) zNil)
   (zOne (zRet (kCall h_is_ascending hr (by decide) (kCons (kV (kN 0)) kNil)))))

abbrev s_u_is_shape : Stmt := (top 17)
noncomputable def t_u_is_shape : SS := (sThen (sIfS (Ev.tOr (Ev.tNot (tVal (oVal (sCall [false, false] F_is_number [oVal (sName 0), oVal (sName 1)])))) (tBool (sPrim pLt [oName 0, oVal (sC (.int 1))]))) (sRet (sC (.bl false))) sSkip)
   (sRet (sAnd (sCall [false, false, false] F_u_are_transitions [oVal (sName 2), oVal (sName 0), oVal (sName 3)]) (sCall [false, false] F_u_are_final [oVal (sName 4), oVal (sName 0)]))))
noncomputable def F_u_is_shape : List D → Res Vl := runF t_u_is_shape [false, false, false, false, false] 5
theorem sc_u_is_shape : FnScope ["states", "most", "transitions", "most_transitions", "final"] ["states", "most", "transitions", "most_transitions", "final"] (defScope s_u_is_shape) := _root_.C8.fnScope_by (by kernel_rfl)
theorem d_u_is_shape {P : Program} {w : World} {K : PySem.W.Frag} {mg : Str → Option Value} {base : Heap} {cl : Str → Option Addr} {f : Addr} {fd : FuncData} (G : Gs K mg cl) (F : FnP K "_is_shape" "_is_shape" s_u_is_shape f fd) (TG : TalkG P K mg cl) (h_is_number : FnD P w K mg base 1 "is_number" [false, false].length (spFn ⟨P, w, K, cl⟩ [false, false] F_is_number)) (h_u_are_transitions : FnD P w K mg base 2 "_are_transitions" [false, false, false].length (spFn ⟨P, w, K, cl⟩ [false, false, false] F_u_are_transitions)) (h_u_are_final : FnD P w K mg base 2 "_are_final" [false, false].length (spFn ⟨P, w, K, cl⟩ [false, false] F_u_are_final)) :
    FnOk P w K mg base CX0' 3 f fd ["states", "most", "transitions", "most_transitions", "final"] (spFn ⟨P, w, K, cl⟩ [false, false, false, false, false] F_u_is_shape) :=
  def_ok (cl := cl) (k := 2) (t := t_u_is_shape) (N := ["states", "most", "transitions", "most_transitions", "final"]) (ps := ["states", "most", "transitions", "most_transitions", "final"]) (modes := [false, false, false, false, false]) F sc_u_is_shape rfl fun cdv A outer s H E hr =>
    have hu := hu65 hr
    have hN : List.Nodup (["states", "most", "transitions", "most_transitions", "final"] : List Str) := sc_u_is_shape.nd
    (zCons (zIf (tW (wOr (tNot1 (tTru (kV (kCall h_is_number hr (by decide) (kCons (kV (kN 0)) (kCons (kV (kN 1)) kNil)))))) (wOr1 (tCmp cLt (kO 0) (kV kInt))))) (zOne (zRet kBool)) zNil)
   (zOne (zRet (kAnd (kCall h_u_are_transitions hr (by decide) (kCons (kV (kN 2)) (kCons (kV (kN 0)) (kCons (kV (kN 3)) kNil)))) (kOne (kCall h_u_are_final hr (by decide) (kCons (kV (kN 4)) (kCons (kV (kN 0)) kNil))))))))

abbrev s_is_message : Stmt := (top 11)
noncomputable def t_is_message : SS := (sThen (sIfS (Ev.tOr (Ev.tNot (tVal (oVal (sPrim (pIsi (fIsi "str")) [oName 0])))) (Ev.tNot (tBool (sChain pLe pLe (oVal (sC (.int 1))) (oVal (sPrim pLenA [oName 0])) (oVal (sC (.int 8))))))) (sRet (sC (.bl false))) sSkip)
   (sRet (sPrim pAll [oVal (sComp [1] (.one 1) (sSeq (oName 0)) tTrue (oVal (sPrim pInA [oName 1, oVal (sC (.str "abcdefghijklmnopqrstuvwxyz"))])))])))
noncomputable def F_is_message : List D → Res Vl := runF t_is_message [false] 2
theorem sc_is_message : FnScope ["thing", "letter"] ["thing"] (defScope s_is_message) := _root_.C8.fnScope_by (by kernel_rfl)
theorem d_is_message {P : Program} {w : World} {K : PySem.W.Frag} {mg : Str → Option Value} {base : Heap} {cl : Str → Option Addr} {f : Addr} {fd : FuncData} (G : Gs K mg cl) (F : FnP K "is_message" "is_message" s_is_message f fd) (TG : TalkG P K mg cl) :
    FnOk P w K mg base CX0' 1 f fd ["thing"] (spFn ⟨P, w, K, cl⟩ [false] F_is_message) :=
  def_ok (cl := cl) (k := 0) (t := t_is_message) (N := ["thing", "letter"]) (ps := ["thing"]) (modes := [false]) F sc_is_message rfl fun cdv A outer s H E hr =>
    have hu := hu65 hr
    have hN : List.Nodup (["thing", "letter"] : List Str) := sc_is_message.nd
    (zCons (zIf (tW (wOr (tNot1 (tTru (kV (kIsi (fIsi_ok "str") (kO 0) G.f_isinstance G.f_str)))) (wOr1 (tNot1 (tChain1 cLe cLe (kV kInt) (kV (kCallB bLen G.f_len (kCons (kO 0) kNil))) (kV G.c_LONGEST_MESSAGE.ve)))))) (zOne (zRet kBool)) zNil)
   (zOne (zRet (kCallB (cr_allP rfl) G.f_all (kCons (kV (kComp [("letter", 1)] rfl hN (iSeq1 (kO 0)) (fun _ _ _ _ _ => g1 hN 1) CIf.none (fun _ _ _ _ _ => kV (kCmp (cIn hu) (kO 1) (kV G.c_LETTERS.ve))))) kNil)))))

abbrev s_is_label : Stmt := (top 12)
noncomputable def t_is_label : SS := (sRet (sAnd (sPrim (pIsi (fIsi "str")) [oName 0]) (sAnd (sPrim pInA [oVal (sSlice (oName 0) none (some (oVal (sC (.int 1))))), oVal (sTup [oVal (sC (.str "!")), oVal (sC (.str "?"))])]) (sCall [false] F_is_message [oVal (sSlice (oName 0) (some (oVal (sC (.int 1)))) none)]))))
noncomputable def F_is_label : List D → Res Vl := runF t_is_label [false] 1
theorem sc_is_label : FnScope ["thing"] ["thing"] (defScope s_is_label) := _root_.C8.fnScope_by (by kernel_rfl)
theorem d_is_label {P : Program} {w : World} {K : PySem.W.Frag} {mg : Str → Option Value} {base : Heap} {cl : Str → Option Addr} {f : Addr} {fd : FuncData} (G : Gs K mg cl) (F : FnP K "is_label" "is_label" s_is_label f fd) (TG : TalkG P K mg cl) (h_is_message : FnD P w K mg base 1 "is_message" [false].length (spFn ⟨P, w, K, cl⟩ [false] F_is_message)) :
    FnOk P w K mg base CX0' 2 f fd ["thing"] (spFn ⟨P, w, K, cl⟩ [false] F_is_label) :=
  def_ok (cl := cl) (k := 1) (t := t_is_label) (N := ["thing"]) (ps := ["thing"]) (modes := [false]) F sc_is_label rfl fun cdv A outer s H E hr =>
    have hu := hu65 hr
    have hN : List.Nodup (["thing"] : List Str) := sc_is_label.nd
    (zOne (zRet (kAnd (kIsi (fIsi_ok "str") (kO 0) G.f_isinstance G.f_str) (kAnd (kCmp (cIn hu) (kV (kSlice (kO 0) pNone (pSome (kV kInt)))) (kV (kTup (kCons (kV kStr) (kCons (kV kStr) kNil))))) (kOne (kCall h_is_message hr (by decide) (kCons (kV (kSlice (kO 0) (pSome (kV kInt)) pNone)) kNil)))))))

abbrev s_C_Partner : Stmt := (inClass (top 19) 0)
noncomputable def t_C_Partner : SS := (sThen (sAsg (sCall [false, false, false, false, false] F_u_is_shape [oVal (sName 1), oVal (sC (.int 300)), oVal (sName 2), oVal (sC (.int 2000)), oVal (sName 3)]) 4)
   (sThen (sIfS (Ev.tOr (Ev.tNot (tVal (oName 4))) (Ev.tNot (tVal (oVal (sPrim pAll [oVal (sComp [5, 6, 7] (.many [5, 6, 7]) (sSeq (oName 2)) tTrue (oVal (sCall [false] F_is_label [oVal (sName 6)])))]))))) (sRaise "no partner") sSkip)
   (sThen (sSetF at_ "states" 0 (sName 1))
   (sThen (sSetF at_ "transitions" 0 (sPrim pSortedA [oName 2]))
   (sSetF at_ "final" 0 (sPrim pList [oName 3]))))))
noncomputable def F_C_Partner : D → List D → ResB := runBX t_C_Partner 3 8
theorem sc_C_Partner : FnScope ["self", "states", "transitions", "final", "good", "before", "label", "after"] ["self", "states", "transitions", "final"] (defScope s_C_Partner) := _root_.C8.fnScope_by (by kernel_rfl)
theorem d_C_Partner {P : Program} {w : World} {K : PySem.W.Frag} {mg : Str → Option Value} {base : Heap} {cl : Str → Option Addr} {f : Addr} {fd : FuncData} (G : Gs K mg cl) (F : FnP K "__init__" "Partner.__init__" s_C_Partner f fd) (TG : TalkG P K mg cl) (h_u_is_shape : FnD P w K mg base 3 "_is_shape" [false, false, false, false, false].length (spFn ⟨P, w, K, cl⟩ [false, false, false, false, false] F_u_is_shape)) (h_is_label : FnD P w K mg base 2 "is_label" [false].length (spFn ⟨P, w, K, cl⟩ [false] F_is_label)) :
    FnOk P w K mg base (L2N.CX P w) 4 f fd ["self", "states", "transitions", "final"] (spBx ⟨P, w, K, cl⟩ (List.replicate 3 false) F_C_Partner) :=
  bx_okN (cl := cl) (k := 3) (t := t_C_Partner) (N := ["self", "states", "transitions", "final", "good", "before", "label", "after"]) (ps := ["self", "states", "transitions", "final"]) (m := 3) F sc_C_Partner rfl fun cdv A outer s H E hr I =>
    have hu := hu65 hr
    have hN : List.Nodup (["self", "states", "transitions", "final", "good", "before", "label", "after"] : List Str) := sc_C_Partner.nd
    (zCons (zSet hN 4 (kCall h_u_is_shape hr (by decide) (kCons (kV (kN 1)) (kCons (kV G.c_MOST_PARTNER_STATES.ve) (kCons (kV (kN 2)) (kCons (kV G.c_MOST_PARTNER_TRANSITIONS.ve) (kCons (kV (kN 3)) kNil)))))))
   (zCons (zIf (tW (wOr (tNot1 (tTru (kO 4))) (wOr1 (tNot1 (tTru (kV (kCallB (cr_allP rfl) G.f_all (kCons (kV (kComp [("before", 5), ("label", 6), ("after", 7)] rfl hN (iSeq1 (kO 2)) (fun _ _ _ _ _ => gN rfl (gsCons hN 5 (gsCons hN 6 (gsCons hN 7 gsNil)))) CIf.none (fun _ _ _ _ _ => kV (kCall h_is_label hr (by decide) (kCons (kV (kN 6)) kNil))))) kNil)))))))) (zOne (zRaiseN rfl TG (dep1 hr) I.tk)) zNil)
   (zCons (zSetF G.hat 0 (kN 1))
   (zCons (zSetF G.hat 0 (kCallB (bSorted rfl hu) G.f_sorted (kCons (kO 2) kNil)))
   (zOne (zSetF G.hat 0 (kCallTy cr_listP G.f_list (kCons (kO 3) kNil))))))))

abbrev s_dual : Stmt := (top 23)
noncomputable def t_dual : SS := (sThen (sIfS (tVal (oVal (sPrim pAny [oVal (sComp [2, 3, 4] (.many [2, 3, 4]) (sSeq (oVal (sFld at_ "transitions" (oName 0)))) tTrue (oVal (sPrim pEq [oName 3, oVal (sC (.str "tau"))])))]))) (sRaise "internal transitions") sSkip)
   (sThen (sAsg (sComp [2, 3, 4] (.many [2, 3, 4]) (sSeq (oVal (sFld at_ "transitions" (oName 0)))) tTrue (oVal (sTup [oVal (sName 2), oVal (sCall [false] F_u_turned [oVal (sName 3)]), oVal (sName 4)]))) 1)
   (sRet (sMake "Partner" (List.replicate 3 false) F_C_Partner [oVal (sFld at_ "states" (oName 0)), oVal (sName 1), oVal (sFld at_ "final" (oName 0))]))))
noncomputable def F_dual : List D → Res Vl := runFX t_dual [false] 5
theorem sc_dual : FnScope ["service", "transitions", "before", "label", "after"] ["service"] (defScope s_dual) := _root_.C8.fnScope_by (by kernel_rfl)
theorem d_dual {P : Program} {w : World} {K : PySem.W.Frag} {mg : Str → Option Value} {base : Heap} {cl : Str → Option Addr} {f : Addr} {fd : FuncData} (G : Gs K mg cl) (F : FnP K "dual" "dual" s_dual f fd) (TG : TalkG P K mg cl) (h_u_turned : FnD P w K mg base 1 "_turned" [false].length (spFn ⟨P, w, K, cl⟩ [false] F_u_turned)) (h_C_Partner : ClQ (L2N.CX P w) P w K mg base cl 4 "Partner" (spBx ⟨P, w, K, cl⟩ (List.replicate 3 false) F_C_Partner)) :
    FnOk P w K mg base (L2N.CX P w) 6 f fd ["service"] (spFn ⟨P, w, K, cl⟩ [false] F_dual) :=
  def_okN (cl := cl) (k := 5) (t := t_dual) (N := ["service", "transitions", "before", "label", "after"]) (ps := ["service"]) (modes := [false]) F sc_dual rfl fun cdv A outer s H E hr I =>
    have hu := hu65 hr
    have hN : List.Nodup (["service", "transitions", "before", "label", "after"] : List Str) := sc_dual.nd
    (zCons (zIf (tTru (kV (kCallB (cr_anyP rfl) G.f_any (kCons (kV (kComp [("before", 2), ("label", 3), ("after", 4)] rfl hN (iSeq1 (kV (kFld G.hat (kO 0)))) (fun _ _ _ _ _ => gN rfl (gsCons hN 2 (gsCons hN 3 (gsCons hN 4 gsNil)))) CIf.none (fun _ _ _ _ _ => kV (kCmp (cEq hu) (kO 3) (kV kStr))))) kNil)))) (zOne (zRaiseN rfl TG (dep1 hr) I.tk)) zNil)
   (zCons (sCompS [("before", 2), ("label", 3), ("after", 4)] 1 rfl hN (iSeq1 (kV (kFld G.hat (kO 0)))) (fun _ _ _ _ _ => gN rfl (gsCons hN 2 (gsCons hN 3 (gsCons hN 4 gsNil)))) CIf.none (fun _ _ _ _ _ => kV (kTup (kCons (kV (kN 2)) (kCons (kV (kCall h_u_turned hr (by decide) (kCons (kV (kN 3)) kNil))) (kCons (kV (kN 4)) kNil))))))
   (zOne (zRet (kMakeQ h_C_Partner (passNN I.tk) hr (by decide) (kCons (kV (kFld G.hat (kO 0))) (kCons (kV (kN 1)) (kCons (kV (kFld G.hat (kO 0))) kNil))))))))

abbrev s_u_are_messages : Stmt := (top 14)
noncomputable def t_u_are_messages : SS := (sThen (sIfS (Ev.tOr (Ev.tNot (tVal (oVal (sPrim (pIsi (fIsi "list")) [oName 0])))) (tBool (sPrim pGt [oVal (sPrim pLenA [oName 0]), oVal (sC (.int 3))]))) (sRet (sC (.bl false))) sSkip)
   (sRet (sAnd (sPrim pAll [oVal (sComp [1] (.one 1) (sSeq (oName 0)) tTrue (oVal (sCall [false] F_is_message [oVal (sName 1)])))]) (sCall [false] F_is_ascending [oVal (sName 0)]))))
noncomputable def F_u_are_messages : List D → Res Vl := runF t_u_are_messages [false] 2
theorem sc_u_are_messages : FnScope ["thing", "m"] ["thing"] (defScope s_u_are_messages) := _root_.C8.fnScope_by (by kernel_rfl)
theorem d_u_are_messages {P : Program} {w : World} {K : PySem.W.Frag} {mg : Str → Option Value} {base : Heap} {cl : Str → Option Addr} {f : Addr} {fd : FuncData} (G : Gs K mg cl) (F : FnP K "_are_messages" "_are_messages" s_u_are_messages f fd) (TG : TalkG P K mg cl) (h_is_message : FnD P w K mg base 1 "is_message" [false].length (spFn ⟨P, w, K, cl⟩ [false] F_is_message)) (h_is_ascending : FnD P w K mg base 1 "is_ascending" [false].length (spFn ⟨P, w, K, cl⟩ [false] F_is_ascending)) :
    FnOk P w K mg base CX0' 2 f fd ["thing"] (spFn ⟨P, w, K, cl⟩ [false] F_u_are_messages) :=
  def_ok (cl := cl) (k := 1) (t := t_u_are_messages) (N := ["thing", "m"]) (ps := ["thing"]) (modes := [false]) F sc_u_are_messages rfl fun cdv A outer s H E hr =>
    have hu := hu65 hr
    have hN : List.Nodup (["thing", "m"] : List Str) := sc_u_are_messages.nd
    (zCons (zIf (tW (wOr (tNot1 (tTru (kV (kIsi (fIsi_ok "list") (kO 0) G.f_isinstance G.f_list)))) (wOr1 (tCmp cGt (kV (kCallB bLen G.f_len (kCons (kO 0) kNil))) (kV G.c_MOST_MESSAGES.ve))))) (zOne (zRet kBool)) zNil)
   (zOne (zRet (kAnd (kCallB (cr_allP rfl) G.f_all (kCons (kV (kComp [("m", 1)] rfl hN (iSeq1 (kO 0)) (fun _ _ _ _ _ => g1 hN 1) CIf.none (fun _ _ _ _ _ => kV (kCall h_is_message hr (by decide) (kCons (kV (kN 1)) kNil))))) kNil)) (kOne (kCall h_is_ascending hr (by decide) (kCons (kV (kN 0)) kNil)))))))

abbrev s_C_Service : Stmt := (inClass (top 18) 0)
noncomputable def t_C_Service : SS := (sThen (sAsg (sAnd (sCall [false] F_u_are_messages [oVal (sName 1)]) (sCall [false] F_u_are_messages [oVal (sName 2)])) 6)
   (sThen (sAsg (sAnd (sName 6) (sNot (oVal (sPrim pAny [oVal (sComp [8] (.one 8) (sSeq (oName 1)) tTrue (oVal (sPrim pInA [oName 8, oName 2])))])))) 6)
   (sThen (sAsg (sAnd (sName 6) (sCall [false, false, false, false, false] F_u_is_shape [oVal (sName 3), oVal (sC (.int 12)), oVal (sName 4), oVal (sC (.int 60)), oVal (sName 5)])) 6)
   (sThen (sIfS (Ev.tNot (tVal (oName 6))) (sRaise "no service") sSkip)
   (sThen (sAsg (sPrim pAdd [oVal (sPrim pAdd [oVal (sLst [oVal (sC (.str "tau"))]), oVal (sComp [8] (.one 8) (sSeq (oName 1)) tTrue (oVal (sPrim pAdd [oVal (sC (.str "?")), oName 8])))]), oVal (sComp [8] (.one 8) (sSeq (oName 2)) tTrue (oVal (sPrim pAdd [oVal (sC (.str "!")), oName 8])))]) 7)
   (sThen (sIfS (Ev.tNot (tVal (oVal (sPrim pAll [oVal (sComp [9, 10, 11] (.many [9, 10, 11]) (sSeq (oName 4)) tTrue (oVal (sPrim pInA [oName 10, oName 7])))])))) (sRaise "no service") sSkip)
   (sThen (sSetF at_ "inputs" 0 (sPrim pList [oName 1]))
   (sThen (sSetF at_ "outputs" 0 (sPrim pList [oName 2]))
   (sThen (sSetF at_ "states" 0 (sName 3))
   (sThen (sSetF at_ "transitions" 0 (sPrim pSortedA [oName 4]))
   (sSetF at_ "final" 0 (sPrim pList [oName 5]))))))))))))
noncomputable def F_C_Service : D → List D → ResB := runBX t_C_Service 5 12
theorem sc_C_Service : FnScope ["self", "inputs", "outputs", "states", "transitions", "final", "good", "labels", "m", "before", "label", "after"] ["self", "inputs", "outputs", "states", "transitions", "final"] (defScope s_C_Service) := _root_.C8.fnScope_by (by kernel_rfl)
theorem d_C_Service {P : Program} {w : World} {K : PySem.W.Frag} {mg : Str → Option Value} {base : Heap} {cl : Str → Option Addr} {f : Addr} {fd : FuncData} (G : Gs K mg cl) (F : FnP K "__init__" "Service.__init__" s_C_Service f fd) (TG : TalkG P K mg cl) (h_u_are_messages : FnD P w K mg base 2 "_are_messages" [false].length (spFn ⟨P, w, K, cl⟩ [false] F_u_are_messages)) (h_u_is_shape : FnD P w K mg base 3 "_is_shape" [false, false, false, false, false].length (spFn ⟨P, w, K, cl⟩ [false, false, false, false, false] F_u_is_shape)) :
    FnOk P w K mg base (L2N.CX P w) 4 f fd ["self", "inputs", "outputs", "states", "transitions", "final"] (spBx ⟨P, w, K, cl⟩ (List.replicate 5 false) F_C_Service) :=
  bx_okN (cl := cl) (k := 3) (t := t_C_Service) (N := ["self", "inputs", "outputs", "states", "transitions", "final", "good", "labels", "m", "before", "label", "after"]) (ps := ["self", "inputs", "outputs", "states", "transitions", "final"]) (m := 5) F sc_C_Service rfl fun cdv A outer s H E hr I =>
    have hu := hu65 hr
    have hN : List.Nodup (["self", "inputs", "outputs", "states", "transitions", "final", "good", "labels", "m", "before", "label", "after"] : List Str) := sc_C_Service.nd
    (zCons (zSet hN 6 (kAnd (kCall h_u_are_messages hr (by decide) (kCons (kV (kN 1)) kNil)) (kOne (kCall h_u_are_messages hr (by decide) (kCons (kV (kN 2)) kNil)))))
   (zCons (zSet hN 6 (kAnd (kN 6) (kOne (kNot (kV (kCallB (cr_anyP rfl) G.f_any (kCons (kV (kComp [("m", 8)] rfl hN (iSeq1 (kO 1)) (fun _ _ _ _ _ => g1 hN 8) CIf.none (fun _ _ _ _ _ => kV (kCmp (cIn hu) (kO 8) (kO 2))))) kNil)))))))
   (zCons (zSet hN 6 (kAnd (kN 6) (kOne (kCall h_u_is_shape hr (by decide) (kCons (kV (kN 3)) (kCons (kV G.c_MOST_STATES.ve) (kCons (kV (kN 4)) (kCons (kV G.c_MOST_TRANSITIONS.ve) (kCons (kV (kN 5)) kNil)))))))))
   (zCons (zIf (tNot1 (tTru (kO 6))) (zOne (zRaiseN rfl TG (dep1 hr) I.tk)) zNil)
   (zCons (zSet hN 7 (kAdd (kV (kAdd (kV (kLst (kCons (kV kStr) kNil))) (kV (kComp [("m", 8)] rfl hN (iSeq1 (kO 1)) (fun _ _ _ _ _ => g1 hN 8) CIf.none (fun _ _ _ _ _ => kV (kAdd (kV kStr) (kO 8))))))) (kV (kComp [("m", 8)] rfl hN (iSeq1 (kO 2)) (fun _ _ _ _ _ => g1 hN 8) CIf.none (fun _ _ _ _ _ => kV (kAdd (kV kStr) (kO 8)))))))
   (zCons (zIf (tNot1 (tTru (kV (kCallB (cr_allP rfl) G.f_all (kCons (kV (kComp [("before", 9), ("label", 10), ("after", 11)] rfl hN (iSeq1 (kO 4)) (fun _ _ _ _ _ => gN rfl (gsCons hN 9 (gsCons hN 10 (gsCons hN 11 gsNil)))) CIf.none (fun _ _ _ _ _ => kV (kCmp (cIn hu) (kO 10) (kO 7))))) kNil))))) (zOne (zRaiseN rfl TG (dep1 hr) I.tk)) zNil)
   (zCons (zSetF G.hat 0 (kCallTy cr_listP G.f_list (kCons (kO 1) kNil)))
   (zCons (zSetF G.hat 0 (kCallTy cr_listP G.f_list (kCons (kO 2) kNil)))
   (zCons (zSetF G.hat 0 (kN 3))
   (zCons (zSetF G.hat 0 (kCallB (bSorted rfl hu) G.f_sorted (kCons (kO 4) kNil)))
   (zOne (zSetF G.hat 0 (kCallTy cr_listP G.f_list (kCons (kO 5) kNil))))))))))))))

abbrev s_u_law_made : Stmt := (top 35)
noncomputable def t_u_law_made : SS := (sRet (sMake "Service" (List.replicate 5 false) F_C_Service [oVal (sPrim pList [oVal (sPrim pIxA [oName 0, oVal (sC (.int 0))])]), oVal (sPrim pList [oVal (sPrim pIxA [oName 0, oVal (sC (.int 1))])]), oVal (sPrim pIxA [oName 0, oVal (sC (.int 2))]), oVal (sPrim pList [oVal (sPrim pIxA [oName 0, oVal (sC (.int 3))])]), oVal (sPrim pList [oVal (sPrim pIxA [oName 0, oVal (sC (.int 4))])])]))
noncomputable def F_u_law_made : List D → Res Vl := runFX t_u_law_made [false] 1
theorem sc_u_law_made : FnScope ["_law_v"] ["_law_v"] (defScope s_u_law_made) := _root_.C8.fnScope_by (by kernel_rfl)
theorem d_u_law_made {P : Program} {w : World} {K : PySem.W.Frag} {mg : Str → Option Value} {base : Heap} {cl : Str → Option Addr} {f : Addr} {fd : FuncData} (G : Gs K mg cl) (F : FnP K "_law_made" "_law_made" s_u_law_made f fd) (TG : TalkG P K mg cl) (h_C_Service : ClQ (L2N.CX P w) P w K mg base cl 4 "Service" (spBx ⟨P, w, K, cl⟩ (List.replicate 5 false) F_C_Service)) :
    FnOk P w K mg base (L2N.CX P w) 6 f fd ["_law_v"] (spFn ⟨P, w, K, cl⟩ [false] F_u_law_made) :=
  def_okN (cl := cl) (k := 5) (t := t_u_law_made) (N := ["_law_v"]) (ps := ["_law_v"]) (modes := [false]) F sc_u_law_made rfl fun cdv A outer s H E hr I =>
    have hu := hu65 hr
    have hN : List.Nodup (["_law_v"] : List Str) := sc_u_law_made.nd
    (zOne (zRet (kMakeQ h_C_Service (passNN I.tk) hr (by decide) (kCons (kV (kCallTy cr_listP G.f_list (kCons (kV (kIx hu (kO 0) (kV kInt))) kNil))) (kCons (kV (kCallTy cr_listP G.f_list (kCons (kV (kIx hu (kO 0) (kV kInt))) kNil))) (kCons (kV (kIx hu (kO 0) (kV kInt))) (kCons (kV (kCallTy cr_listP G.f_list (kCons (kV (kIx hu (kO 0) (kV kInt))) kNil))) (kCons (kV (kCallTy cr_listP G.f_list (kCons (kV (kIx hu (kO 0) (kV kInt))) kNil))) kNil))))))))

abbrev s_u_law_dual_told : Stmt := (top 38)
noncomputable def t_u_law_dual_told : SS := (sThen (sTry (sAsg (sCall [false] F_dual [oVal (sCall [false] F_u_law_made [oVal (sName 0)])]) 2) (hReason 1))
   (sRet (sLst [oVal (sFld at_ "states" (oName 2)), oVal (sFld at_ "transitions" (oName 2)), oVal (sFld at_ "final" (oName 2))])))
noncomputable def F_u_law_dual_told : List D → Res Vl := runF t_u_law_dual_told [false] 3
theorem sc_u_law_dual_told : FnScope ["_law_v", "e", "_law_made_here"] ["_law_v"] (defScope s_u_law_dual_told) := _root_.C8.fnScope_by (by kernel_rfl)
theorem d_u_law_dual_told {P : Program} {w : World} {K : PySem.W.Frag} {mg : Str → Option Value} {base : Heap} {cl : Str → Option Addr} {f : Addr} {fd : FuncData} (G : Gs K mg cl) (F : FnP K "_law_dual_told" "_law_dual_told" s_u_law_dual_told f fd) (TG : TalkG P K mg cl) (h_dual : FnQ (L2N.CX P w) P w K mg base 6 "dual" [false].length (spFn ⟨P, w, K, cl⟩ [false] F_dual)) (h_u_law_made : FnQ (L2N.CX P w) P w K mg base 6 "_law_made" [false].length (spFn ⟨P, w, K, cl⟩ [false] F_u_law_made)) :
    FnOk P w K mg base CX0' 7 f fd ["_law_v"] (spFn ⟨P, w, K, cl⟩ [false] F_u_law_dual_told) :=
  def_ok (cl := cl) (k := 6) (t := t_u_law_dual_told) (N := ["_law_v", "e", "_law_made_here"]) (ps := ["_law_v"]) (modes := [false]) F sc_u_law_dual_told rfl fun cdv A outer s H E hr =>
    have hu := hu65 hr
    have hN : List.Nodup (["_law_v", "e", "_law_made_here"] : List Str) := sc_u_law_dual_told.nd
    (zCons (zTryR TG hN 1 (fun W' pn xe tk' hp' => (zOne (zSet hN 2 (kCallQ h_dual (passNL tk') hr (by decide) (kCons (kV (kCallQ h_u_law_made (passNL tk') hr (by decide) (kCons (kV (kN 0)) kNil))) kNil))))) L2.takes0)
   (zOne (zRet (kLst (kCons (kV (kFld G.hat (kO 2))) (kCons (kV (kFld G.hat (kO 2))) (kCons (kV (kFld G.hat (kO 2))) kNil)))))))

abbrev s_u_law_dual : Stmt := (top 39)
noncomputable def b0_u_law_dual : SS := (sThen (sIfS (tBool (sPrim pEq [oVal (sPrim pIxA [oName 2, oVal (sC (.int 1))]), oVal (sC (.str "tau"))])) (sRet (sC (.str "internal transitions"))) sSkip)
   (sDrop (sMeth .lst pAppend [false] 1 [oVal (sTup [oVal (sPrim pIxA [oName 2, oVal (sC (.int 0))]), oVal (sPrim pAdd [oVal (sPrim pIxA [oVal (sLst [oVal (sC (.str "!")), oVal (sC (.str "?"))]), oVal (sPrim pInt [oVal (sPrim pEq [oVal (sPrim pIxA [oVal (sPrim pIxA [oName 2, oVal (sC (.int 1))]), oVal (sC (.int 0))]), oVal (sC (.str "!"))])])]), oVal (sSlice (oVal (sPrim pIxA [oName 2, oVal (sC (.int 1))])) (some (oVal (sC (.int 1)))) none)]), oVal (sPrim pIxA [oName 2, oVal (sC (.int 2))])])])))
noncomputable def t_u_law_dual : SS := (sThen (sAsg (sLst []) 1)
   (sThen (sFor (.one 2) (sSeq (oVal (sPrim pIxA [oName 0, oVal (sC (.int 3))]))) b0_u_law_dual)
   (sRet (sLst [oVal (sPrim pIxA [oName 0, oVal (sC (.int 2))]), oVal (sPrim pSortedA [oName 1]), oVal (sPrim pIxA [oName 0, oVal (sC (.int 4))])]))))
noncomputable def F_u_law_dual : List D → Res Vl := runF t_u_law_dual [false] 3
theorem sc_u_law_dual : FnScope ["_law_v", "_law_rows", "_law_row_here"] ["_law_v"] (defScope s_u_law_dual) := _root_.C8.fnScope_by (by kernel_rfl)
theorem d_u_law_dual {P : Program} {w : World} {K : PySem.W.Frag} {mg : Str → Option Value} {base : Heap} {cl : Str → Option Addr} {f : Addr} {fd : FuncData} (G : Gs K mg cl) (F : FnP K "_law_dual" "_law_dual" s_u_law_dual f fd) (TG : TalkG P K mg cl) :
    FnOk P w K mg base CX0' 1 f fd ["_law_v"] (spFn ⟨P, w, K, cl⟩ [false] F_u_law_dual) :=
  def_ok (cl := cl) (k := 0) (t := t_u_law_dual) (N := ["_law_v", "_law_rows", "_law_row_here"]) (ps := ["_law_v"]) (modes := [false]) F sc_u_law_dual rfl fun cdv A outer s H E hr =>
    have hu := hu65 hr
    have hN : List.Nodup (["_law_v", "_law_rows", "_law_row_here"] : List Str) := sc_u_law_dual.nd
    (zCons (zSet hN 1 (kLst kNil))
   (zCons (zFor PassesOwn.never rfl (iSeq1 (kV (kIx hu (kO 0) (kV kInt)))) (g1 hN 2) (zCons (zIf (tCmp (cEq hu) (kV (kIx hu (kO 2) (kV kInt))) (kV kStr)) (zOne (zRet kStr)) zNil)
   (zOne (zExpr (kMeth mAppend 1 (kCons (kV (kTup (kCons (kV (kIx hu (kO 2) (kV kInt))) (kCons (kV (kAdd (kV (kIx hu (kV (kLst (kCons (kV kStr) (kCons (kV kStr) kNil)))) (kV (kCallTy cr_intP G.f_int (kCons (kV (kCmp (cEq hu) (kV (kIx hu (kV (kIx hu (kO 2) (kV kInt))) (kV kInt))) (kV kStr))) kNil))))) (kV (kSlice (kV (kIx hu (kO 2) (kV kInt))) (pSome (kV kInt)) pNone)))) (kCons (kV (kIx hu (kO 2) (kV kInt))) kNil))))) kNil))))))
   (zOne (zRet (kLst (kCons (kV (kIx hu (kO 0) (kV kInt))) (kCons (kV (kCallB (bSorted rfl hu) G.f_sorted (kCons (kO 1) kNil))) (kCons (kV (kIx hu (kO 0) (kV kInt))) kNil))))))))

abbrev s_u_beside : Stmt := (top 24)
noncomputable def b0_u_beside : SS := (sDrop (sMeth .lst pExtend [true] 2 [oVal (sComp [6] (.one 6) (sRange [oVal (sFld at_ "states" (oName 1))]) tTrue (oVal (sTup [oVal (sPrim pAdd [oVal (sPrim pMul [oName 3, oVal (sFld at_ "states" (oName 1))]), oName 6]), oVal (sName 4), oVal (sPrim pAdd [oVal (sPrim pMul [oName 5, oVal (sFld at_ "states" (oName 1))]), oName 6])])))]))
noncomputable def b1_u_beside : SS := (sDrop (sMeth .lst pExtend [true] 2 [oVal (sComp [7] (.one 7) (sRange [oVal (sFld at_ "states" (oName 0))]) tTrue (oVal (sTup [oVal (sPrim pAdd [oVal (sPrim pMul [oName 7, oVal (sFld at_ "states" (oName 1))]), oName 3]), oVal (sName 4), oVal (sPrim pAdd [oVal (sPrim pMul [oName 7, oVal (sFld at_ "states" (oName 1))]), oName 5])])))]))
noncomputable def t_u_beside : SS := (sThen (sAsg (sLst []) 2)
   (sThen (sFor (.many [3, 4, 5]) (sSeq (oVal (sFld at_ "transitions" (oName 0)))) b0_u_beside)
   (sThen (sFor (.many [3, 4, 5]) (sSeq (oVal (sFld at_ "transitions" (oName 1)))) b1_u_beside)
   (sRetName 2))))
noncomputable def F_u_beside : List D → Res Vl := runF t_u_beside [false, false] 8
theorem sc_u_beside : FnScope ["one", "two", "found", "before", "label", "after", "t", "s"] ["one", "two"] (defScope s_u_beside) := _root_.C8.fnScope_by (by kernel_rfl)
theorem d_u_beside {P : Program} {w : World} {K : PySem.W.Frag} {mg : Str → Option Value} {base : Heap} {cl : Str → Option Addr} {f : Addr} {fd : FuncData} (G : Gs K mg cl) (F : FnP K "_beside" "_beside" s_u_beside f fd) (TG : TalkG P K mg cl) :
    FnOk P w K mg base CX0' 1 f fd ["one", "two"] (spFn ⟨P, w, K, cl⟩ [false, false] F_u_beside) :=
  def_ok (cl := cl) (k := 0) (t := t_u_beside) (N := ["one", "two", "found", "before", "label", "after", "t", "s"]) (ps := ["one", "two"]) (modes := [false, false]) F sc_u_beside rfl fun cdv A outer s H E hr =>
    have hu := hu65 hr
    have hN : List.Nodup (["one", "two", "found", "before", "label", "after", "t", "s"] : List Str) := sc_u_beside.nd
    (zCons (zSet hN 2 (kLst kNil))
   (zCons (zFor PassesOwn.never rfl (iSeq1 (kV (kFld G.hat (kO 0)))) (gN rfl (gsCons hN 3 (gsCons hN 4 (gsCons hN 5 gsNil)))) (zOne (zExpr (kMeth mExtend 2 (kCons (kV (kComp [("t", 6)] rfl hN (iRange1 G.f_range (kCons (kV (kFld G.hat (kO 1))) kNil)) (fun _ _ _ _ _ => g1 hN 6) CIf.none (fun _ _ _ _ _ => kV (kTup (kCons (kV (kAdd (kV (kMul (kO 3) (kV (kFld G.hat (kO 1))))) (kO 6))) (kCons (kV (kN 4)) (kCons (kV (kAdd (kV (kMul (kO 5) (kV (kFld G.hat (kO 1))))) (kO 6))) kNil))))))) kNil)))))
   (zCons (zFor PassesOwn.never rfl (iSeq1 (kV (kFld G.hat (kO 1)))) (gN rfl (gsCons hN 3 (gsCons hN 4 (gsCons hN 5 gsNil)))) (zOne (zExpr (kMeth mExtend 2 (kCons (kV (kComp [("s", 7)] rfl hN (iRange1 G.f_range (kCons (kV (kFld G.hat (kO 0))) kNil)) (fun _ _ _ _ _ => g1 hN 7) CIf.none (fun _ _ _ _ _ => kV (kTup (kCons (kV (kAdd (kV (kMul (kO 7) (kV (kFld G.hat (kO 1))))) (kO 3))) (kCons (kV (kN 4)) (kCons (kV (kAdd (kV (kMul (kO 7) (kV (kFld G.hat (kO 1))))) (kO 5))) kNil))))))) kNil)))))
   (zOne (zRetName 2)))))

abbrev s_together : Stmt := (top 25)
noncomputable def t_together : SS := (sThen (sIfS (tVal (oVal (sPrim pAny [oVal (sComp [6] (.one 6) (sSeq (oVal (sPrim pAdd [oVal (sFld at_ "inputs" (oName 0)), oVal (sFld at_ "outputs" (oName 0))]))) tTrue (oVal (sPrim pInA [oName 6, oVal (sPrim pAdd [oVal (sFld at_ "inputs" (oName 1)), oVal (sFld at_ "outputs" (oName 1))])])))]))) (sRaise "common messages") sSkip)
   (sThen (sAsg (sPrim pSortedA [oVal (sPrim pAdd [oVal (sFld at_ "inputs" (oName 0)), oVal (sFld at_ "inputs" (oName 1))])]) 2)
   (sThen (sAsg (sPrim pSortedA [oVal (sPrim pAdd [oVal (sFld at_ "outputs" (oName 0)), oVal (sFld at_ "outputs" (oName 1))])]) 3)
   (sThen (sAsg (sPrim pSortedA [oVal (sDComp [7] (.one 7) (sSeq (oVal (sCall [false, false] F_u_beside [oVal (sName 0), oVal (sName 1)]))) tTrue (oVal (sName 7)) (oVal (sC (.bl true))))]) 4)
   (sThen (sAsg (sPrim pSortedA [oVal (sComp2 [8, 9] (.one 8) (sSeq (oVal (sFld at_ "final" (oName 0)))) tTrue [9] (.one 9) (sSeq (oVal (sFld at_ "final" (oName 1)))) tTrue (oVal (sPrim pAdd [oVal (sPrim pMul [oName 8, oVal (sFld at_ "states" (oName 1))]), oName 9])))]) 5)
   (sRet (sMake "Service" (List.replicate 5 false) F_C_Service [oVal (sName 2), oVal (sName 3), oVal (sPrim pMul [oVal (sFld at_ "states" (oName 0)), oVal (sFld at_ "states" (oName 1))]), oVal (sName 4), oVal (sName 5)])))))))
noncomputable def F_together : List D → Res Vl := runFX t_together [false, false] 10
theorem sc_together : FnScope ["one", "two", "inputs", "outputs", "transitions", "final", "m", "told", "s", "t"] ["one", "two"] (defScope s_together) := _root_.C8.fnScope_by (by kernel_rfl)
theorem d_together {P : Program} {w : World} {K : PySem.W.Frag} {mg : Str → Option Value} {base : Heap} {cl : Str → Option Addr} {f : Addr} {fd : FuncData} (G : Gs K mg cl) (F : FnP K "together" "together" s_together f fd) (TG : TalkG P K mg cl) (h_u_beside : FnD P w K mg base 1 "_beside" [false, false].length (spFn ⟨P, w, K, cl⟩ [false, false] F_u_beside)) (h_C_Service : ClQ (L2N.CX P w) P w K mg base cl 4 "Service" (spBx ⟨P, w, K, cl⟩ (List.replicate 5 false) F_C_Service)) :
    FnOk P w K mg base (L2N.CX P w) 6 f fd ["one", "two"] (spFn ⟨P, w, K, cl⟩ [false, false] F_together) :=
  def_okN (cl := cl) (k := 5) (t := t_together) (N := ["one", "two", "inputs", "outputs", "transitions", "final", "m", "told", "s", "t"]) (ps := ["one", "two"]) (modes := [false, false]) F sc_together rfl fun cdv A outer s H E hr I =>
    have hu := hu65 hr
    have hN : List.Nodup (["one", "two", "inputs", "outputs", "transitions", "final", "m", "told", "s", "t"] : List Str) := sc_together.nd
    (zCons (zIf (tTru (kV (kCallB (cr_anyP rfl) G.f_any (kCons (kV (kComp [("m", 6)] rfl hN (iSeq1 (kV (kAdd (kV (kFld G.hat (kO 0))) (kV (kFld G.hat (kO 0)))))) (fun _ _ _ _ _ => g1 hN 6) CIf.none (fun _ _ _ _ _ => kV (kCmp (cIn hu) (kO 6) (kV (kAdd (kV (kFld G.hat (kO 1))) (kV (kFld G.hat (kO 1))))))))) kNil)))) (zOne (zRaiseN rfl TG (dep1 hr) I.tk)) zNil)
   (zCons (zSet hN 2 (kCallB (bSorted rfl hu) G.f_sorted (kCons (kV (kAdd (kV (kFld G.hat (kO 0))) (kV (kFld G.hat (kO 1))))) kNil)))
   (zCons (zSet hN 3 (kCallB (bSorted rfl hu) G.f_sorted (kCons (kV (kAdd (kV (kFld G.hat (kO 0))) (kV (kFld G.hat (kO 1))))) kNil)))
   (zCons (zSet hN 4 (kCallB (bSorted rfl hu) G.f_sorted (kCons (kV (kDComp [("told", 7)] hu rfl hN (iSeq1 (kV (kCall h_u_beside hr (by decide) (kCons (kV (kN 0)) (kCons (kV (kN 1)) kNil))))) (fun _ _ _ _ _ => g1 hN 7) CIf.none (fun _ _ _ _ _ => kV (kN 7)) (fun _ _ _ _ _ => kV kBool))) kNil)))
   (zCons (zSet hN 5 (kCallB (bSorted rfl hu) G.f_sorted (kCons (kV (kComp2 [("s", 8), ("t", 9)] [9] rfl hN (iSeq1 (kV (kFld G.hat (kO 0)))) (fun _ _ _ _ _ => g1 hN 8) CIf.none (fun _ _ _ _ _ => iSeq1 (kV (kFld G.hat (kO 1)))) (fun _ _ _ _ _ => g1 hN 9) CIf.none (fun _ _ _ _ _ => kV (kAdd (kV (kMul (kO 8) (kV (kFld G.hat (kO 1))))) (kO 9))))) kNil)))
   (zOne (zRet (kMakeQ h_C_Service (passNN I.tk) hr (by decide) (kCons (kV (kN 2)) (kCons (kV (kN 3)) (kCons (kV (kMul (kV (kFld G.hat (kO 0))) (kV (kFld G.hat (kO 1))))) (kCons (kV (kN 4)) (kCons (kV (kN 5)) kNil)))))))))))))

abbrev s_u_law_told : Stmt := (top 40)
noncomputable def t_u_law_told : SS := (sThen (sTry (sAsg (sCall [false, false] F_together [oVal (sCall [false] F_u_law_made [oVal (sName 0)]), oVal (sCall [false] F_u_law_made [oVal (sName 1)])]) 3) (hReason 2))
   (sRet (sLst [oVal (sFld at_ "inputs" (oName 3)), oVal (sFld at_ "outputs" (oName 3)), oVal (sFld at_ "states" (oName 3)), oVal (sFld at_ "transitions" (oName 3)), oVal (sFld at_ "final" (oName 3))])))
noncomputable def F_u_law_told : List D → Res Vl := runF t_u_law_told [false, false] 4
theorem sc_u_law_told : FnScope ["_law_v", "_law_u", "e", "_law_made_here"] ["_law_v", "_law_u"] (defScope s_u_law_told) := _root_.C8.fnScope_by (by kernel_rfl)
theorem d_u_law_told {P : Program} {w : World} {K : PySem.W.Frag} {mg : Str → Option Value} {base : Heap} {cl : Str → Option Addr} {f : Addr} {fd : FuncData} (G : Gs K mg cl) (F : FnP K "_law_told" "_law_told" s_u_law_told f fd) (TG : TalkG P K mg cl) (h_together : FnQ (L2N.CX P w) P w K mg base 6 "together" [false, false].length (spFn ⟨P, w, K, cl⟩ [false, false] F_together)) (h_u_law_made : FnQ (L2N.CX P w) P w K mg base 6 "_law_made" [false].length (spFn ⟨P, w, K, cl⟩ [false] F_u_law_made)) :
    FnOk P w K mg base CX0' 7 f fd ["_law_v", "_law_u"] (spFn ⟨P, w, K, cl⟩ [false, false] F_u_law_told) :=
  def_ok (cl := cl) (k := 6) (t := t_u_law_told) (N := ["_law_v", "_law_u", "e", "_law_made_here"]) (ps := ["_law_v", "_law_u"]) (modes := [false, false]) F sc_u_law_told rfl fun cdv A outer s H E hr =>
    have hu := hu65 hr
    have hN : List.Nodup (["_law_v", "_law_u", "e", "_law_made_here"] : List Str) := sc_u_law_told.nd
    (zCons (zTryR TG hN 2 (fun W' pn xe tk' hp' => (zOne (zSet hN 3 (kCallQ h_together (passNL tk') hr (by decide) (kCons (kV (kCallQ h_u_law_made (passNL tk') hr (by decide) (kCons (kV (kN 0)) kNil))) (kCons (kV (kCallQ h_u_law_made (passNL tk') hr (by decide) (kCons (kV (kN 1)) kNil))) kNil)))))) L2.takes0)
   (zOne (zRet (kLst (kCons (kV (kFld G.hat (kO 3))) (kCons (kV (kFld G.hat (kO 3))) (kCons (kV (kFld G.hat (kO 3))) (kCons (kV (kFld G.hat (kO 3))) (kCons (kV (kFld G.hat (kO 3))) kNil)))))))))

abbrev s_u_law_both : Stmt := (top 41)
noncomputable def b0_u_law_both : SS := (sDrop (sMeth .lst pExtend [true] 2 [oVal (sComp [9] (.one 9) (sRange [oVal (sPrim pIxA [oName 1, oVal (sC (.int 2))])]) tTrue (oVal (sTup [oVal (sPrim pAdd [oVal (sPrim pMul [oVal (sPrim pIxA [oName 3, oVal (sC (.int 0))]), oVal (sPrim pIxA [oName 1, oVal (sC (.int 2))])]), oName 9]), oVal (sPrim pIxA [oName 3, oVal (sC (.int 1))]), oVal (sPrim pAdd [oVal (sPrim pMul [oVal (sPrim pIxA [oName 3, oVal (sC (.int 2))]), oVal (sPrim pIxA [oName 1, oVal (sC (.int 2))])]), oName 9])])))]))
noncomputable def b1_u_law_both : SS := (sDrop (sMeth .lst pExtend [true] 2 [oVal (sComp [5] (.one 5) (sRange [oVal (sPrim pIxA [oName 0, oVal (sC (.int 2))])]) tTrue (oVal (sTup [oVal (sPrim pAdd [oVal (sPrim pMul [oName 5, oVal (sPrim pIxA [oName 1, oVal (sC (.int 2))])]), oVal (sPrim pIxA [oName 3, oVal (sC (.int 0))])]), oVal (sPrim pIxA [oName 3, oVal (sC (.int 1))]), oVal (sPrim pAdd [oVal (sPrim pMul [oName 5, oVal (sPrim pIxA [oName 1, oVal (sC (.int 2))])]), oVal (sPrim pIxA [oName 3, oVal (sC (.int 2))])])])))]))
noncomputable def b2_u_law_both : SS := (sDrop (sMeth .lst pExtend [true] 4 [oVal (sComp [9] (.one 9) (sSeq (oVal (sPrim pIxA [oName 1, oVal (sC (.int 4))]))) tTrue (oVal (sPrim pAdd [oVal (sPrim pMul [oName 5, oVal (sPrim pIxA [oName 1, oVal (sC (.int 2))])]), oName 9])))]))
noncomputable def t_u_law_both : SS := (sThen (sIfS (tBool (sPrim pGt [oVal (sPrim pLenA [oVal (sComp [8] (.one 8) (sSeq (oVal (sPrim pAdd [oVal (sPrim pIxA [oName 0, oVal (sC (.int 0))]), oVal (sPrim pIxA [oName 0, oVal (sC (.int 1))])]))) (tBool (sPrim pInA [oName 8, oVal (sPrim pAdd [oVal (sPrim pIxA [oName 1, oVal (sC (.int 0))]), oVal (sPrim pIxA [oName 1, oVal (sC (.int 1))])])])) (oVal (sName 8)))]), oVal (sC (.int 0))])) (sRet (sC (.str "common messages"))) sSkip)
   (sThen (sAsg (sLst []) 2)
   (sThen (sFor (.one 3) (sSeq (oVal (sPrim pIxA [oName 0, oVal (sC (.int 3))]))) b0_u_law_both)
   (sThen (sFor (.one 3) (sSeq (oVal (sPrim pIxA [oName 1, oVal (sC (.int 3))]))) b1_u_law_both)
   (sThen (sAsg (sComp [7] (.one 7) (sRange [oVal (sPrim pLenA [oName 2])]) (tBool (sPrim pNotInA [oVal (sPrim pIxA [oName 2, oName 7]), oVal (sSlice (oName 2) none (some (oName 7)))])) (oVal (sPrim pIxA [oName 2, oName 7]))) 2)
   (sThen (sAsg (sLst []) 4)
   (sThen (sFor (.one 5) (sSeq (oVal (sPrim pIxA [oName 0, oVal (sC (.int 4))]))) b2_u_law_both)
   (sThen (sAsg (sLst [oVal (sPrim pSortedA [oVal (sPrim pAdd [oVal (sPrim pIxA [oName 0, oVal (sC (.int 0))]), oVal (sPrim pIxA [oName 1, oVal (sC (.int 0))])])]), oVal (sPrim pSortedA [oVal (sPrim pAdd [oVal (sPrim pIxA [oName 0, oVal (sC (.int 1))]), oVal (sPrim pIxA [oName 1, oVal (sC (.int 1))])])]), oVal (sPrim pMul [oVal (sPrim pIxA [oName 0, oVal (sC (.int 2))]), oVal (sPrim pIxA [oName 1, oVal (sC (.int 2))])]), oVal (sPrim pSortedA [oName 2]), oVal (sPrim pSortedA [oName 4])]) 6)
   (sThen (sIfS (Ev.tOr (tBool (sPrim pGt [oVal (sPrim pLenA [oVal (sPrim pIxA [oName 6, oVal (sC (.int 0))])]), oVal (sC (.int 3))])) (Ev.tOr (tBool (sPrim pGt [oVal (sPrim pLenA [oVal (sPrim pIxA [oName 6, oVal (sC (.int 1))])]), oVal (sC (.int 3))])) (Ev.tOr (tBool (sPrim pGt [oVal (sPrim pIxA [oName 6, oVal (sC (.int 2))]), oVal (sC (.int 12))])) (tBool (sPrim pGt [oVal (sPrim pLenA [oName 2]), oVal (sC (.int 60))]))))) (sRet (sC (.str "no service"))) sSkip)
   (sRetName 6))))))))))
noncomputable def F_u_law_both : List D → Res Vl := runF t_u_law_both [false, false] 10
theorem sc_u_law_both : FnScope ["_law_v", "_law_u", "_law_rows", "_law_row_here", "_law_final", "_law_s", "_law_both_here", "_law_k", "_law_m", "_law_t"] ["_law_v", "_law_u"] (defScope s_u_law_both) := _root_.C8.fnScope_by (by kernel_rfl)
theorem d_u_law_both {P : Program} {w : World} {K : PySem.W.Frag} {mg : Str → Option Value} {base : Heap} {cl : Str → Option Addr} {f : Addr} {fd : FuncData} (G : Gs K mg cl) (F : FnP K "_law_both" "_law_both" s_u_law_both f fd) (TG : TalkG P K mg cl) :
    FnOk P w K mg base CX0' 1 f fd ["_law_v", "_law_u"] (spFn ⟨P, w, K, cl⟩ [false, false] F_u_law_both) :=
  def_ok (cl := cl) (k := 0) (t := t_u_law_both) (N := ["_law_v", "_law_u", "_law_rows", "_law_row_here", "_law_final", "_law_s", "_law_both_here", "_law_k", "_law_m", "_law_t"]) (ps := ["_law_v", "_law_u"]) (modes := [false, false]) F sc_u_law_both rfl fun cdv A outer s H E hr =>
    have hu := hu65 hr
    have hN : List.Nodup (["_law_v", "_law_u", "_law_rows", "_law_row_here", "_law_final", "_law_s", "_law_both_here", "_law_k", "_law_m", "_law_t"] : List Str) := sc_u_law_both.nd
    (zCons (zIf (tCmp cGt (kV (kCallB bLen G.f_len (kCons (kV (kComp [("_law_m", 8)] rfl hN (iSeq1 (kV (kAdd (kV (kIx hu (kO 0) (kV kInt))) (kV (kIx hu (kO 0) (kV kInt)))))) (fun _ _ _ _ _ => g1 hN 8) (CIf.one (fun _ _ _ _ _ => tCmp (cIn hu) (kO 8) (kV (kAdd (kV (kIx hu (kO 1) (kV kInt))) (kV (kIx hu (kO 1) (kV kInt))))))) (fun _ _ _ _ _ => kV (kN 8)))) kNil))) (kV kInt)) (zOne (zRet kStr)) zNil)
   (zCons (zSet hN 2 (kLst kNil))
   (zCons (zFor PassesOwn.never rfl (iSeq1 (kV (kIx hu (kO 0) (kV kInt)))) (g1 hN 3) (zOne (zExpr (kMeth mExtend 2 (kCons (kV (kComp [("_law_t", 9)] rfl hN (iRange1 G.f_range (kCons (kV (kIx hu (kO 1) (kV kInt))) kNil)) (fun _ _ _ _ _ => g1 hN 9) CIf.none (fun _ _ _ _ _ => kV (kTup (kCons (kV (kAdd (kV (kMul (kV (kIx hu (kO 3) (kV kInt))) (kV (kIx hu (kO 1) (kV kInt))))) (kO 9))) (kCons (kV (kIx hu (kO 3) (kV kInt))) (kCons (kV (kAdd (kV (kMul (kV (kIx hu (kO 3) (kV kInt))) (kV (kIx hu (kO 1) (kV kInt))))) (kO 9))) kNil))))))) kNil)))))
   (zCons (zFor PassesOwn.never rfl (iSeq1 (kV (kIx hu (kO 1) (kV kInt)))) (g1 hN 3) (zOne (zExpr (kMeth mExtend 2 (kCons (kV (kComp [("_law_s", 5)] rfl hN (iRange1 G.f_range (kCons (kV (kIx hu (kO 0) (kV kInt))) kNil)) (fun _ _ _ _ _ => g1 hN 5) CIf.none (fun _ _ _ _ _ => kV (kTup (kCons (kV (kAdd (kV (kMul (kO 5) (kV (kIx hu (kO 1) (kV kInt))))) (kV (kIx hu (kO 3) (kV kInt))))) (kCons (kV (kIx hu (kO 3) (kV kInt))) (kCons (kV (kAdd (kV (kMul (kO 5) (kV (kIx hu (kO 1) (kV kInt))))) (kV (kIx hu (kO 3) (kV kInt))))) kNil))))))) kNil)))))
   (zCons (zSet hN 2 (kComp [("_law_k", 7)] rfl hN (iRange1 G.f_range (kCons (kV (kCallB bLen G.f_len (kCons (kO 2) kNil))) kNil)) (fun _ _ _ _ _ => g1 hN 7) (CIf.one (fun _ _ _ _ _ => tCmp (cNotIn hu) (kV (kIx hu (kO 2) (kO 7))) (kV (kSlice (kO 2) pNone (pSome (kO 7)))))) (fun _ _ _ _ _ => kV (kIx hu (kO 2) (kO 7)))))
   (zCons (zSet hN 4 (kLst kNil))
   (zCons (zFor PassesOwn.never rfl (iSeq1 (kV (kIx hu (kO 0) (kV kInt)))) (g1 hN 5) (zOne (zExpr (kMeth mExtend 4 (kCons (kV (kComp [("_law_t", 9)] rfl hN (iSeq1 (kV (kIx hu (kO 1) (kV kInt)))) (fun _ _ _ _ _ => g1 hN 9) CIf.none (fun _ _ _ _ _ => kV (kAdd (kV (kMul (kO 5) (kV (kIx hu (kO 1) (kV kInt))))) (kO 9))))) kNil)))))
   (zCons (zSet hN 6 (kLst (kCons (kV (kCallB (bSorted rfl hu) G.f_sorted (kCons (kV (kAdd (kV (kIx hu (kO 0) (kV kInt))) (kV (kIx hu (kO 1) (kV kInt))))) kNil))) (kCons (kV (kCallB (bSorted rfl hu) G.f_sorted (kCons (kV (kAdd (kV (kIx hu (kO 0) (kV kInt))) (kV (kIx hu (kO 1) (kV kInt))))) kNil))) (kCons (kV (kMul (kV (kIx hu (kO 0) (kV kInt))) (kV (kIx hu (kO 1) (kV kInt))))) (kCons (kV (kCallB (bSorted rfl hu) G.f_sorted (kCons (kO 2) kNil))) (kCons (kV (kCallB (bSorted rfl hu) G.f_sorted (kCons (kO 4) kNil))) kNil)))))))
   (zCons (zIf (tW (wOr (tCmp cGt (kV (kCallB bLen G.f_len (kCons (kV (kIx hu (kO 6) (kV kInt))) kNil))) (kV kInt)) (wOr (tCmp cGt (kV (kCallB bLen G.f_len (kCons (kV (kIx hu (kO 6) (kV kInt))) kNil))) (kV kInt)) (wOr (tCmp cGt (kV (kIx hu (kO 6) (kV kInt))) (kV kInt)) (wOr1 (tCmp cGt (kV (kCallB bLen G.f_len (kCons (kO 2) kNil))) (kV kInt))))))) (zOne (zRet kStr)) zNil)
   (zOne (zRetName 6)))))))))))

abbrev s_law : Stmt := (top 42)
noncomputable def b0_law : SS := (sThen (sAsg (sCallB (List.replicate 2 false) F_u_law_service 1 [oVal (sCallB (List.replicate 0 false) F_u_law_face 1 []), oVal (sC (.int 4))]) 3)
   (sThen (sAsg (sLst [oVal (sPrim pIxA [oName 3, oVal (sC (.int 0))]), oVal (sPrim pIxA [oName 3, oVal (sC (.int 1))]), oVal (sPrim pIxA [oName 3, oVal (sC (.int 2))]), oVal (sComp [7] (.one 7) (sSeq (oVal (sPrim pIxA [oName 3, oVal (sC (.int 3))]))) (tBool (sPrim pNe [oVal (sPrim pIxA [oName 7, oVal (sC (.int 1))]), oVal (sC (.str "tau"))])) (oVal (sName 7))), oVal (sPrim pIxA [oName 3, oVal (sC (.int 4))])]) 4)
   (sThen (sIfS (Ev.tOr (tBool (sPrim pNe [oVal (sCall [false] F_u_law_dual_told [oVal (sName 3)]), oVal (sCall [false] F_u_law_dual [oVal (sName 3)])])) (tBool (sPrim pNe [oVal (sCall [false] F_u_law_dual_told [oVal (sName 4)]), oVal (sCall [false] F_u_law_dual [oVal (sName 4)])]))) (sRet (sC (.bl false))) sSkip)
   (sThen (sAsg (sPrim pIxA [oVal (sLst [oVal (sLst [oVal (sLst [oVal (sC (.str "x"))]), oVal (sLst [oVal (sC (.str "y"))])]), oVal (sLst [oVal (sLst [oVal (sC (.str "x")), oVal (sC (.str "y"))]), oVal (sLst [])]), oVal (sLst [oVal (sLst [oVal (sC (.str "e"))]), oVal (sLst [oVal (sC (.str "c"))])]), oVal (sLst [oVal (sLst [oVal (sC (.str "g")), oVal (sC (.str "h"))]), oVal (sLst [oVal (sC (.str "e"))])])]), oVal (sCallB (List.replicate 1 false) F_u_law_draw 1 [oVal (sC (.int 4))])]) 5)
   (sThen (sAsg (sCallB (List.replicate 2 false) F_u_law_service 1 [oVal (sName 5), oVal (sC (.int 4))]) 6)
   (sIfS (Ev.tOr (tBool (sPrim pNe [oVal (sCall [false, false] F_u_law_told [oVal (sName 3), oVal (sName 6)]), oVal (sCall [false, false] F_u_law_both [oVal (sName 3), oVal (sName 6)])])) (tBool (sPrim pNe [oVal (sCall [false, false] F_u_law_told [oVal (sName 6), oVal (sName 3)]), oVal (sCall [false, false] F_u_law_both [oVal (sName 6), oVal (sName 3)])]))) (sRet (sC (.bl false))) sSkip))))))
noncomputable def t_law : SS := (sThen (sAsg (sLst [oVal (sCall [false, false, false] F_u_law_row [oVal (sName 0), oVal (sC (.int 0)), oVal (sC (.int 50))]), oVal (sC (.int 0))]) 1)
   (sThen (sFor (.one 2) (sRange [oVal (sC (.int 4))]) b0_law)
   (sRet (sC (.bl true)))))
noncomputable def F_law : List D → Res Vl := runF t_law [false] 8
theorem sc_law : FnScope ["_law_script", "_law_box", "_law_turn", "_law_v", "_law_plain", "_law_other", "_law_u", "_law_row_here"] ["_law_script"] (defScope s_law) := _root_.C8.fnScope_by (by kernel_rfl)
theorem d_law {P : Program} {w : World} {K : PySem.W.Frag} {mg : Str → Option Value} {base : Heap} {cl : Str → Option Addr} {f : Addr} {fd : FuncData} (G : Gs K mg cl) (F : FnP K "law" "law" s_law f fd) (TG : TalkG P K mg cl) (h_u_law_row : FnD P w K mg base 2 "_law_row" [false, false, false].length (spFn ⟨P, w, K, cl⟩ [false, false, false] F_u_law_row)) (h_u_law_service : FnD P w K mg base 2 "_law_service" (List.replicate 2 false).length (spBx ⟨P, w, K, cl⟩ (List.replicate 2 false) F_u_law_service)) (h_u_law_face : FnD P w K mg base 2 "_law_face" (List.replicate 0 false).length (spBx ⟨P, w, K, cl⟩ (List.replicate 0 false) F_u_law_face)) (h_u_law_dual_told : FnD P w K mg base 7 "_law_dual_told" [false].length (spFn ⟨P, w, K, cl⟩ [false] F_u_law_dual_told)) (h_u_law_dual : FnD P w K mg base 1 "_law_dual" [false].length (spFn ⟨P, w, K, cl⟩ [false] F_u_law_dual)) (h_u_law_draw : FnD P w K mg base 1 "_law_draw" (List.replicate 1 false).length (spBx ⟨P, w, K, cl⟩ (List.replicate 1 false) F_u_law_draw)) (h_u_law_told : FnD P w K mg base 7 "_law_told" [false, false].length (spFn ⟨P, w, K, cl⟩ [false, false] F_u_law_told)) (h_u_law_both : FnD P w K mg base 1 "_law_both" [false, false].length (spFn ⟨P, w, K, cl⟩ [false, false] F_u_law_both)) :
    FnOk P w K mg base CX0' 8 f fd ["_law_script"] (spFn ⟨P, w, K, cl⟩ [false] F_law) :=
  def_ok (cl := cl) (k := 7) (t := t_law) (N := ["_law_script", "_law_box", "_law_turn", "_law_v", "_law_plain", "_law_other", "_law_u", "_law_row_here"]) (ps := ["_law_script"]) (modes := [false]) F sc_law rfl fun cdv A outer s H E hr =>
    have hu := hu65 hr
    have hN : List.Nodup (["_law_script", "_law_box", "_law_turn", "_law_v", "_law_plain", "_law_other", "_law_u", "_law_row_here"] : List Str) := sc_law.nd
    (zCons (zSet hN 1 (kLst (kCons (kV (kCall h_u_law_row hr (by decide) (kCons (kV (kN 0)) (kCons (kV kInt) (kCons (kV kInt) kNil))))) (kCons (kV kInt) kNil))))
   (zCons (zFor PassesOwn.never rfl (iRange1 G.f_range (kCons (kV kInt) kNil)) (g1 hN 2) (zCons (zSet hN 3 (kCallBx h_u_law_service hr (by decide) 1 (kCons (kO 1) (kCons (kV (kCallBx h_u_law_face hr (by decide) 1 (kCons (kO 1) kNil))) (kCons (kV kInt) kNil)))))
   (zCons (zSet hN 4 (kLst (kCons (kV (kIx hu (kO 3) (kV kInt))) (kCons (kV (kIx hu (kO 3) (kV kInt))) (kCons (kV (kIx hu (kO 3) (kV kInt))) (kCons (kV (kComp [("_law_row_here", 7)] rfl hN (iSeq1 (kV (kIx hu (kO 3) (kV kInt)))) (fun _ _ _ _ _ => g1 hN 7) (CIf.one (fun _ _ _ _ _ => tCmp (cNe hu) (kV (kIx hu (kO 7) (kV kInt))) (kV kStr))) (fun _ _ _ _ _ => kV (kN 7)))) (kCons (kV (kIx hu (kO 3) (kV kInt))) kNil)))))))
   (zCons (zIf (tW (wOr (tCmp (cNe hu) (kV (kCall h_u_law_dual_told hr (by decide) (kCons (kV (kN 3)) kNil))) (kV (kCall h_u_law_dual hr (by decide) (kCons (kV (kN 3)) kNil)))) (wOr1 (tCmp (cNe hu) (kV (kCall h_u_law_dual_told hr (by decide) (kCons (kV (kN 4)) kNil))) (kV (kCall h_u_law_dual hr (by decide) (kCons (kV (kN 4)) kNil))))))) (zOne (zRet kBool)) zNil)
   (zCons (zSet hN 5 (kIx hu (kV (kLst (kCons (kV (kLst (kCons (kV (kLst (kCons (kV kStr) kNil))) (kCons (kV (kLst (kCons (kV kStr) kNil))) kNil)))) (kCons (kV (kLst (kCons (kV (kLst (kCons (kV kStr) (kCons (kV kStr) kNil)))) (kCons (kV (kLst kNil)) kNil)))) (kCons (kV (kLst (kCons (kV (kLst (kCons (kV kStr) kNil))) (kCons (kV (kLst (kCons (kV kStr) kNil))) kNil)))) (kCons (kV (kLst (kCons (kV (kLst (kCons (kV kStr) (kCons (kV kStr) kNil)))) (kCons (kV (kLst (kCons (kV kStr) kNil))) kNil)))) kNil)))))) (kV (kCallBx h_u_law_draw hr (by decide) 1 (kCons (kO 1) (kCons (kV kInt) kNil))))))
   (zCons (zSet hN 6 (kCallBx h_u_law_service hr (by decide) 1 (kCons (kO 1) (kCons (kV (kN 5)) (kCons (kV kInt) kNil)))))
   (zOne (zIf (tW (wOr (tCmp (cNe hu) (kV (kCall h_u_law_told hr (by decide) (kCons (kV (kN 3)) (kCons (kV (kN 6)) kNil)))) (kV (kCall h_u_law_both hr (by decide) (kCons (kV (kN 3)) (kCons (kV (kN 6)) kNil))))) (wOr1 (tCmp (cNe hu) (kV (kCall h_u_law_told hr (by decide) (kCons (kV (kN 6)) (kCons (kV (kN 3)) kNil)))) (kV (kCall h_u_law_both hr (by decide) (kCons (kV (kN 6)) (kCons (kV (kN 3)) kNil)))))))) (zOne (zRet kBool)) zNil))))))))
   (zOne (zRet kBool))))

/-! ### the facts -/
def fa : List He.Fa := [.free "abs", .free "all", .free "any", .free "bool", .free "int", .free "isinstance", .free "len", .free "list", .free "range", .free "sorted", .free "str", .free "tuple", .free "zip", .str "LETTERS" "abcdefghijklmnopqrstuvwxyz", .int "LONGEST_MESSAGE" 8, .int "MOST_MESSAGES" 3, .int "MOST_PARTNER_STATES" 300, .int "MOST_PARTNER_TRANSITIONS" 2000, .int "MOST_STATES" 12, .int "MOST_TRANSITIONS" 60, .glo "Partner", .cls "Partner", .glo "Service", .cls "Service", .noat "Partner" "final", .noat "Partner" "states", .noat "Partner" "transitions", .noat "Service" "final", .noat "Service" "inputs", .noat "Service" "outputs", .noat "Service" "states", .noat "Service" "transitions", .glo "_law_cell", .glo "_law_row", .glo "_law_draw", .glo "_law_service", .glo "_law_face", .glo "_turned", .glo "is_number", .glo "_are_transitions", .glo "is_ascending", .glo "_are_final", .glo "_is_shape", .glo "is_message", .glo "is_label", .mkr "Partner", .glo "dual", .glo "_are_messages", .mkr "Service", .glo "_law_made", .glo "_law_dual_told", .glo "_law_dual", .glo "_beside", .glo "together", .glo "_law_told", .glo "_law_both", .glo "law"]
def dd_u_law_cell : He.DefD := ⟨("_law_cell", none), "_law_cell", "_law_cell", defArgs s_u_law_cell, defBody s_u_law_cell, defScope s_u_law_cell, [], []⟩
def dd_u_law_row : He.DefD := ⟨("_law_row", none), "_law_row", "_law_row", defArgs s_u_law_row, defBody s_u_law_row, defScope s_u_law_row, [], []⟩
def dd_u_law_draw : He.DefD := ⟨("_law_draw", none), "_law_draw", "_law_draw", defArgs s_u_law_draw, defBody s_u_law_draw, defScope s_u_law_draw, [], []⟩
def dd_u_law_service : He.DefD := ⟨("_law_service", none), "_law_service", "_law_service", defArgs s_u_law_service, defBody s_u_law_service, defScope s_u_law_service, [], []⟩
def dd_u_law_face : He.DefD := ⟨("_law_face", none), "_law_face", "_law_face", defArgs s_u_law_face, defBody s_u_law_face, defScope s_u_law_face, [], []⟩
def dd_u_turned : He.DefD := ⟨("_turned", none), "_turned", "_turned", defArgs s_u_turned, defBody s_u_turned, defScope s_u_turned, [], []⟩
def dd_is_number : He.DefD := ⟨("is_number", none), "is_number", "is_number", defArgs s_is_number, defBody s_is_number, defScope s_is_number, [], []⟩
def dd_u_are_transitions : He.DefD := ⟨("_are_transitions", none), "_are_transitions", "_are_transitions", defArgs s_u_are_transitions, defBody s_u_are_transitions, defScope s_u_are_transitions, [], []⟩
def dd_is_ascending : He.DefD := ⟨("is_ascending", none), "is_ascending", "is_ascending", defArgs s_is_ascending, defBody s_is_ascending, defScope s_is_ascending, [], []⟩
def dd_u_are_final : He.DefD := ⟨("_are_final", none), "_are_final", "_are_final", defArgs s_u_are_final, defBody s_u_are_final, defScope s_u_are_final, [], []⟩
def dd_u_is_shape : He.DefD := ⟨("_is_shape", none), "_is_shape", "_is_shape", defArgs s_u_is_shape, defBody s_u_is_shape, defScope s_u_is_shape, [], []⟩
def dd_is_message : He.DefD := ⟨("is_message", none), "is_message", "is_message", defArgs s_is_message, defBody s_is_message, defScope s_is_message, [], []⟩
def dd_is_label : He.DefD := ⟨("is_label", none), "is_label", "is_label", defArgs s_is_label, defBody s_is_label, defScope s_is_label, [], []⟩
def dd_C_Partner : He.DefD := ⟨("Partner", some "__init__"), "__init__", "Partner.__init__", defArgs s_C_Partner, defBody s_C_Partner, defScope s_C_Partner, [], []⟩
def dd_dual : He.DefD := ⟨("dual", none), "dual", "dual", defArgs s_dual, defBody s_dual, defScope s_dual, [], []⟩
def dd_u_are_messages : He.DefD := ⟨("_are_messages", none), "_are_messages", "_are_messages", defArgs s_u_are_messages, defBody s_u_are_messages, defScope s_u_are_messages, [], []⟩
def dd_C_Service : He.DefD := ⟨("Service", some "__init__"), "__init__", "Service.__init__", defArgs s_C_Service, defBody s_C_Service, defScope s_C_Service, [], []⟩
def dd_u_law_made : He.DefD := ⟨("_law_made", none), "_law_made", "_law_made", defArgs s_u_law_made, defBody s_u_law_made, defScope s_u_law_made, [], []⟩
def dd_u_law_dual_told : He.DefD := ⟨("_law_dual_told", none), "_law_dual_told", "_law_dual_told", defArgs s_u_law_dual_told, defBody s_u_law_dual_told, defScope s_u_law_dual_told, [], []⟩
def dd_u_law_dual : He.DefD := ⟨("_law_dual", none), "_law_dual", "_law_dual", defArgs s_u_law_dual, defBody s_u_law_dual, defScope s_u_law_dual, [], []⟩
def dd_u_beside : He.DefD := ⟨("_beside", none), "_beside", "_beside", defArgs s_u_beside, defBody s_u_beside, defScope s_u_beside, [], []⟩
def dd_together : He.DefD := ⟨("together", none), "together", "together", defArgs s_together, defBody s_together, defScope s_together, [], []⟩
def dd_u_law_told : He.DefD := ⟨("_law_told", none), "_law_told", "_law_told", defArgs s_u_law_told, defBody s_u_law_told, defScope s_u_law_told, [], []⟩
def dd_u_law_both : He.DefD := ⟨("_law_both", none), "_law_both", "_law_both", defArgs s_u_law_both, defBody s_u_law_both, defScope s_u_law_both, [], []⟩
def dd_law : He.DefD := ⟨("law", none), "law", "law", defArgs s_law, defBody s_law, defScope s_law, [], []⟩
def fnl : List He.DefD := [dd_u_law_cell, dd_u_law_row, dd_u_law_draw, dd_u_law_service, dd_u_law_face, dd_u_turned, dd_is_number, dd_u_are_transitions, dd_is_ascending, dd_u_are_final, dd_u_is_shape, dd_is_message, dd_is_label, dd_C_Partner, dd_dual, dd_u_are_messages, dd_C_Service, dd_u_law_made, dd_u_law_dual_told, dd_u_law_dual, dd_u_beside, dd_together, dd_u_law_told, dd_u_law_both, dd_law]
def exK (K : PySem.W.Frag) : Bool := talkB "/claim/cut.py" K
def cl_ (K : PySem.W.Frag) (c : Str) : Option Addr := if (["Partner", "Service", "TalkError"] : List Str).contains c = true then some (He.ga K c) else none
section
variable {P : Program} {w : World} {K : PySem.W.Frag} {h : Heap} {mg : Str → Option Value}
theorem hat_ (c : SaysY fa fnl exK K) : HAt K (cl_ K) at_ := by
  intro a f C h1 h2
  have h3 : C = He.ga K a := by
    unfold cl_ at h2
    split at h2
    · cases h2; rfl
    · cases h2
  subst h3
  unfold at_ at h1
  simp only [Bool.or_eq_true, Bool.and_eq_true, decide_eq_true_eq] at h1
  rcases h1 with ((((((⟨rfl, rfl⟩ | ⟨rfl, rfl⟩) | ⟨rfl, rfl⟩) | ⟨rfl, rfl⟩) | ⟨rfl, rfl⟩) | ⟨rfl, rfl⟩) | ⟨rfl, rfl⟩) | ⟨rfl, rfl⟩
  · exact ⟨He.cls_ok (c.2.2.fact 21 (f := .cls "Partner") rfl), He.noat_ok (c.2.2.fact 24 (f := .noat "Partner" "final") rfl)⟩
  · exact ⟨He.cls_ok (c.2.2.fact 21 (f := .cls "Partner") rfl), He.noat_ok (c.2.2.fact 25 (f := .noat "Partner" "states") rfl)⟩
  · exact ⟨He.cls_ok (c.2.2.fact 21 (f := .cls "Partner") rfl), He.noat_ok (c.2.2.fact 26 (f := .noat "Partner" "transitions") rfl)⟩
  · exact ⟨He.cls_ok (c.2.2.fact 23 (f := .cls "Service") rfl), He.noat_ok (c.2.2.fact 27 (f := .noat "Service" "final") rfl)⟩
  · exact ⟨He.cls_ok (c.2.2.fact 23 (f := .cls "Service") rfl), He.noat_ok (c.2.2.fact 28 (f := .noat "Service" "inputs") rfl)⟩
  · exact ⟨He.cls_ok (c.2.2.fact 23 (f := .cls "Service") rfl), He.noat_ok (c.2.2.fact 29 (f := .noat "Service" "outputs") rfl)⟩
  · exact ⟨He.cls_ok (c.2.2.fact 23 (f := .cls "Service") rfl), He.noat_ok (c.2.2.fact 30 (f := .noat "Service" "states") rfl)⟩
  · exact ⟨He.cls_ok (c.2.2.fact 23 (f := .cls "Service") rfl), He.noat_ok (c.2.2.fact 31 (f := .noat "Service" "transitions") rfl)⟩
theorem ce_ (c : SaysY fa fnl exK K) : talkB "/claim/cut.py" K = true := by
  have e : (talkB "/claim/cut.py" K) = true := c.1
  simpa only [Bool.and_eq_true] using e
theorem gs_ (X : K.In h) (Gh : h.Ns mainGlobals mg) (c : SaysY fa fnl exK K) : Gs K mg (cl_ K) where
  hat := hat_ c
  f_abs := He.free_ok X Gh (c.2.2.fact 0 (f := .free "abs") rfl)
  f_all := He.free_ok X Gh (c.2.2.fact 1 (f := .free "all") rfl)
  f_any := He.free_ok X Gh (c.2.2.fact 2 (f := .free "any") rfl)
  f_bool := He.free_ok X Gh (c.2.2.fact 3 (f := .free "bool") rfl)
  f_int := He.free_ok X Gh (c.2.2.fact 4 (f := .free "int") rfl)
  f_isinstance := He.free_ok X Gh (c.2.2.fact 5 (f := .free "isinstance") rfl)
  f_len := He.free_ok X Gh (c.2.2.fact 6 (f := .free "len") rfl)
  f_list := He.free_ok X Gh (c.2.2.fact 7 (f := .free "list") rfl)
  f_range := He.free_ok X Gh (c.2.2.fact 8 (f := .free "range") rfl)
  f_sorted := He.free_ok X Gh (c.2.2.fact 9 (f := .free "sorted") rfl)
  f_str := He.free_ok X Gh (c.2.2.fact 10 (f := .free "str") rfl)
  f_tuple := He.free_ok X Gh (c.2.2.fact 11 (f := .free "tuple") rfl)
  f_zip := He.free_ok X Gh (c.2.2.fact 12 (f := .free "zip") rfl)
  c_LETTERS := ⟨He.str_ok X Gh (c.2.2.fact 13 (f := .str "LETTERS" "abcdefghijklmnopqrstuvwxyz") rfl), by kernel_rfl⟩
  c_LONGEST_MESSAGE := ⟨He.int_ok X Gh (c.2.2.fact 14 (f := .int "LONGEST_MESSAGE" 8) rfl)⟩
  c_MOST_MESSAGES := ⟨He.int_ok X Gh (c.2.2.fact 15 (f := .int "MOST_MESSAGES" 3) rfl)⟩
  c_MOST_PARTNER_STATES := ⟨He.int_ok X Gh (c.2.2.fact 16 (f := .int "MOST_PARTNER_STATES" 300) rfl)⟩
  c_MOST_PARTNER_TRANSITIONS := ⟨He.int_ok X Gh (c.2.2.fact 17 (f := .int "MOST_PARTNER_TRANSITIONS" 2000) rfl)⟩
  c_MOST_STATES := ⟨He.int_ok X Gh (c.2.2.fact 18 (f := .int "MOST_STATES" 12) rfl)⟩
  c_MOST_TRANSITIONS := ⟨He.int_ok X Gh (c.2.2.fact 19 (f := .int "MOST_TRANSITIONS" 60) rfl)⟩
theorem facts {f : Addr} (X : K.In h) (Gh : h.Ns mainGlobals mg) (hfa : mg ("law" : Str) = some (.ref f)) (c : SaysY fa fnl exK K) (hfile : P.main.file = "/claim/cut.py") (htop : (P.main.scope.names.lookup ("super" : Str)).isSome = false) :
    ∃ fd : FuncData, (∀ (s : Shared) (v : Value), BindsTo s fd ⟨[v], []⟩ [("_law_script", v)]) ∧ ∀ base : Heap, K.In base → base.Ns mainGlobals mg → FnOk P w K mg base CX0' 8 f fd ["_law_script"] (spFn ⟨P, w, K, cl_ K⟩ [false] F_law) := by
  have G := gs_ X Gh c
  have TG : TalkG P K mg (cl_ K) := talk_ok X Gh (ce_ c) c.2.1 hfile htop rfl
  obtain ⟨fd_u_law_cell, F_u_law_cell'⟩ := c.2.2.def_ 0 (d := dd_u_law_cell) rfl
  obtain ⟨fd_u_law_row, F_u_law_row'⟩ := c.2.2.def_ 1 (d := dd_u_law_row) rfl
  obtain ⟨fd_u_law_draw, F_u_law_draw'⟩ := c.2.2.def_ 2 (d := dd_u_law_draw) rfl
  obtain ⟨fd_u_law_service, F_u_law_service'⟩ := c.2.2.def_ 3 (d := dd_u_law_service) rfl
  obtain ⟨fd_u_law_face, F_u_law_face'⟩ := c.2.2.def_ 4 (d := dd_u_law_face) rfl
  obtain ⟨fd_u_turned, F_u_turned'⟩ := c.2.2.def_ 5 (d := dd_u_turned) rfl
  obtain ⟨fd_is_number, F_is_number'⟩ := c.2.2.def_ 6 (d := dd_is_number) rfl
  obtain ⟨fd_u_are_transitions, F_u_are_transitions'⟩ := c.2.2.def_ 7 (d := dd_u_are_transitions) rfl
  obtain ⟨fd_is_ascending, F_is_ascending'⟩ := c.2.2.def_ 8 (d := dd_is_ascending) rfl
  obtain ⟨fd_u_are_final, F_u_are_final'⟩ := c.2.2.def_ 9 (d := dd_u_are_final) rfl
  obtain ⟨fd_u_is_shape, F_u_is_shape'⟩ := c.2.2.def_ 10 (d := dd_u_is_shape) rfl
  obtain ⟨fd_is_message, F_is_message'⟩ := c.2.2.def_ 11 (d := dd_is_message) rfl
  obtain ⟨fd_is_label, F_is_label'⟩ := c.2.2.def_ 12 (d := dd_is_label) rfl
  obtain ⟨fd_C_Partner, F_C_Partner'⟩ := c.2.2.def_ 13 (d := dd_C_Partner) rfl
  obtain ⟨fd_dual, F_dual'⟩ := c.2.2.def_ 14 (d := dd_dual) rfl
  obtain ⟨fd_u_are_messages, F_u_are_messages'⟩ := c.2.2.def_ 15 (d := dd_u_are_messages) rfl
  obtain ⟨fd_C_Service, F_C_Service'⟩ := c.2.2.def_ 16 (d := dd_C_Service) rfl
  obtain ⟨fd_u_law_made, F_u_law_made'⟩ := c.2.2.def_ 17 (d := dd_u_law_made) rfl
  obtain ⟨fd_u_law_dual_told, F_u_law_dual_told'⟩ := c.2.2.def_ 18 (d := dd_u_law_dual_told) rfl
  obtain ⟨fd_u_law_dual, F_u_law_dual'⟩ := c.2.2.def_ 19 (d := dd_u_law_dual) rfl
  obtain ⟨fd_u_beside, F_u_beside'⟩ := c.2.2.def_ 20 (d := dd_u_beside) rfl
  obtain ⟨fd_together, F_together'⟩ := c.2.2.def_ 21 (d := dd_together) rfl
  obtain ⟨fd_u_law_told, F_u_law_told'⟩ := c.2.2.def_ 22 (d := dd_u_law_told) rfl
  obtain ⟨fd_u_law_both, F_u_law_both'⟩ := c.2.2.def_ 23 (d := dd_u_law_both) rfl
  obtain ⟨fd_law, F_law'⟩ := c.2.2.def_ 24 (d := dd_law) rfl
  have e := hfa.symm.trans (He.glo_ok X Gh (c.2.2.fact 56 (f := .glo "law") rfl))
  cases e
  refine ⟨fd_law, fun s v => FunD.bindsA (ps := ["_law_script"]) F_law' (fun _ _ _ _ _ _ us hl => match us, hl with | [_], _ => rfl) s [v] rfl, fun base _ _ => ?_⟩
  have h_u_law_cell : FnD P w K mg base 1 "_law_cell" [false, false].length (spFn ⟨P, w, K, cl_ K⟩ [false, false] F_u_law_cell) := ⟨_, fd_u_law_cell, ["_law_script", "_law_k"], d_u_law_cell G F_u_law_cell' TG , He.glo_ok X Gh (c.2.2.fact 32 (f := .glo "_law_cell") rfl), F_u_law_cell'.kp, (FunD.bindsN (ps := ["_law_script", "_law_k"]) F_u_law_cell' fun _ _ _ _ _ _ us hl => match us, hl with | [_, _], _ => rfl)⟩
  have h_u_law_row : FnD P w K mg base 2 "_law_row" [false, false, false].length (spFn ⟨P, w, K, cl_ K⟩ [false, false, false] F_u_law_row) := ⟨_, fd_u_law_row, ["_law_script", "_law_first", "_law_last"], d_u_law_row G F_u_law_row' TG h_u_law_cell, He.glo_ok X Gh (c.2.2.fact 33 (f := .glo "_law_row") rfl), F_u_law_row'.kp, (FunD.bindsN (ps := ["_law_script", "_law_first", "_law_last"]) F_u_law_row' fun _ _ _ _ _ _ us hl => match us, hl with | [_, _, _], _ => rfl)⟩
  have h_u_law_draw : FnD P w K mg base 1 "_law_draw" (List.replicate 1 false).length (spBx ⟨P, w, K, cl_ K⟩ (List.replicate 1 false) F_u_law_draw) := ⟨_, fd_u_law_draw, ["_law_box", "_law_many"], d_u_law_draw G F_u_law_draw' TG , He.glo_ok X Gh (c.2.2.fact 34 (f := .glo "_law_draw") rfl), F_u_law_draw'.kp, (FunD.bindsN (ps := ["_law_box", "_law_many"]) F_u_law_draw' fun _ _ _ _ _ _ us hl => match us, hl with | [_, _], _ => rfl)⟩
  have h_u_law_service : FnD P w K mg base 2 "_law_service" (List.replicate 2 false).length (spBx ⟨P, w, K, cl_ K⟩ (List.replicate 2 false) F_u_law_service) := ⟨_, fd_u_law_service, ["_law_box", "_law_face_here", "_law_most"], d_u_law_service G F_u_law_service' TG h_u_law_draw, He.glo_ok X Gh (c.2.2.fact 35 (f := .glo "_law_service") rfl), F_u_law_service'.kp, (FunD.bindsN (ps := ["_law_box", "_law_face_here", "_law_most"]) F_u_law_service' fun _ _ _ _ _ _ us hl => match us, hl with | [_, _, _], _ => rfl)⟩
  have h_u_law_face : FnD P w K mg base 2 "_law_face" (List.replicate 0 false).length (spBx ⟨P, w, K, cl_ K⟩ (List.replicate 0 false) F_u_law_face) := ⟨_, fd_u_law_face, ["_law_box"], d_u_law_face G F_u_law_face' TG h_u_law_draw, He.glo_ok X Gh (c.2.2.fact 36 (f := .glo "_law_face") rfl), F_u_law_face'.kp, (FunD.bindsN (ps := ["_law_box"]) F_u_law_face' fun _ _ _ _ _ _ us hl => match us, hl with | [_], _ => rfl)⟩
  have h_u_turned : FnD P w K mg base 1 "_turned" [false].length (spFn ⟨P, w, K, cl_ K⟩ [false] F_u_turned) := ⟨_, fd_u_turned, ["label"], d_u_turned G F_u_turned' TG , He.glo_ok X Gh (c.2.2.fact 37 (f := .glo "_turned") rfl), F_u_turned'.kp, (FunD.bindsN (ps := ["label"]) F_u_turned' fun _ _ _ _ _ _ us hl => match us, hl with | [_], _ => rfl)⟩
  have h_is_number : FnD P w K mg base 1 "is_number" [false, false].length (spFn ⟨P, w, K, cl_ K⟩ [false, false] F_is_number) := ⟨_, fd_is_number, ["thing", "most"], d_is_number G F_is_number' TG , He.glo_ok X Gh (c.2.2.fact 38 (f := .glo "is_number") rfl), F_is_number'.kp, (FunD.bindsN (ps := ["thing", "most"]) F_is_number' fun _ _ _ _ _ _ us hl => match us, hl with | [_, _], _ => rfl)⟩
  have h_u_are_transitions : FnD P w K mg base 2 "_are_transitions" [false, false, false].length (spFn ⟨P, w, K, cl_ K⟩ [false, false, false] F_u_are_transitions) := ⟨_, fd_u_are_transitions, ["thing", "states", "most"], d_u_are_transitions G F_u_are_transitions' TG h_is_number, He.glo_ok X Gh (c.2.2.fact 39 (f := .glo "_are_transitions") rfl), F_u_are_transitions'.kp, (FunD.bindsN (ps := ["thing", "states", "most"]) F_u_are_transitions' fun _ _ _ _ _ _ us hl => match us, hl with | [_, _, _], _ => rfl)⟩
  have h_is_ascending : FnD P w K mg base 1 "is_ascending" [false].length (spFn ⟨P, w, K, cl_ K⟩ [false] F_is_ascending) := ⟨_, fd_is_ascending, ["things"], d_is_ascending G F_is_ascending' TG , He.glo_ok X Gh (c.2.2.fact 40 (f := .glo "is_ascending") rfl), F_is_ascending'.kp, (FunD.bindsN (ps := ["things"]) F_is_ascending' fun _ _ _ _ _ _ us hl => match us, hl with | [_], _ => rfl)⟩
  have h_u_are_final : FnD P w K mg base 2 "_are_final" [false, false].length (spFn ⟨P, w, K, cl_ K⟩ [false, false] F_u_are_final) := ⟨_, fd_u_are_final, ["thing", "states"], d_u_are_final G F_u_are_final' TG h_is_number h_is_ascending, He.glo_ok X Gh (c.2.2.fact 41 (f := .glo "_are_final") rfl), F_u_are_final'.kp, (FunD.bindsN (ps := ["thing", "states"]) F_u_are_final' fun _ _ _ _ _ _ us hl => match us, hl with | [_, _], _ => rfl)⟩
  have h_u_is_shape : FnD P w K mg base 3 "_is_shape" [false, false, false, false, false].length (spFn ⟨P, w, K, cl_ K⟩ [false, false, false, false, false] F_u_is_shape) := ⟨_, fd_u_is_shape, ["states", "most", "transitions", "most_transitions", "final"], d_u_is_shape G F_u_is_shape' TG h_is_number h_u_are_transitions h_u_are_final, He.glo_ok X Gh (c.2.2.fact 42 (f := .glo "_is_shape") rfl), F_u_is_shape'.kp, (FunD.bindsN (ps := ["states", "most", "transitions", "most_transitions", "final"]) F_u_is_shape' fun _ _ _ _ _ _ us hl => match us, hl with | [_, _, _, _, _], _ => rfl)⟩
  have h_is_message : FnD P w K mg base 1 "is_message" [false].length (spFn ⟨P, w, K, cl_ K⟩ [false] F_is_message) := ⟨_, fd_is_message, ["thing"], d_is_message G F_is_message' TG , He.glo_ok X Gh (c.2.2.fact 43 (f := .glo "is_message") rfl), F_is_message'.kp, (FunD.bindsN (ps := ["thing"]) F_is_message' fun _ _ _ _ _ _ us hl => match us, hl with | [_], _ => rfl)⟩
  have h_is_label : FnD P w K mg base 2 "is_label" [false].length (spFn ⟨P, w, K, cl_ K⟩ [false] F_is_label) := ⟨_, fd_is_label, ["thing"], d_is_label G F_is_label' TG h_is_message, He.glo_ok X Gh (c.2.2.fact 44 (f := .glo "is_label") rfl), F_is_label'.kp, (FunD.bindsN (ps := ["thing"]) F_is_label' fun _ _ _ _ _ _ us hl => match us, hl with | [_], _ => rfl)⟩
  have h_C_Partner : ClQ (L2N.CX P w) P w K mg base (cl_ K) 4 "Partner" (spBx ⟨P, w, K, cl_ K⟩ (List.replicate 3 false) F_C_Partner) := ⟨_, _, fd_C_Partner, ["self", "states", "transitions", "final"], rfl, He.mkr_ok (c.2.2.fact 45 (f := .mkr "Partner") rfl), d_C_Partner G F_C_Partner' TG h_u_is_shape h_is_label, He.glo_ok X Gh (c.2.2.fact 20 (f := .glo "Partner") rfl), (FunD.bindsN (ps := ["self", "states", "transitions", "final"]) F_C_Partner' fun _ _ _ _ _ _ us hl => match us, hl with | [_, _, _, _], _ => rfl)⟩
  have h_dual : FnQ (L2N.CX P w) P w K mg base 6 "dual" [false].length (spFn ⟨P, w, K, cl_ K⟩ [false] F_dual) := ⟨_, fd_dual, ["service"], d_dual G F_dual' TG h_u_turned h_C_Partner, He.glo_ok X Gh (c.2.2.fact 46 (f := .glo "dual") rfl), F_dual'.kp, (FunD.bindsN (ps := ["service"]) F_dual' fun _ _ _ _ _ _ us hl => match us, hl with | [_], _ => rfl)⟩
  have h_u_are_messages : FnD P w K mg base 2 "_are_messages" [false].length (spFn ⟨P, w, K, cl_ K⟩ [false] F_u_are_messages) := ⟨_, fd_u_are_messages, ["thing"], d_u_are_messages G F_u_are_messages' TG h_is_message h_is_ascending, He.glo_ok X Gh (c.2.2.fact 47 (f := .glo "_are_messages") rfl), F_u_are_messages'.kp, (FunD.bindsN (ps := ["thing"]) F_u_are_messages' fun _ _ _ _ _ _ us hl => match us, hl with | [_], _ => rfl)⟩
  have h_C_Service : ClQ (L2N.CX P w) P w K mg base (cl_ K) 4 "Service" (spBx ⟨P, w, K, cl_ K⟩ (List.replicate 5 false) F_C_Service) := ⟨_, _, fd_C_Service, ["self", "inputs", "outputs", "states", "transitions", "final"], rfl, He.mkr_ok (c.2.2.fact 48 (f := .mkr "Service") rfl), d_C_Service G F_C_Service' TG h_u_are_messages h_u_is_shape, He.glo_ok X Gh (c.2.2.fact 22 (f := .glo "Service") rfl), (FunD.bindsN (ps := ["self", "inputs", "outputs", "states", "transitions", "final"]) F_C_Service' fun _ _ _ _ _ _ us hl => match us, hl with | [_, _, _, _, _, _], _ => rfl)⟩
  have h_u_law_made : FnQ (L2N.CX P w) P w K mg base 6 "_law_made" [false].length (spFn ⟨P, w, K, cl_ K⟩ [false] F_u_law_made) := ⟨_, fd_u_law_made, ["_law_v"], d_u_law_made G F_u_law_made' TG h_C_Service, He.glo_ok X Gh (c.2.2.fact 49 (f := .glo "_law_made") rfl), F_u_law_made'.kp, (FunD.bindsN (ps := ["_law_v"]) F_u_law_made' fun _ _ _ _ _ _ us hl => match us, hl with | [_], _ => rfl)⟩
  have h_u_law_dual_told : FnD P w K mg base 7 "_law_dual_told" [false].length (spFn ⟨P, w, K, cl_ K⟩ [false] F_u_law_dual_told) := ⟨_, fd_u_law_dual_told, ["_law_v"], d_u_law_dual_told G F_u_law_dual_told' TG h_dual h_u_law_made, He.glo_ok X Gh (c.2.2.fact 50 (f := .glo "_law_dual_told") rfl), F_u_law_dual_told'.kp, (FunD.bindsN (ps := ["_law_v"]) F_u_law_dual_told' fun _ _ _ _ _ _ us hl => match us, hl with | [_], _ => rfl)⟩
  have h_u_law_dual : FnD P w K mg base 1 "_law_dual" [false].length (spFn ⟨P, w, K, cl_ K⟩ [false] F_u_law_dual) := ⟨_, fd_u_law_dual, ["_law_v"], d_u_law_dual G F_u_law_dual' TG , He.glo_ok X Gh (c.2.2.fact 51 (f := .glo "_law_dual") rfl), F_u_law_dual'.kp, (FunD.bindsN (ps := ["_law_v"]) F_u_law_dual' fun _ _ _ _ _ _ us hl => match us, hl with | [_], _ => rfl)⟩
  have h_u_beside : FnD P w K mg base 1 "_beside" [false, false].length (spFn ⟨P, w, K, cl_ K⟩ [false, false] F_u_beside) := ⟨_, fd_u_beside, ["one", "two"], d_u_beside G F_u_beside' TG , He.glo_ok X Gh (c.2.2.fact 52 (f := .glo "_beside") rfl), F_u_beside'.kp, (FunD.bindsN (ps := ["one", "two"]) F_u_beside' fun _ _ _ _ _ _ us hl => match us, hl with | [_, _], _ => rfl)⟩
  have h_together : FnQ (L2N.CX P w) P w K mg base 6 "together" [false, false].length (spFn ⟨P, w, K, cl_ K⟩ [false, false] F_together) := ⟨_, fd_together, ["one", "two"], d_together G F_together' TG h_u_beside h_C_Service, He.glo_ok X Gh (c.2.2.fact 53 (f := .glo "together") rfl), F_together'.kp, (FunD.bindsN (ps := ["one", "two"]) F_together' fun _ _ _ _ _ _ us hl => match us, hl with | [_, _], _ => rfl)⟩
  have h_u_law_told : FnD P w K mg base 7 "_law_told" [false, false].length (spFn ⟨P, w, K, cl_ K⟩ [false, false] F_u_law_told) := ⟨_, fd_u_law_told, ["_law_v", "_law_u"], d_u_law_told G F_u_law_told' TG h_together h_u_law_made, He.glo_ok X Gh (c.2.2.fact 54 (f := .glo "_law_told") rfl), F_u_law_told'.kp, (FunD.bindsN (ps := ["_law_v", "_law_u"]) F_u_law_told' fun _ _ _ _ _ _ us hl => match us, hl with | [_, _], _ => rfl)⟩
  have h_u_law_both : FnD P w K mg base 1 "_law_both" [false, false].length (spFn ⟨P, w, K, cl_ K⟩ [false, false] F_u_law_both) := ⟨_, fd_u_law_both, ["_law_v", "_law_u"], d_u_law_both G F_u_law_both' TG , He.glo_ok X Gh (c.2.2.fact 55 (f := .glo "_law_both") rfl), F_u_law_both'.kp, (FunD.bindsN (ps := ["_law_v", "_law_u"]) F_u_law_both' fun _ _ _ _ _ _ us hl => match us, hl with | [_, _], _ => rfl)⟩
  exact d_law G F_law' TG h_u_law_row h_u_law_service h_u_law_face h_u_law_dual_told h_u_law_dual h_u_law_draw h_u_law_told h_u_law_both
end
abbrev R : PySem.W.OpenRow := PySem.W.OpenLaw.row PySem.Challenge.rw_allwhotalk_k02_dual_and_together
abbrev hk : PySem.W.Hook := hookY 4 fa fnl exK
def ob (s : PySem.W.SharedT) : Bool × FnV2 × He.AlD := obsY 4 fa fnl exK (HandSHeadRun.getT s)
theorem ob_eq (s : PySem.W.SharedT) : ob s = hk.obs s.abs := obsY_eq (HandSHeadRun.getT_eq s)
def names0 : List Str := ["TalkError", "LETTERS", "MOST_MESSAGES", "MOST_STATES", "MOST_TRANSITIONS", "MOST_PARTNER_STATES", "MOST_PARTNER_TRANSITIONS", "LONGEST_MESSAGE", "is_number", "is_message", "is_label", "is_ascending", "_are_messages", "_are_transitions", "_are_final", "_is_shape", "Service", "Partner", "Link", "Links", "_turned", "dual", "_beside", "together", "_law_cell", "_law_row", "_law_draw", "_law_face", "_law_service", "_law_link"]
def names1 : List Str := ["_law_labels", "_law_partner", "_law_made", "_law_links", "_law_mate", "_law_dual_told", "_law_dual", "_law_told", "_law_both"]
def names : List Str := names0 ++ names1
theorem run (w : World) : HandSHeadRun.RunEq R (PySem.W.view R.prog [42]) hk ob 4000 names w := by
  intro os
  kernel_rfl
end Lw
set_option Elab.async false
set_option linter.all false
set_option autoImplicit false
set_option maxRecDepth 100000
set_option maxHeartbeats 1000000
namespace Lw
open PySem Ev
def encI (ns : List Int) : List D := ns.map D.int
@[simp] theorem encI_len (ns : List Int) : (encI ns).length = ns.length := List.length_map ..
def boxD (row : List Int) (a : Int) : D := .lst [.lst (encI row), .int a]
theorem draw_ok (row : List Int) (a m : Int) (ha : 0 ≤ a) (hm : 0 < m) :
    ∃ v, 0 ≤ v ∧ v < m ∧ F_u_law_draw (boxD row a) [.int m] = .ok (fz (.int v)) (boxD row (a + 1)) := by
  have hm0 : m ≠ 0 := by omega
  by_cases hlt : a < row.length
  · have hn : a.toNat < row.length := by omega
    have hat : L2.atI (encI row) a = some (.int (row[a.toNat])) := by
      unfold encI
      rw [atI_map, atI_nat (n := a.toNat) (by omega) hn]; rfl
    refine ⟨(row[a.toNat]).fmod m, Int.fmod_nonneg_of_pos _ hm, Int.fmod_lt_of_pos _ hm, ?_⟩
    simp [F_u_law_draw, runB, t_u_law_draw, startB, boxD, sSetI, hat, hm0, hlt]
  · refine ⟨(a * 5 + 1).fmod m, Int.fmod_nonneg_of_pos _ hm, Int.fmod_lt_of_pos _ hm, ?_⟩
    simp [F_u_law_draw, runB, t_u_law_draw, startB, boxD, sSetI, hm0, hlt]
theorem cell_ok (ns : List Int) (k : Int) (hk : 0 ≤ k) : ∃ v, F_u_law_cell [.scr ns, .int k] = .ok (fz (.int v)) := by
  by_cases h : k < ns.length
  · have hat : L2.atI ns k = some ns[k.toNat] := atI_nat (by omega) (by omega)
    exact ⟨_, by simp [F_u_law_cell, runF, t_u_law_cell, startE, h, hat]; rfl⟩
  · exact ⟨0, by simp [F_u_law_cell, runF, t_u_law_cell, startE, h]⟩
theorem encI_snoc (r : List Int) (x : Int) : encI r ++ [.int x] = encI (r ++ [x]) := by simp [encI]
theorem encI_snocF (r : List Int) (x : Int) : encI (r ++ [x]) = encI r ++ [.int x] := by simp [encI]
/-- within the row's loops -/
def rowJ (ns : List Int) (a b k : Int) (n j : Nat) (e : En) : Prop := ∃ r c s6, e = [.sh (.scr ns), .sh (.int a), .sh (.int b), .ow (.lst (encI r)), .sh (.int k), .sh (.int c), s6] ∧ r.length ≤ 60 * n + j
def rowI (ns : List Int) (a b : Int) (n : Nat) (e : En) : Prop := ∃ r s4 s5 s6, e = [.sh (.scr ns), .sh (.int a), .sh (.int b), .ow (.lst (encI r)), s4, s5, s6] ∧ r.length ≤ 60 * n
theorem small {n : Nat} (h : n ≤ 100000) : n < sizeLine := by rw [sizeLine_eq]; omega
theorem forGo_run {tg : Tg} {b : SS} (I : Nat → En → Prop) (xs : List D) (e : En) (h0 : I 0 e) (step : ∀ i (hi : i < xs.length) e, I i e → ∃ e1, setTg tg xs[i] e = some e1 ∧ ∃ e2, b e1 = .nx e2 ∧ I (i + 1) e2) : ∃ e', forGo tg b xs e = .nx e' ∧ I xs.length e' := by
  have := forGo_inv I xs 0 e h0 (fun i hi e he => by
    have := step i hi e (by simpa using he)
    simpa using this)
  simpa using this
theorem row_in0 (ns : List Int) (a b k : Int) (n : Nat) (hn : n ≤ 100) (e : En) (h : rowJ ns a b k n 0 e) : ∃ e', sFor (.one 6) (sRange [oVal (sC (.int 60))]) b0_u_law_row e = .nx e' ∧ rowJ ns a b k n 60 e' := by
  have hr : sRange [oVal (sC (.int 60))] e = .ok ⟨(List.range (60 : Int).toNat).map fun (k : Nat) => D.int (0 + (k : Nat)), none⟩ e := e_range1 ⟨by decide, by decide, e_lines (by decide)⟩ rfl
  rw [sFor_of hr rfl]
  refine forGo_run (rowJ ns a b k n) _ e h fun i hi e he => ?_
  obtain ⟨r, c, s6, rfl, hl⟩ := he
  have hi' : i < 60 := by simpa using hi
  have hs : r.length < sizeLine := small (by omega)
  refine ⟨_, rfl, ?_⟩
  by_cases hc : 0 < c
  · refine ⟨_, by simp [b0_u_law_row, hc, hs]; rfl, r ++ [c.fmod 840], _, _, by rw [encI_snocF], ?_⟩
    simp; omega
  · exact ⟨[.sh (.scr ns), .sh (.int a), .sh (.int b), .ow (.lst (encI r)), .sh (.int k), .sh (.int c), .sh (.int i)], by simp [b0_u_law_row, hc], r, _, _, rfl, by omega⟩
theorem row_in1 (ns : List Int) (a b k : Int) (n : Nat) (hn : n ≤ 100) (e : En) (h : rowJ ns a b k n 0 e) : ∃ e', sFor (.one 6) (sRange [oVal (sC (.int 10))]) b1_u_law_row e = .nx e' ∧ rowJ ns a b k n 10 e' := by
  have hr : sRange [oVal (sC (.int 10))] e = .ok ⟨(List.range (10 : Int).toNat).map fun (k : Nat) => D.int (0 + (k : Nat)), none⟩ e := e_range1 ⟨by decide, by decide, e_lines (by decide)⟩ rfl
  rw [sFor_of hr rfl]
  refine forGo_run (rowJ ns a b k n) _ e h fun i hi e he => ?_
  obtain ⟨r, c, s6, rfl, hl⟩ := he
  have hi' : i < 10 := by simpa using hi
  have hs : r.length < sizeLine := small (by omega)
  refine ⟨_, rfl, ?_⟩
  refine ⟨_, by simp [b1_u_law_row, hs]; rfl, _, _, _, by rw [encI_snocF], ?_⟩
  simp; omega
theorem row_out (ns : List Int) (a b : Int) (n : Nat) (hn : n ≤ 100) (e : En) (h : rowI ns a b n e) : ∃ e1, setTg (.one 4) (.int (0 + (n : Nat))) e = some e1 ∧ ∃ e2, b2_u_law_row e1 = .nx e2 ∧ rowI ns a b (n + 1) e2 := by
  obtain ⟨r, s4, s5, s6, rfl, hl⟩ := h
  obtain ⟨v, hv⟩ := cell_ok ns n (by omega)
  refine ⟨[.sh (.scr ns), .sh (.int a), .sh (.int b), .ow (.lst (encI r)), .sh (.int n), s5, s6], by simp [setTg], ?_⟩
  generalize hz : (if 2 * v < 0 then -(2 * v) else 2 * v) + (if decide (v < 0) = true then 1 else 0) = z
  have hJ : rowJ ns a b n n 0 [.sh (.scr ns), .sh (.int a), .sh (.int b), .ow (.lst (encI r)), .sh (.int n), .sh (.int z), s6] := ⟨r, _, s6, rfl, by omega⟩
  by_cases hc : 10 ^ 18 < z
  · obtain ⟨e', h1, r', c, s6', rfl, hl'⟩ := row_in0 ns a b n n hn _ hJ
    refine ⟨[.sh (.scr ns), .sh (.int a), .sh (.int b), .ow (.lst (encI r')), .sh (.int n), .sh (.int c), s6'], ?_, r', _, _, _, rfl, by omega⟩
    rw [← h1]
    simp [b2_u_law_row, hv]
    simp at hz
    rw [hz]
    simp at hc
    simp [hc]
  · obtain ⟨e', h1, r', c, s6', rfl, hl'⟩ := row_in1 ns a b n n hn _ hJ
    refine ⟨[.sh (.scr ns), .sh (.int a), .sh (.int b), .ow (.lst (encI r')), .sh (.int n), .sh (.int c), s6'], ?_, r', _, _, _, rfl, by omega⟩
    rw [← h1]
    simp [b2_u_law_row, hv]
    simp at hz
    rw [hz]
    simp at hc
    rw [if_neg (by omega)]
theorem row_ok (ns : List Int) (b : Int) (hb : 0 ≤ b ∧ b ≤ 100) : ∃ row, F_u_law_row [.scr ns, .int 0, .int b] = .ok (nw (.lst (encI row))) := by
  have hr : sRange [oName 1, oName 2] [.sh (.scr ns), .sh (.int 0), .sh (.int b), .ow (.lst []), .unb, .unb, .unb] = .ok ⟨(List.range (b - 0).toNat).map fun (k : Nat) => D.int (0 + (k : Nat)), none⟩ [.sh (.scr ns), .sh (.int 0), .sh (.int b), .ow (.lst []), .unb, .unb, .unb] := by
    have hs : (b - 0).toNat ≤ sizeLine := e_lines (by omega)
    unfold sRange
    simp only [e_args, e_ops1, e_ops0, e_oName, Out.bind_ok, e_ress1, e_ress0, e_res1]
    simp
    simp at hs
    omega
  obtain ⟨e', h1, r, s4, s5, s6, rfl, hl⟩ := forGo_run (tg := .one 4) (b := b2_u_law_row) (rowI ns 0 b) ((List.range (b - 0).toNat).map fun (k : Nat) => D.int (0 + (k : Nat))) [.sh (.scr ns), .sh (.int 0), .sh (.int b), .ow (.lst []), .unb, .unb, .unb] ⟨[], _, _, _, rfl, by simp⟩ (fun i hi e he => by
    have hi' : i < (b - 0).toNat := by simpa using hi
    have := row_out ns 0 b i (by omega) e he
    simpa using this)
  refine ⟨r, ?_⟩
  have h0 := sFor_of (tg := .one 4) (b := b2_u_law_row) hr rfl
  simp only [F_u_law_row, runF, t_u_law_row, startE]
  simp
  rw [h0]
  simp only []
  rw [h1]
  simp
structure Nd where
  mv : List (Str × Int)
  fb : List Str
  cl : List (List Str)
structure Gd where
  ins : List Str
  outs : List Str
  nd : List Nd
structure Pt where
  n : Nat
  rows : List (Int × Str × Int)
  fin : List Int
abbrev encS (l : List Str) : List D := l.map D.str
def encMv (m : Str × Int) : D := .tup [.str m.1, .int m.2]
def encC (c : List Str) : D := .lst (encS c)
def encNd (n : Nd) : D := .lst [.lst (n.mv.map encMv), .lst (encS n.fb), .lst (n.cl.map encC)]
def encGd (g : Gd) : D := .lst [.lst (encS g.ins), .lst (encS g.outs), .lst (g.nd.map encNd)]
def encRow (r : Int × Str × Int) : D := .tup [.int r.1, .str r.2.1, .int r.2.2]
def encPt (p : Pt) : D := .lst [.int p.n, .lst (p.rows.map encRow), .lst (encI p.fin)]
def lab (g : Gd) : List Str := g.ins.map (("!" : Str) ++ ·) ++ g.outs.map (("?" : Str) ++ ·)
/-- the interfaces that are drawn -/
def Face (ins outs : List Str) : Prop := (ins = [("a" : Str)] ∨ ins = [("a" : Str), "b"]) ∧ (outs = [] ∨ outs = [("c" : Str)] ∨ outs = [("c" : Str), "d"])
theorem smallL {n : Nat} (h : n ≤ 100000) : n ≤ sizeLine := by rw [sizeLine_eq]; omega
theorem len_ex : (Str.ofString "!").length = 1 := by decide
theorem len_qu : (Str.ofString "?").length = 1 := by decide
@[simp] theorem add_ex (x : Str) (h : x.length ≤ 10) : pAdd [.str (Str.ofString "!"), .str x] = some (fz (.str ("!" ++ x))) := pAdd_str (smallL (by rw [len_ex]; omega))
@[simp] theorem add_qu (x : Str) (h : x.length ≤ 10) : pAdd [.str (Str.ofString "?"), .str x] = some (fz (.str ("?" ++ x))) := pAdd_str (smallL (by rw [len_qu]; omega))
def obNd (n : Nd) : D := .obj "Node" [("moves", .lst (n.mv.map encMv)), ("forbidden", .lst (encS n.fb)), ("clauses", .lst (n.cl.map encC))]
def obGd (g : Gd) : D := .obj "Guide" [("inputs", .lst (encS g.ins)), ("outputs", .lst (encS g.outs)), ("nodes", .lst (g.nd.map obNd))]
def obPt (p : Pt) : D := .obj "Partner" [("states", .int p.n), ("transitions", .lst (p.rows.map encRow)), ("final", .lst (encI p.fin))]
@[simp] theorem f_n (p : Pt) : pFld at_ "states" [obPt p] = some (fz (.int p.n)) := pFld_of (by decide) (by rfl)
@[simp] theorem f_rows (p : Pt) : pFld at_ "transitions" [obPt p] = some (fz (.lst (p.rows.map encRow))) := pFld_of (by decide) (by rfl)
@[simp] theorem f_fin (p : Pt) : pFld at_ "final" [obPt p] = some (fz (.lst (encI p.fin))) := pFld_of (by decide) (by rfl)
/-- the target of a label -/
def tgt (m : List (Str × Int)) (l : Str) : Option Int := (m.find? fun x => decide (x.1 = l)).map (·.2)
def oI : Option Int → D
  | some i => .int i
  | none => .non
theorem tgt_nil (l : Str) : tgt [] l = none := rfl
theorem tgt_hit (m : List (Str × Int)) (l : Str) (i : Int) : tgt ((l, i) :: m) l = some i := by simp [tgt]
theorem tgt_miss (m : List (Str × Int)) (l k : Str) (i : Int) (h : k ≠ l) : tgt ((k, i) :: m) l = tgt m l := by simp [tgt, h]
theorem all_str : ∀ ds : List D, (∀ x ∈ ds, ∃ s, x = .str s) → ∃ ls : List Str, ds = ls.map D.str
  | [], _ => ⟨[], rfl⟩
  | d :: ds, h => by
    obtain ⟨s, rfl⟩ := h d (.head _)
    obtain ⟨ls, rfl⟩ := all_str ds fun x hx => h x (.tail _ hx)
    exact ⟨s :: ls, rfl⟩
@[simp] theorem pAny_map {α : Type} (l : List α) (f : α → Bool) : pAny [.lst (l.map fun x => D.bl (f x))] = some (fz (.bl (l.any f))) := by
  have := pAny_bls (l.map f)
  rw [List.map_map] at this
  have e : (D.bl ∘ f) = fun x => D.bl (f x) := rfl
  rw [e] at this
  rw [this]
  simp
@[simp] theorem pAll_map {α : Type} (l : List α) (f : α → Bool) : pAll [.lst (l.map fun x => D.bl (f x))] = some (fz (.bl (l.all f))) := by
  have := pAll_bls (l.map f)
  rw [List.map_map] at this
  have e : (D.bl ∘ f) = fun x => D.bl (f x) := rfl
  rw [e] at this
  rw [this]
  simp
/-- a clause is met -/
def Met (p : Pt) (s : Int) (c : List Str) : Prop := (("final" : Str) ∈ c ∧ s ∈ p.fin) ∨ ∃ l t, (s, l, t) ∈ p.rows ∧ l ∈ c
/-- the pair fits -/
def Fit (p : Pt) (s : Int) (n : Nd) : Prop := (∀ l t, (s, l, t) ∈ p.rows → tgt n.mv l ≠ none) ∧ ∀ c ∈ n.cl, Met p s c
theorem oI_non {o : Option Int} : oI o = .non ↔ o = none := by cases o <;> simp [oI]
def labsOf (p : Pt) (s : Int) : List Str := (p.rows.filter fun r => decide (r.1 = s)).map fun r => r.2.1
theorem labsOf_mem (p : Pt) (s : Int) (l : Str) : l ∈ labsOf p s ↔ ∃ t, (s, l, t) ∈ p.rows := by
  unfold labsOf
  simp only [List.mem_map, List.mem_filter, decide_eq_true_eq]
  constructor
  · rintro ⟨⟨a, b, c⟩, ⟨h1, h2⟩, h3⟩
    subst h2 h3
    exact ⟨c, h1⟩
  · rintro ⟨t, h⟩
    exact ⟨_, ⟨h, rfl⟩, rfl⟩
def encQ (q : Str × Int × Int) : D := .tup [.str q.1, .tup [.int q.2.1, .int q.2.2]]
def rowsOf (p : Pt) (s : Int) (l : Str) : List (Int × Str × Int) := p.rows.filter fun r => decide (r.1 = s) && decide (r.2.1 = l)
def nextQ (p : Pt) (s : Int) (n : Nd) (l : Str) : List (Str × Int × Int) := match tgt n.mv l with
  | none => []
  | some m => (rowsOf p s l).map fun r => (l, r.2.2, m)
theorem next_len (p : Pt) (s : Int) (n : Nd) (l : Str) : (nextQ p s n l).length ≤ (rowsOf p s l).length := by
  unfold nextQ
  split <;> simp
theorem count_le (s : Int) : ∀ (ls : List Str) (rows : List (Int × Str × Int)), ls.Nodup → (ls.map fun l => (rows.filter fun r => decide (r.1 = s) && decide (r.2.1 = l)).length).sum ≤ rows.length
  | [], rows, _ => by simp
  | l :: ls, rows, h => by
    obtain ⟨h1, h2⟩ := List.nodup_cons.mp h
    have ih := count_le s ls (rows.filter fun r => !(decide (r.1 = s) && decide (r.2.1 = l))) h2
    have e : (ls.map fun k => ((rows.filter fun r => !(decide (r.1 = s) && decide (r.2.1 = l))).filter fun r => decide (r.1 = s) && decide (r.2.1 = k)).length) = ls.map fun k => (rows.filter fun r => decide (r.1 = s) && decide (r.2.1 = k)).length := by
      refine List.map_congr_left fun k hk => ?_
      rw [List.filter_filter]
      congr 1
      refine List.filter_congr fun r _ => ?_
      have : k ≠ l := fun z => h1 (z ▸ hk)
      by_cases a : r.1 = s <;> by_cases b : r.2.1 = k <;> simp [a, b, this]
    rw [e] at ih
    have := len_split (fun r : Int × Str × Int => decide (r.1 = s) && decide (r.2.1 = l)) rows
    rw [List.map_cons, List.sum_cons]
    omega
abbrev Pr := Int × Int
def encP (q : Pr) : D := .tup [.int q.1, .int q.2]
def encF (x : Pr × List Str) : D × D := (encP x.1, .tup (encS x.2))
theorem encP_inj {a b : Pr} : encP a = encP b ↔ a = b := by
  obtain ⟨a1, a2⟩ := a
  obtain ⟨b1, b2⟩ := b
  simp [encP]
theorem dk_F (fd : List (Pr × List Str)) (a b : Int) : dkOk (fd.map encF) (.tup [.int a, .int b]) = true := dkOk_of (b := true) (by show kdp (D.key (.tup [.int a, .int b])) = true; rfl) (fun q hq => by
  obtain ⟨x, _, e⟩ := List.mem_map.mp hq
  subst e; rfl)
theorem dget_F (fd : List (Pr × List Str)) (q : Pr) (w : List Str) (h : (q, w) ∈ fd) (hn : (fd.map (·.1)).Nodup) : dget (fd.map encF) (.tup [.int q.1, .int q.2]) = some (.tup (encS w)) := by
  induction fd with
  | nil => cases h
  | cons x fd ih =>
    rw [List.map_cons] at hn ⊢
    obtain ⟨h1, h2⟩ := List.nodup_cons.mp hn
    by_cases e : x.1 = q
    · have : x = (q, w) := by
        rcases List.mem_cons.mp h with h | h
        · exact h.symm
        · exact absurd (e ▸ List.mem_map_of_mem h) h1
      subst this
      exact dget_pos rfl
    · have hne : ¬ (encF x).1 = .tup [.int q.1, .int q.2] := fun z => e (encP_inj.mp z)
      rw [dget_neg hne]
      refine ih ?_ h2
      rcases List.mem_cons.mp h with h | h
      · subst h; exact absurd rfl e
      · exact h
theorem dget_Fn (fd : List (Pr × List Str)) (q : Pr) : (dget (fd.map encF) (.tup [.int q.1, .int q.2])).isSome = decide (q ∈ fd.map (·.1)) := by
  by_cases h : q ∈ fd.map (·.1)
  · rw [decide_eq_true h]
    refine dget_some.mpr ?_
    obtain ⟨x, hx, e⟩ := List.mem_map.mp h
    rw [List.map_map]
    exact List.mem_map.mpr ⟨x, hx, by show encP x.1 = _; rw [e]; rfl⟩
  · rw [decide_eq_false h]
    cases z : (dget (fd.map encF) (.tup [.int q.1, .int q.2])).isSome with
    | false => rfl
    | true =>
      have := dget_some.mp z
      rw [List.map_map] at this
      obtain ⟨x, hx, e⟩ := List.mem_map.mp this
      exact absurd (List.mem_map.mpr ⟨x, hx, encP_inj.mp e⟩) h
@[simp] theorem notIn_dic {l : List D} {ds : List (D × D)} : pNotInA [.tup l, .dic ds] = if dkOk ds (.tup l) = true then some (fz (.bl (!(dget ds (.tup l)).isSome))) else none := by
  unfold pNotInA orP
  have : pNotIn [.tup l, .dic ds] = none := rfl
  rw [this]
  rfl
open Classical in
noncomputable def insQ (w : List Str) (fd : List (Pr × List Str)) (q : Str × Int × Int) : List (Pr × List Str) := if q.2 ∈ fd.map (·.1) then fd else fd ++ [(q.2, w ++ [q.1])]
def fuE (g : Gd) (p : Pt) (f : Int) (fd : List (Pr × List Str)) (k a b : Int) (s8 s9 : Slot) : En := [.sh (obGd g), .sh (obPt p), .sh (.int f), .ow (.dic (fd.map encF)), .ow (.lst (fd.map fun x => encP x.1)), .sh (.int k), .sh (.int a), .sh (.int b), s8, s9]
/-- one label further -/
def Succ (g : Gd) (p : Pt) (a : Pr) (l : Str) (b : Pr) : Prop := ∃ n, L2.atI g.nd a.2 = some n ∧ (a.1, l, b.1) ∈ p.rows ∧ tgt n.mv l = some b.2
inductive Path (g : Gd) (p : Pt) (o : Pr) : List Str → Pr → Prop
  | nil : Path g p o [] o
  | snoc {w : List Str} {a b : Pr} {l : Str} : Path g p o w a → Succ g p a l b → Path g p o (w ++ [l]) b
/-- what the search leans on -/
structure Good (g : Gd) (p : Pt) : Prop where
  rows : ∀ r ∈ p.rows, 0 ≤ r.2.2 ∧ r.2.2 < p.n
  mv : ∀ n ∈ g.nd, ∀ x ∈ n.mv, 0 ≤ x.2 ∧ x.2 < g.nd.length
  len : p.rows.length ≤ 2000
  size : p.n * g.nd.length ≤ 30000
def InR (g : Gd) (p : Pt) (q : Pr) : Prop := (0 ≤ q.1 ∧ q.1 < p.n) ∧ 0 ≤ q.2 ∧ q.2 < g.nd.length
theorem InR.node {g : Gd} {p : Pt} {q : Pr} (h : InR g p q) : ∃ n, L2.atI g.nd q.2 = some n ∧ n ∈ g.nd := by
  have hl : q.2.toNat < g.nd.length := by have := h.2; omega
  exact ⟨_, atI_nat (n := q.2.toNat) (by have := h.2; omega) hl, List.getElem_mem hl⟩
theorem tgt_mem {m : List (Str × Int)} {l : Str} {i : Int} (h : tgt m l = some i) : (l, i) ∈ m := by
  unfold tgt at h
  obtain ⟨x, hx, e⟩ := Option.map_eq_some_iff.mp h
  have h1 := List.mem_of_find?_eq_some hx
  have h2 := List.find?_some hx
  simp at h2
  subst h2 e
  exact h1
theorem Succ.inR {g : Gd} {p : Pt} (G : Good g p) {a b : Pr} {l : Str} (h : Succ g p a l b) : InR g p b := by
  obtain ⟨n, h1, h2, h3⟩ := h
  have hn : n ∈ g.nd := by
    unfold L2.atI at h1
    cases z : L2.ixN g.nd.length a.2 with
    | none => rw [z] at h1; cases h1
    | some j => rw [z] at h1; exact List.mem_of_getElem? h1
  exact ⟨G.rows _ h2, G.mv n hn _ (tgt_mem h3)⟩
theorem nodup_len {α : Type} [DecidableEq α] : ∀ (l m : List α), l.Nodup → l ⊆ m → l.length ≤ m.length
  | [], m, _, _ => Nat.zero_le _
  | x :: l, m, h, hs => by
    obtain ⟨h1, h2⟩ := List.nodup_cons.mp h
    have hx : x ∈ m := hs (.head _)
    have := nodup_len l (m.erase x) h2 (fun y hy => (List.mem_erase_of_ne (fun (z : y = x) => h1 (by rw [← z]; exact hy))).mpr (hs (.tail _ hy)))
    rw [List.length_erase_of_mem hx] at this
    have : 0 < m.length := List.length_pos_of_mem hx
    rw [List.length_cons]
    omega
/-- pairs of a box, all different: not too many -/
theorem box_len (A B : Nat) (l : List Pr) (h : l.Nodup) (hb : ∀ q ∈ l, (0 ≤ q.1 ∧ q.1 < A) ∧ 0 ≤ q.2 ∧ q.2 < B) : l.length ≤ A * B := by
  have h1 : (l.map fun q => q.1.toNat * B + q.2.toNat).Nodup := by
    refine List.pairwise_map.mpr (List.Pairwise.imp_of_mem ?_ h)
    intro x y hx hy hne e
    obtain ⟨⟨a1, a2⟩, a3, a4⟩ := hb x hx
    obtain ⟨⟨b1, b2⟩, b3, b4⟩ := hb y hy
    have hB : 0 < B := by omega
    have m1 : (x.1.toNat * B + x.2.toNat) % B = x.2.toNat := by rw [Nat.mul_comm, Nat.mul_add_mod]; exact Nat.mod_eq_of_lt (by omega)
    have m2 : (y.1.toNat * B + y.2.toNat) % B = y.2.toNat := by rw [Nat.mul_comm, Nat.mul_add_mod]; exact Nat.mod_eq_of_lt (by omega)
    have d1 : (x.1.toNat * B + x.2.toNat) / B = x.1.toNat := by rw [Nat.mul_comm, Nat.mul_add_div hB, Nat.div_eq_of_lt (by omega)]; rfl
    have d2 : (y.1.toNat * B + y.2.toNat) / B = y.1.toNat := by rw [Nat.mul_comm, Nat.mul_add_div hB, Nat.div_eq_of_lt (by omega)]; rfl
    rw [e] at m1 d1
    refine hne (Prod.ext ?_ ?_) <;> omega
  have h2 : (l.map fun q => q.1.toNat * B + q.2.toNat) ⊆ List.range (A * B) := by
    intro x hx
    obtain ⟨q, hq, rfl⟩ := List.mem_map.mp hx
    obtain ⟨⟨a1, a2⟩, a3, a4⟩ := hb q hq
    rw [List.mem_range]
    have : q.1.toNat + 1 ≤ A := by omega
    have := Nat.mul_le_mul_right B this
    rw [Nat.add_mul, Nat.one_mul] at this
    omega
  have := nodup_len _ _ h1 h2
  simpa using this
theorem insQ_old {w : List Str} {fd : List (Pr × List Str)} {q : Str × Int × Int} (h : q.2 ∈ fd.map (·.1)) : insQ w fd q = fd := if_pos h
theorem insQ_new {w : List Str} {fd : List (Pr × List Str)} {q : Str × Int × Int} (h : q.2 ∉ fd.map (·.1)) : insQ w fd q = fd ++ [(q.2, w ++ [q.1])] := if_neg h
theorem ins_facts (w : List Str) : ∀ (qs : List (Str × Int × Int)) (fd : List (Pr × List Str)), (fd.map (·.1)).Nodup → ((qs.foldl (insQ w) fd).map (·.1)).Nodup ∧ (∃ ext, qs.foldl (insQ w) fd = fd ++ ext ∧ ∀ x ∈ ext, ∃ q ∈ qs, x = (q.2, w ++ [q.1])) ∧ ∀ q ∈ qs, q.2 ∈ (qs.foldl (insQ w) fd).map (·.1)
  | [], fd, h => ⟨h, ⟨[], by simp, by simp⟩, by simp⟩
  | q :: qs, fd, h => by
    have h1 : ((insQ w fd q).map (·.1)).Nodup := by
      unfold insQ
      split
      · exact h
      · rename_i hq
        rw [List.map_append]
        refine List.nodup_append.mpr ⟨h, by simp, ?_⟩
        intro x hx y hy e
        subst e
        rw [List.map_singleton, List.mem_singleton] at hy
        subst hy
        exact hq hx
    obtain ⟨a, ⟨ext, b1, b2⟩, c⟩ := ins_facts w qs (insQ w fd q) h1
    have hq : q.2 ∈ (insQ w fd q).map (·.1) := by
      unfold insQ
      split
      · assumption
      · simp
    rw [List.foldl_cons]
    refine ⟨a, ?_, fun x hx => ?_⟩
    · by_cases hh : q.2 ∈ fd.map (·.1)
      · rw [insQ_old hh] at b1 ⊢
        refine ⟨ext, b1, fun x hx => ?_⟩
        obtain ⟨y, hy, e⟩ := b2 x hx
        exact ⟨y, .tail _ hy, e⟩
      · rw [insQ_new hh] at b1 ⊢
        refine ⟨(q.2, w ++ [q.1]) :: ext, by rw [b1, List.append_assoc]; rfl, fun x hx => ?_⟩
        rcases List.mem_cons.mp hx with hx | hx
        · exact ⟨q, .head _, hx⟩
        · obtain ⟨y, hy, e⟩ := b2 x hx
          exact ⟨y, .tail _ hy, e⟩
    · rcases List.mem_cons.mp hx with e | hx
      · subst e
        rw [b1, List.map_append]
        exact List.mem_append_left _ hq
      · exact c x hx
def fuG (g : Gd) (p : Pt) (f : Int) (fd : List (Pr × List Str)) (k : Int) (s6 s7 s8 s9 : Slot) : En := [.sh (obGd g), .sh (obPt p), .sh (.int f), .ow (.dic (fd.map encF)), .ow (.lst (fd.map fun x => encP x.1)), .sh (.int k), s6, s7, s8, s9]
def atP (g : Gd) (p : Pt) (q : Pr) (n : Nd) : Prop := L2.atI g.nd q.2 = some n
def FitP (g : Gd) (p : Pt) (q : Pr) : Prop := ∃ n, L2.atI g.nd q.2 = some n ∧ Fit p q.1 n
structure Inv (g : Gd) (p : Pt) (o : Pr) (fd : List (Pr × List Str)) (k : Nat) : Prop where
  nd : (fd.map (·.1)).Nodup
  fst : ∃ r, fd = (o, []) :: r
  path : ∀ x ∈ fd, Path g p o x.2 x.1 ∧ x.2.length ≤ k ∧ InR g p x.1
  done : ∀ (j : Nat) (hj : j < fd.length), j < k → FitP g p fd[j].1 ∧ ∀ l b, Succ g p fd[j].1 l b → b ∈ fd.map (·.1)
  k : k ≤ fd.length
theorem Inv.len {g : Gd} {p : Pt} {o : Pr} {fd : List (Pr × List Str)} {k : Nat} (I : Inv g p o fd k) : fd.length ≤ p.n * g.nd.length := by
  have := box_len p.n g.nd.length (fd.map (·.1)) I.nd (fun q hq => by
    obtain ⟨x, hx, rfl⟩ := List.mem_map.mp hq
    exact (I.path x hx).2.2)
  simpa using this
/-- the partner follows the guide, from f on -/
def AllFit (g : Gd) (p : Pt) (f : Int) : Prop := ∀ w q, Path g p (f, 0) w q → FitP g p q
theorem allFit_of {g : Gd} {p : Pt} {f : Int} {qs : List Pr} (h0 : (f, 0) ∈ qs) (h : ∀ q ∈ qs, FitP g p q ∧ ∀ l b, Succ g p q l b → b ∈ qs) : AllFit g p f := by
  have : ∀ w q, Path g p (f, 0) w q → q ∈ qs := by
    intro w q hp
    induction hp with
    | nil => exact h0
    | snoc _ hs ih => exact (h _ ih).2 _ _ hs
  exact fun w q hp => (h q (this w q hp)).1
theorem sortOk_P (qs : List Pr) : sortOk (qs.map encP) := by
  refine ⟨?_, .inl ?_, ?_⟩
  · rw [List.map_map]; exact PySem.W.AllAlike.of fun _ _ => rfl
  · intro d hd
    rw [List.map_map] at hd
    obtain ⟨x, _, e⟩ := List.mem_map.mp hd
    exact ⟨_, _, e.symm⟩
  · intro d hd
    obtain ⟨x, _, e⟩ := List.mem_map.mp hd
    subst e
    have := dat_of 1 (encP x) (by simp [encP])
    exact ⟨this.1, by omega⟩
theorem all_P : ∀ ds : List D, (∀ x ∈ ds, ∃ q, x = encP q) → ∃ qs : List Pr, ds = qs.map encP
  | [], _ => ⟨[], rfl⟩
  | d :: ds, h => by
    obtain ⟨s, rfl⟩ := h d (.head _)
    obtain ⟨ls, rfl⟩ := all_P ds fun x hx => h x (.tail _ hx)
    exact ⟨s :: ls, rfl⟩
theorem mem_P {qs : List Pr} {q : Pr} : encP q ∈ qs.map encP ↔ q ∈ qs := by
  rw [List.mem_map]
  constructor
  · rintro ⟨x, hx, e⟩
    rw [← encP_inj.mp e]; exact hx
  · exact fun h => ⟨q, h, rfl⟩
theorem sort_P (qs : List Pr) : ∃ rs : List Pr, sortD (qs.map encP) = rs.map encP ∧ (∀ q, q ∈ rs ↔ q ∈ qs) ∧ rs.length = qs.length ∧ sortD (rs.map encP) = rs.map encP := by
  obtain ⟨rs, h⟩ := all_P (sortD (qs.map encP)) fun x hx => by
    obtain ⟨q, _, e⟩ := List.mem_map.mp (sort_mem.mp hx)
    exact ⟨q, e.symm⟩
  refine ⟨rs, h, fun q => ?_, ?_, ?_⟩
  · rw [← mem_P, ← h, sort_mem, mem_P]
  · have := sort_len (qs.map encP)
    rw [h] at this
    simpa using this
  · rw [← h]; exact sort_sort _
theorem chain_ll {ma mb mc : Sx Opd} {e : En} {a b c : Int} (ha : ma e = .ok (.dt (.int a)) e) (hb : mb e = .ok (.dt (.int b)) e) (hc : mc e = .ok (.dt (.int c)) e) : sChain pLe pLt ma mb mc e = .ok (fz (.bl (decide (a ≤ b ∧ b < c)))) e := by
  unfold sChain
  rw [ha, Out.bind_ok, hb, Out.bind_ok]
  by_cases h1 : a ≤ b
  · simp [h1, hc]
  · simp [h1]
/-- a following, as the points say -/
def IsFol (g : Gd) (p : Pt) (qs : List Pr) : Prop := (0, 0) ∈ qs ∧ ∀ q ∈ qs, InR g p q ∧ FitP g p q ∧ ∀ l b, Succ g p q l b → b ∈ qs
theorem pl_P (qs : List Pr) : (qs.map encP).all (plainN 8) = true := by
  rw [List.all_map, List.all_eq_true]
  intro q _
  simp [encP]
theorem pl_P1 (q : Pr) : plainN 8 (encP q) = true := by simp [encP]
open Classical in
theorem in_P (qs : List Pr) (q : Pr) : pInA [encP q, .lst (qs.map encP)] = some (fz (.bl (decide (q ∈ qs)))) := by
  rw [pInA_lst _ _ (pl_P1 q) (pl_P qs)]
  by_cases h : q ∈ qs
  · rw [decide_eq_true h, decide_eq_true (mem_P.mpr h)]
  · rw [decide_eq_false h, decide_eq_false fun z => h (mem_P.mp z)]
open Classical in
theorem nin_P (qs : List Pr) (q : Pr) : pNotInA [encP q, .lst (qs.map encP)] = some (fz (.bl (decide (q ∉ qs)))) := by
  rw [pNotInA_lst _ _ (pl_P1 q) (pl_P qs)]
  by_cases h : q ∈ qs
  · have h2 := mem_P.mpr h
    simp only [h, h2, not_true, decide_false]
  · have h2 : encP q ∉ qs.map encP := fun z => h (mem_P.mp z)
    simp only [h, h2, not_false_eq_true, decide_true]
theorem chain_sl {ma mb mc : Sx Opd} {e : En} {oa ob oc : Opd} {a b c : Int} (ha : ma e = .ok oa e) (hb : mb e = .ok ob e) (hc : mc e = .ok oc e) (ra : res e oa = some (.int a)) (rb : res e ob = some (.int b)) (rc : res e oc = some (.int c)) : sChain pLe pLt ma mb mc e = .ok (fz (.bl (decide (a ≤ b ∧ b < c)))) e := by
  unfold sChain
  rw [ha, Out.bind_ok, hb, Out.bind_ok]
  by_cases h1 : a ≤ b
  · simp [h1, hc, ra, rb, rc]
  · simp [h1, ra, rb]
/-- the rows of a state, one after the other: what comes to the list -/
structure RInv (g : Gd) (p : Pt) (o : Pr) (os : List Pr) : Prop where
  nd : os.Nodup
  fst : o ∈ os
  path : ∀ q ∈ os, (∃ w, Path g p o w q) ∧ InR g p q
def reE (g : Gd) (p : Pt) (f : Int) (os : List Pr) (k : Int) (q : Pr) (s7 s8 : Slot) : En := [.sh (encGd g), .sh (encPt p), .sh (.int f), .ow (.lst (os.map encP)), .sh (.int k), .sh (.int q.1), .sh (.int q.2), s7, s8]
theorem RInv.len {g : Gd} {p : Pt} {o : Pr} {os : List Pr} (I : RInv g p o os) : os.length ≤ p.n * g.nd.length := box_len _ _ os I.nd fun q hq => (I.path q hq).2
def ReI (g : Gd) (p : Pt) (f : Int) (j : Nat) (e : En) : Prop := ∃ os s4 s5 s6 s7 s8, e = [.sh (encGd g), .sh (encPt p), .sh (.int f), .ow (.lst (os.map encP)), s4, s5, s6, s7, s8] ∧ RInv g p (f, 0) os ∧ ∀ i, i < j → ∀ h : i < os.length, FitP g p os[i] ∧ ∀ l b, Succ g p os[i] l b → b ∈ os
theorem slice_P (qs : List Pr) (lo hi : Option Int) : ∃ rs : List Pr, pSlice lo hi (.lst (qs.map encP)) = some (nw (.lst (rs.map encP))) ∧ rs.length ≤ qs.length := by
  refine ⟨(qs.drop (HT.sIx qs.length 0 lo)).take (HT.sIx qs.length qs.length hi - HT.sIx qs.length 0 lo), ?_, ?_⟩
  · unfold pSlice
    simp [List.map_drop, List.map_take]
  · simp
    omega
theorem e_slice {m : Sx Opd} {lo hi : Option (Sx Opd)} {e : En} : sSlice m lo hi e = (m e).bind fun o e => (oPart lo e).bind fun l e => (oPart hi e).bind fun h e => match res e o with
  | some d => (match pSlice l h d with
    | some v => .ok v e
    | none => .stuck)
  | none => .stuck := rfl
theorem e_oPart0 {e : En} : oPart none e = .ok none e := rfl
theorem e_oPart1 {m : Sx Opd} {e : En} : oPart (some m) e = (sArgs [m] e).bind fun ds e => match ds with
    | [.int i] => .ok (some i) e
    | _ => .stuck := rfl
theorem encC_inj {a b : List Str} : encC a = encC b ↔ a = b := by
  constructor
  · intro h
    have h1 : a.map D.str = b.map D.str := D.lst.inj h
    exact (List.map_inj_right (fun x y e => D.str.inj e)).mp h1
  · rintro rfl; rfl
theorem pl_C (c : List Str) : plainN 8 (encC c) = true := by simp [encC]
theorem pl_Cs (cs : List (List Str)) : (cs.map encC).all (plainN 8) = true := by
  rw [List.all_map, List.all_eq_true]
  intro c _
  exact pl_C c
theorem mem_C {cs : List (List Str)} {c : List Str} : encC c ∈ cs.map encC ↔ c ∈ cs := by
  rw [List.mem_map]
  constructor
  · rintro ⟨x, hx, e⟩
    rw [← encC_inj.mp e]; exact hx
  · exact fun h => ⟨c, h, rfl⟩
/-- a part of another clause -/
def Sub' (d c : List Str) : Prop := ∀ x ∈ d, x ∈ c
/-- no clause is a part of another one -/
def Anti (cs : List (List Str)) : Prop := ∀ c ∈ cs, ∀ d ∈ cs, d ≠ c → ¬ Sub' d c
theorem all_C : ∀ ds : List D, (∀ x ∈ ds, ∃ c, x = encC c) → ∃ cs : List (List Str), ds = cs.map encC
  | [], _ => ⟨[], rfl⟩
  | d :: ds, h => by
    obtain ⟨s, rfl⟩ := h d (.head _)
    obtain ⟨ls, rfl⟩ := all_C ds fun x hx => h x (.tail _ hx)
    exact ⟨s :: ls, rfl⟩
theorem alike_strs : ∀ a b : List Str, PySem.W.alikeAll (D.pys (a.map D.str)) (D.pys (b.map D.str)) = true
  | [], _ => rfl
  | _ :: _, [] => rfl
  | x :: a, y :: b => by
    show (true && PySem.W.alikeAll (D.pys (a.map D.str)) (D.pys (b.map D.str))) = true
    rw [alike_strs a b]; rfl
theorem sortOk_C (cs : List (List Str)) : sortOk (cs.map encC) := by
  refine ⟨?_, .inr ?_, ?_⟩
  · rw [List.map_map]; exact PySem.W.AllAlike.of fun a b => alike_strs a b
  · intro d hd
    rw [List.map_map] at hd
    obtain ⟨x, _, e⟩ := List.mem_map.mp hd
    subst e
    exact ⟨PyData.noConfusion, fun _ => PyData.noConfusion⟩
  · intro d hd
    obtain ⟨x, _, e⟩ := List.mem_map.mp hd
    subst e
    have := dat_of 1 (encC x) (by simp [encC])
    exact ⟨this.1, by omega⟩
def faceD (ins outs : List Str) : D := .lst [.lst (encS ins), .lst (encS outs)]
/-- a node as it is drawn -/
structure NdOk (ls : List Str) (N : Nat) (n : Nd) : Prop where
  sub : (n.mv.map (·.1)).Sublist ls
  tg : ∀ x ∈ n.mv, 0 ≤ x.2 ∧ x.2 < N
  fb : n.fb = ls.filter fun l => decide (l ∉ n.mv.map (·.1))
  ne : ∀ c ∈ n.cl, c ≠ [] ∧ c.Sublist (n.mv.map (·.1) ++ [("final" : Str)])
  nd : n.cl.Nodup
  anti : Anti n.cl
  srt : sortD (n.cl.map encC) = n.cl.map encC
  len : n.cl.length ≤ 500
def dgE (row : List Int) (ins outs ls : List Str) (most : Int) (N : Nat) (nds : List Nd) (s6 : Slot) (mv : List (Str × Int)) (mine : List Str) (cs : List (List Str)) (s10 s11 : Slot) (a : Int) : En :=
  [.bx (boxD row a), .sh (faceD ins outs), .sh (.int most), .ow (.lst (encS ls)), .sh (.int N), .ow (.lst (nds.map encNd)), s6, .ow (.lst (mv.map encMv)), .ow (.lst (encS mine)), .ow (.lst (cs.map encC)), s10, s11, .unb, .unb, .unb, .unb]
/-- the clauses that are drawn at a node -/
def ClI (row : List Int) (ins outs ls : List Str) (most : Int) (N : Nat) (nds : List Nd) (s6 : Slot) (mv : List (Str × Int)) (mine : List Str) (j : Nat) (e : En) : Prop :=
  ∃ cs s10 s11 a, e = dgE row ins outs ls most N nds s6 mv mine cs s10 s11 a ∧ 0 ≤ a ∧ cs.length ≤ j ∧ ∀ c ∈ cs, c ≠ [] ∧ c.Sublist (mine ++ [("final" : Str)])
/-- the nodes so far -/
def ndE (row : List Int) (ins outs ls : List Str) (most : Int) (N : Nat) (nds : List Nd) (s6 s7 s8 s9 s10 s11 : Slot) (a : Int) : En :=
  [.bx (boxD row a), .sh (faceD ins outs), .sh (.int most), .ow (.lst (encS ls)), .sh (.int N), .ow (.lst (nds.map encNd)), s6, s7, s8, s9, s10, s11, .unb, .unb, .unb, .unb]
theorem chain_of {p q : List D → Option Vl} {ma mb mc : Sx Opd} {e : En} {a b c : Opd} {da db dc : D} {r1 r2 : Bool} (ha : ma e = .ok a e) (hb : mb e = .ok b e) (hc : mc e = .ok c e) (ra : res e a = some da) (rb : res e b = some db) (rc : res e c = some dc)
    (h1 : p [da, db] = some (fz (.bl r1))) (h2 : q [db, dc] = some (fz (.bl r2))) : sChain p q ma mb mc e = .ok (fz (.bl (r1 && r2))) e := by
  unfold sChain
  rw [ha, Out.bind_ok, hb, Out.bind_ok]
  simp only [e_ress1, e_ress0, ra, rb]
  rw [h1]
  cases r1
  · rfl
  · show (mc e).bind _ = _
    rw [hc, Out.bind_ok]
    simp only [e_ress1, e_ress0, rb, rc, h2, Bool.true_and]
def ltS (a b : Str) : Bool := decide (a.cps.toList < b.cps.toList)
def asc {α : Type} (lt : α → α → Bool) (l : List α) : Bool := (l.zip (l.drop 1)).all fun p => lt p.1 p.2
def ascS (l : List Str) : Bool := asc ltS l
def ascI (l : List Int) : Bool := asc (fun a b => decide (a < b)) l
theorem slice1 (ds : List D) : pSlice (some 1) none (.lst ds) = some (nw (.lst (ds.drop 1))) := by
  show some (nw (.lst ((ds.drop (HT.sIx ds.length 0 (some 1))).take (ds.length - HT.sIx ds.length 0 (some 1))))) = _
  have : HT.sIx ds.length 0 (some 1) = min 1 ds.length := HT.sIx_nat _ _ 1
  rw [this, List.take_of_length_le (by simp)]
  cases ds <;> simp
theorem zip_map2 {α : Type} (enc : α → D) (xs ys : List α) : zipItems (xs.map enc) (ys.map enc) = (xs.zip ys).map fun p => D.tup [enc p.1, enc p.2] := by
  unfold zipItems
  rw [List.zip_map, List.map_map]
  rfl
theorem is_asc_gen {α : Type} (enc : α → D) (lt : α → α → Bool) (h : ∀ a b, pLt [enc a, enc b] = some (fz (.bl (lt a b)))) (xs : List α) : F_is_ascending [.lst (xs.map enc)] = .ok (fz (.bl (asc lt xs))) := by
  have a := sComp_map (vs := [1, 2]) (tg := .many [1, 2]) (s := sZip (oName 0) (oVal (sSlice (oName 0) (some (oVal (sC (.int 1)))) none))) (el := oVal (sPrim pLt [oName 1, oName 2])) (e := [.sh (.lst (xs.map enc)), .unb, .unb]) (ck := some (0, .lst (xs.map enc))) (fun p : α × α => D.tup [enc p.1, enc p.2]) (xs.zip (xs.drop 1)) (fun p => .bl (lt p.1 p.2)) (by
     have := slice1 (xs.map enc)
     rw [← List.map_drop] at this
     simp [sZip, e_slice, e_oPart0, e_oPart1, this, -List.drop_one]
     rw [← List.map_drop]
     exact zip_map2 enc xs _) rfl rfl (fun x hx => ⟨_, rfl, by simp [h]⟩)
  simp only [F_is_ascending, runF, t_is_ascending, startE]
  simp at a
  simp [a, asc]
theorem asc_S (l : List Str) : F_is_ascending [.lst (encS l)] = .ok (fz (.bl (ascS l))) := is_asc_gen D.str ltS (fun a b => pLt_str) l
theorem asc_I (l : List Int) : F_is_ascending [.lst (encI l)] = .ok (fz (.bl (ascI l))) := is_asc_gen D.int _ (fun a b => pLt_int) l
@[simp] theorem isi_int_int {i : Int} : pIsi (fIsi "int") [.int i] = some (fz (.bl true)) := rfl
@[simp] theorem isi_bool_int {i : Int} : pIsi (fIsi "bool") [.int i] = some (fz (.bl false)) := rfl
@[simp] theorem isi_bool_bl {i : Bool} : pIsi (fIsi "bool") [.bl i] = some (fz (.bl true)) := rfl
@[simp] theorem isi_str_str {i : Str} : pIsi (fIsi "str") [.str i] = some (fz (.bl true)) := rfl
@[simp] theorem isi_list_lst {l : List D} : pIsi (fIsi "list") [.lst l] = some (fz (.bl true)) := rfl
@[simp] theorem isi_tuple_tup {l : List D} : pIsi (fIsi "tuple") [.tup l] = some (fz (.bl true)) := rfl
def inB (i m : Int) : Bool := decide (0 ≤ i) && decide (i ≤ m)
theorem is_number_ok (i m : Int) : F_is_number [.int i, .int m] = .ok (fz (.bl (inB i m))) := by
  have c := chain_of (p := pLe) (q := pLe) (ma := oVal (sC (.int 0))) (mb := oName 0) (mc := oName 1) (e := [.sh (.int i), .sh (.int m)]) (a := .dt (.int 0)) (b := .sl 0) (c := .sl 1) rfl rfl rfl rfl rfl rfl pLe_int pLe_int
  simp only [F_is_number, runF, t_is_number, startE]
  simp
  rw [c]
  rfl
abbrev letters : Str := "abcdefghijklmnopqrstuvwxyz"
def msgB (m : Str) : Bool := decide (1 ≤ m.length) && decide (m.length ≤ 8) && m.cps.toList.all fun c => decide (c ∈ letters.cps.toList)
theorem in_one (c : Nat) (z : Str) : pInA [.str ⟨#[c]⟩, .str z] = some (fz (.bl (decide (c ∈ z.cps.toList)))) := rfl
theorem is_message_ok (m : Str) : F_is_message [.str m] = .ok (fz (.bl (msgB m))) := by
  have c := chain_of (p := pLe) (q := pLe) (ma := oVal (sC (.int 1))) (mb := oVal (sPrim pLenA [oName 0])) (mc := oVal (sC (.int 8))) (e := [.sh (.str m), .unb]) (a := .dt (.int 1)) (b := .dt (.int m.length)) (c := .dt (.int 8)) rfl rfl rfl rfl rfl rfl pLe_int pLe_int
  have a := sComp_map (vs := [1]) (tg := .one 1) (s := sSeq (oName 0)) (el := oVal (sPrim pInA [oName 1, oVal (sC (.str letters))])) (e := [.sh (.str m), .unb]) (ck := none) (fun c : Nat => D.str ⟨#[c]⟩) m.cps.toList (fun c => .bl (decide (c ∈ letters.cps.toList))) (by
     simp [signs]) rfl trivial (fun x hx => ⟨_, rfl, by simp [in_one]⟩)
  simp only [F_is_message, runF, t_is_message, startE]
  have e1 : (decide ((1 : Int) ≤ (m.length : Int)) && decide ((m.length : Int) ≤ 8)) = (decide (1 ≤ m.length) && decide (m.length ≤ 8)) := by
    congr 1 <;> (apply decide_eq_decide.mpr; omega)
  rw [e1] at c
  unfold msgB
  simp at a
  simp
  rw [c]
  cases hb : (decide (1 ≤ m.length) && decide (m.length ≤ 8))
  · simp
  · simp [a]
def msgsB (l : List Str) : Bool := decide (l.length ≤ 3) && l.all msgB && ascS l
theorem are_messages_ok (l : List Str) : F_u_are_messages [.lst (encS l)] = .ok (fz (.bl (msgsB l))) := by
  have a := sComp_map (vs := [1]) (tg := .one 1) (s := sSeq (oName 0)) (el := oVal (sCall [false] F_is_message [oVal (sName 1)])) (e := [.sh (.lst (encS l)), .unb]) (ck := some (0, .lst (encS l))) D.str l (fun m => .bl (msgB m)) (by
     simp) rfl rfl (fun x hx => ⟨_, rfl, by simp [is_message_ok]⟩)
  have b := asc_S l
  unfold msgsB
  have h1 : (Ev.tOr (Ev.tNot (tVal (oVal (sPrim (pIsi (fIsi "list")) [oName 0])))) (tBool (sPrim pGt [oVal (sPrim pLenA [oName 0]), oVal (sC (.int 3))]))) [.sh (.lst (encS l)), .unb] = .ok (!decide (l.length ≤ 3)) [.sh (.lst (encS l)), .unb] := by
    simp
    by_cases h : l.length ≤ 3
    · have h' : ¬ (3 : Int) < l.length := by omega
      simp [h, h']
    · have h' : (3 : Int) < l.length := by omega
      simp [h, h']
  refine runF_rt (e := [.sh (.lst (encS l)), .unb]) ?_
  show t_u_are_messages [.sh (.lst (encS l)), .unb] = _
  unfold t_u_are_messages
  by_cases h : l.length ≤ 3
  · rw [decide_eq_true h] at h1 ⊢
    refine guard_f h1 (ret_rt ?_)
    rw [Bool.true_and]
    refine sAnd_b (prim1 (oVal_of a) rfl (pAll_map _ _)) fun _ => ?_
    simp only [encS] at b ⊢
    simp [b]
  · rw [decide_eq_false h] at h1 ⊢
    exact guard_t h1 rfl
def finB (l : List Int) (n : Int) : Bool := (l.all fun i => inB i (n - 1)) && ascI l
theorem are_final_ok (l : List Int) (n : Int) : F_u_are_final [.lst (encI l), .int n] = .ok (fz (.bl (finB l n))) := by
  have a := sComp_map (vs := [2]) (tg := .one 2) (s := sSeq (oName 0)) (el := oVal (sCall [false, false] F_is_number [oVal (sName 2), oVal (sPrim pSub [oName 1, oVal (sC (.int 1))])])) (e := [.sh (.lst (encI l)), .sh (.int n), .unb]) (ck := some (0, .lst (encI l))) D.int l (fun m => .bl (inB m (n - 1))) (by
     simp [encI]) rfl rfl (fun x hx => ⟨_, rfl, by simp [is_number_ok]⟩)
  have b := asc_I l
  unfold finB
  refine runF_rt (e := [.sh (.lst (encI l)), .sh (.int n), .unb]) ?_
  show t_u_are_final [.sh (.lst (encI l)), .sh (.int n), .unb] = _
  unfold t_u_are_final
  have hp : sPrim pAll [oVal (sComp [2] (.one 2) (sSeq (oName 0)) tTrue (oVal (sCall [false, false] F_is_number [oVal (sName 2), oVal (sPrim pSub [oName 1, oVal (sC (.int 1))])])))] [.sh (.lst (encI l)), .sh (.int n), .unb] = .ok (fz (.bl (l.all fun i => inB i (n - 1)))) [.sh (.lst (encI l)), .sh (.int n), .unb] := prim1 (oVal_of a) rfl (pAll_map _ _)
  have h1 : Ev.tNot (tVal (oVal (sPrim (pIsi (fIsi "list")) [oName 0]))) [.sh (.lst (encI l)), .sh (.int n), .unb] = .ok false [.sh (.lst (encI l)), .sh (.int n), .unb] := by simp
  cases hB : l.all fun i => inB i (n - 1)
  · rw [hB] at hp
    exact guard_t (tOr_f h1 (tNot_of (tVal_b hp))) rfl
  · rw [hB] at hp
    refine guard_f (tOr_f h1 (tNot_of (tVal_b hp))) (ret_rt ?_)
    simp [b]
abbrev Rw := Int × Str × Int
def rowB (n : Int) (r : Rw) : Bool := inB r.1 (n - 1) && inB r.2.2 (n - 1)
theorem encRow_inj {a b : Rw} : encRow a = encRow b ↔ a = b := by
  obtain ⟨a1, a2, a3⟩ := a
  obtain ⟨b1, b2, b3⟩ := b
  simp [encRow]
theorem trans_step (rows : List Rw) (n m : Int) (r : Rw) (s3 : Slot) : (rowB n r = true → ∃ e2, b0_u_are_transitions [.sh (.lst (rows.map encRow)), .sh (.int n), .sh (.int m), .sh (encRow r)] = .nx e2 ∧ e2 = [.sh (.lst (rows.map encRow)), .sh (.int n), .sh (.int m), .sh (encRow r)]) ∧
    (¬ rowB n r = true → ∃ e2, b0_u_are_transitions [.sh (.lst (rows.map encRow)), .sh (.int n), .sh (.int m), .sh (encRow r)] = .rt (fz (.bl false)) e2) := by
  obtain ⟨a, l, b⟩ := r
  have h1 := is_number_ok a (n - 1)
  have h2 := is_number_ok b (n - 1)
  unfold rowB
  simp only [b0_u_are_transitions]
  cases ha : inB a (n - 1)
  · rw [ha] at h1
    simp [encRow, h1]
  · rw [ha] at h1
    cases hb : inB b (n - 1)
    · rw [hb] at h2
      simp [encRow, h1, h2]
    · rw [hb] at h2
      simp [encRow, h1, h2]
theorem keys_nodup_iff (ks : List D) : (dfold (ks.map fun k => (k, D.bl true)) []).length = ks.length ↔ ks.Nodup := by
  have hk : ∀ x, x ∈ (dfold (ks.map fun k => (k, D.bl true)) []).map (·.1) ↔ x ∈ ks := fun x => by
    rw [dfold_keys]; simp
  have hn := dfold_nodup (ks.map fun k => (k, D.bl true)) [] (by simp)
  constructor
  · intro h
    have hp : ((dfold (ks.map fun k => (k, D.bl true)) []).map (·.1)).length = ks.length := by rw [List.length_map, h]
    generalize (dfold (ks.map fun k => (k, D.bl true)) []).map (·.1) = K at hk hn hp
    clear h
    classical
    by_cases q : ks.Nodup
    · exact q
    · exfalso
      -- a list with a double is longer than its set
      have : ∀ (ks K : List D), K.Nodup → (∀ x ∈ K, x ∈ ks) → ¬ ks.Nodup → K.length < ks.length := by
        intro ks
        induction ks with
        | nil => intro K _ _ h; exact absurd List.nodup_nil h
        | cons y ys ih =>
          intro K hK hs hn
          rw [List.nodup_cons] at hn
          by_cases hy : y ∈ ys
          · have : K.length ≤ ys.length := nodup_len K ys hK fun x hx => by
              rcases List.mem_cons.mp (hs x hx) with z | z
              · subst z; exact hy
              · exact z
            rw [List.length_cons]; omega
          · have hny : ¬ ys.Nodup := fun z => hn ⟨hy, z⟩
            have := ih (K.erase y) (hK.erase y) (fun x hx => by
              have h1 := (List.Nodup.mem_erase_iff hK).mp hx
              rcases List.mem_cons.mp (hs x h1.2) with z | z
              · exact absurd z h1.1
              · exact z) hny
            have h2 := List.length_erase (a := y) (l := K)
            rw [List.length_cons]
            split at h2 <;> omega
      have := this ks K hn (fun x hx => (hk x).mp hx) q
      omega
  · intro h
    have : dfold (ks.map fun k => (k, D.bl true)) [] = [] ++ ks.map fun k => (k, D.bl true) := dfold_new _ [] (by simpa [Function.comp_def] using h)
    rw [this]
    simp
/-- what may be hidden -/
def hid1 : Slot → Bool
  | .unb => true
  | .sh _ => true
  | _ => false
def rowsB (rows : List Rw) (n m : Int) : Bool := decide ((rows.length : Int) ≤ m) && (rows.all (rowB n) && decide rows.Nodup)
theorem are_transitions_ok (rows : List Rw) (n m : Int) (hl : rows.length ≤ 5000) : F_u_are_transitions [.lst (rows.map encRow), .int n, .int m] = .ok (fz (.bl (rowsB rows n m))) := by
  have hs := sFor_of (tg := .one 3) (b := b0_u_are_transitions) (s := sSeq (oVal (sName 0))) (e := [.sh (.lst (rows.map encRow)), .sh (.int n), .sh (.int m), .unb]) (e1 := [.sh (.lst (rows.map encRow)), .sh (.int n), .sh (.int m), .unb]) (src := ⟨rows.map encRow, none⟩) (by simp) rfl
  have hl := forGo_all (tg := .one 3) (b := b0_u_are_transitions) (v := fz (.bl false)) encRow (fun r => rowB n r = true) (fun e => ∃ s3, hid1 s3 = true ∧ e = [.sh (.lst (rows.map encRow)), .sh (.int n), .sh (.int m), s3]) rows _ ⟨.unb, rfl, rfl⟩ (fun r hr e ⟨s3, hs3, he⟩ => by
    subst he
    refine ⟨_, rfl, fun z => ?_, (trans_step rows n m r s3).2⟩
    obtain ⟨e2, g1, g2⟩ := (trans_step rows n m r s3).1 z
    exact ⟨e2, g1, _, rfl, g2⟩)
  have a : ∀ s3, hid1 s3 = true → sDComp [3] (.one 3) (sSeq (oName 0)) tTrue (oVal (sName 3)) (oVal (sC (.bl true))) [.sh (.lst (rows.map encRow)), .sh (.int n), .sh (.int m), s3] = .ok (nw (.dic (dfold ((rows.map encRow).map fun k => (k, D.bl true)) []))) [.sh (.lst (rows.map encRow)), .sh (.int n), .sh (.int m), s3] := fun s3 hs3 => by
    have := sDComp_pure true (vs := [3]) (tg := .one 3) (s := sSeq (oName 0)) (t := tTrue) (mk := oVal (sName 3)) (mv := oVal (sC (.bl true))) (e := [.sh (.lst (rows.map encRow)), .sh (.int n), .sh (.int m), s3]) encRow rows (fun _ => true) encRow (fun _ => .bl true) (ck := some (0, .lst (rows.map encRow))) (by simp) (by cases s3 <;> first | rfl | cases hs3) rfl (by omega) (fun x hx => ⟨_, rfl, rfl, fun _ => ⟨by simp, by simp, by obtain ⟨x1, x2, x3⟩ := x; rfl⟩⟩)
    rw [List.filter_eq_self.mpr fun _ _ => rfl] at this
    rw [List.map_map]
    exact this
  have hk := keys_nodup_iff (rows.map encRow)
  have hnd : (rows.map encRow).Nodup ↔ rows.Nodup := by
    constructor
    · intro h
      exact (List.pairwise_map.mp h).imp fun q e => q (by rw [e])
    · intro h
      exact List.pairwise_map.mpr (h.imp fun q e => q (encRow_inj.mp e))
  rw [hnd, List.length_map] at hk
  simp only [F_u_are_transitions, runF, t_u_are_transitions, startE]
  simp at hs
  unfold rowsB
  by_cases h : (rows.length : Int) ≤ m
  · have h' : ¬ m < rows.length := by omega
    rcases hl with ⟨z1, e', z2, s3, hs3, rfl⟩ | ⟨⟨q, z1, z2⟩, e', z3⟩
    · have z1' : rows.all (rowB n) = true := List.all_eq_true.mpr z1
      have e1 : decide (((dfold ((rows.map encRow).map fun k => (k, D.bl true)) []).length : Int) = (rows.length : Int)) = decide rows.Nodup := by
        apply decide_eq_decide.mpr
        rw [← hk]
        omega
      simp [h, h', hs, z2, z1', a s3 hs3]
      simp at e1
      simp [e1]
    · have z1' : rows.all (rowB n) = false := by
        cases z : rows.all (rowB n) with
        | false => rfl
        | true => exact absurd (List.all_eq_true.mp z q z1) z2
      simp [h, h', hs, z3, z1']
  · have h' : m < rows.length := by omega
    simp [h, h']
def shapeB (n most : Int) (rows : List Rw) (mostT : Int) (fin : List Int) : Bool := inB n most && (decide (1 ≤ n) && (rowsB rows n mostT && finB fin n))
theorem is_shape_ok (n most : Int) (rows : List Rw) (mostT : Int) (fin : List Int) (hl : rows.length ≤ 5000) : F_u_is_shape [.int n, .int most, .lst (rows.map encRow), .int mostT, .lst (encI fin)] = .ok (fz (.bl (shapeB n most rows mostT fin))) := by
  have h1 := is_number_ok n most
  have h2 := are_transitions_ok rows n mostT hl
  have h3 := are_final_ok fin n
  simp only [F_u_is_shape, runF, t_u_is_shape, startE]
  unfold shapeB
  cases q1 : inB n most
  · rw [q1] at h1
    simp [h1]
  · rw [q1] at h1
    by_cases q2 : 1 ≤ n
    · have q2' : ¬ n < 1 := by omega
      cases q3 : rowsB rows n mostT
      · rw [q3] at h2
        simp [h1, q2, q2', h2]
      · rw [q3] at h2
        simp [h1, q2, q2', h2, h3]
    · have q2' : n < 1 := by omega
      simp [h1, q2, q2']
def encT (c : List Str) : D := .tup (encS c)
theorem encT_inj {a b : List Str} : encT a = encT b ↔ a = b := by
  constructor
  · intro h
    have h1 : a.map D.str = b.map D.str := D.tup.inj h
    exact (List.map_inj_right (fun x y e => D.str.inj e)).mp h1
  · rintro rfl; rfl
theorem mem_T {cs : List (List Str)} {c : List Str} : encT c ∈ cs.map encT ↔ c ∈ cs := by
  rw [List.mem_map]
  constructor
  · rintro ⟨x, hx, e⟩
    rw [← encT_inj.mp e]; exact hx
  · exact fun h => ⟨c, h, rfl⟩
theorem pl_T (c : List Str) : plainN 8 (encT c) = true := by simp [encT]
theorem leD_TC (c d : List Str) : leD (encT c) (encT d) = leD (encC c) (encC d) := rfl
theorem all_T : ∀ ds : List D, (∀ x ∈ ds, ∃ c, x = encT c) → ∃ cs : List (List Str), ds = cs.map encT
  | [], _ => ⟨[], rfl⟩
  | d :: ds, h => by
    obtain ⟨s, rfl⟩ := h d (.head _)
    obtain ⟨ls, rfl⟩ := all_T ds fun x hx => h x (.tail _ hx)
    exact ⟨s :: ls, rfl⟩
theorem sortOk_T (cs : List (List Str)) (h : ∀ c ∈ cs, c ≠ []) : sortOk (cs.map encT) := by
  refine ⟨?_, .inl ?_, ?_⟩
  · rw [List.map_map]; exact PySem.W.AllAlike.of fun a b => alike_strs a b
  · intro d hd
    rw [List.map_map] at hd
    obtain ⟨x, hx, e⟩ := List.mem_map.mp hd
    subst e
    cases x with
    | nil => exact absurd rfl (h _ hx)
    | cons y ys => exact ⟨_, _, rfl⟩
  · intro d hd
    obtain ⟨x, _, e⟩ := List.mem_map.mp hd
    subst e
    have := dat_of 1 (encT x) (by simp [encT])
    exact ⟨this.1, by omega⟩
/-- the clauses without another one as a part, sorted -/
def MinOf (raw ks : List (List Str)) : Prop := ks.Nodup ∧ sortD (ks.map encC) = ks.map encC ∧ ∀ c, c ∈ ks ↔ c ∈ raw ∧ ∀ d ∈ raw, d ≠ c → ¬ Sub' d c
theorem sort_TC {ks : List (List Str)} (h : sortD (ks.map encT) = ks.map encT) : sortD (ks.map encC) = ks.map encC := by
  refine sort_of ?_
  have := List.pairwise_map.mp (sorted_pw h)
  exact List.pairwise_map.mpr this
/-- clauses that are as they are to be come out as they are -/
theorem MinOf.self {cl ks : List (List Str)} (h : MinOf cl ks) (nd : cl.Nodup) (an : Anti cl) (st : sortD (cl.map encC) = cl.map encC) : ks = cl := by
  have : ks.map encC = cl.map encC := sort_unique (fun a ha => by obtain ⟨c, _, rfl⟩ := List.mem_map.mp ha; exact pl_C c) (fun a ha => by obtain ⟨c, _, rfl⟩ := List.mem_map.mp ha; exact pl_C c)
    (fun a ha b hb => by
      obtain ⟨c, _, rfl⟩ := List.mem_map.mp ha
      obtain ⟨d, _, rfl⟩ := List.mem_map.mp hb
      exact alike_strs c d)
    (List.pairwise_map.mpr (h.1.imp fun q e => q (encC_inj.mp e))) (List.pairwise_map.mpr (nd.imp fun q e => q (encC_inj.mp e))) (sorted_pw h.2.1) (sorted_pw st) (fun a => by
      constructor
      · intro ha
        obtain ⟨c, hc, rfl⟩ := List.mem_map.mp ha
        exact mem_C.mpr ((h.2.2 c).mp hc).1
      · intro ha
        obtain ⟨c, hc, rfl⟩ := List.mem_map.mp ha
        exact mem_C.mpr ((h.2.2 c).mpr ⟨hc, an c hc⟩))
  exact (List.map_inj_right (fun x y e => encC_inj.mp e)).mp this
/-- what stands ahead of a final at the end -/
def rest (c : List Str) : List Str := if c.getLast? = some ("final" : Str) then c.dropLast else c
def clauseB (c ls : List Str) : Bool := decide (c ≠ []) && ((rest c).all (fun l => decide (l ∈ ls)) && ascS (rest c))
theorem slice_neg1 (ds : List D) (x : D) : pSlice none (some (-1)) (.lst (ds ++ [x])) = some (nw (.lst ds)) := by
  have h : HT.sIx (ds ++ [x]).length (ds ++ [x]).length (some (-1)) = ds.length := by
    unfold HT.sIx
    simp
    omega
  have h2 : pSlice none (some (-1)) (.lst (ds ++ [x])) = some (nw (.lst (((ds ++ [x]).drop 0).take (HT.sIx (ds ++ [x]).length (ds ++ [x]).length (some (-1)) - 0)))) := rfl
  rw [h2, h]
  simp
def mvB (N : Int) (x : Str × Int) : Bool := inB x.2 (N - 1)
def movesB (mv : List (Str × Int)) (N : Int) : Bool := mv.all (mvB N) && ascS (mv.map (·.1))
noncomputable abbrev sortS (l : List Str) : List Str := sortE D.str l
theorem encS_inj {a b : List Str} : encS a = encS b ↔ a = b := map_inj fun _ _ e => D.str.inj e
theorem pl_S (l : List Str) : plainN 8 (.lst (encS l)) = true := by simp
/-- a node as a guide wants it -/
def NodeGood (n : Nd) (ls : List Str) (N : Int) : Prop := movesB n.mv N = true ∧ ascS n.fb = true ∧ sortS (n.mv.map (·.1) ++ n.fb) = ls ∧ (∀ c ∈ n.cl, clauseB c (n.mv.map (·.1)) = true) ∧ n.cl.Nodup ∧ Anti n.cl ∧ sortD (n.cl.map encC) = n.cl.map encC
@[simp] theorem isi_node (n : Nd) : pIsiO "Node" [obNd n] = some (fz (.bl true)) := by
  unfold obNd pIsiO
  simp
structure Sv where
  ins : List Str
  outs : List Str
  n : Int
  rows : List Rw
  fin : List Int
def obSv (s : Sv) : D := .obj "Service" [("inputs", .lst (encS s.ins)), ("outputs", .lst (encS s.outs)), ("states", .int s.n), ("transitions", .lst (s.rows.map encRow)), ("final", .lst (encI s.fin))]
def labS (ins outs : List Str) : List Str := [("tau" : Str)] ++ ins.map (("?" : Str) ++ ·) ++ outs.map (("!" : Str) ++ ·)
def svB (s : Sv) : Bool := msgsB s.ins && (msgsB s.outs && (!(s.ins.any fun m => decide (m ∈ s.outs)) && (shapeB s.n 12 s.rows 60 s.fin && s.rows.all fun r => decide (r.2.1 ∈ labS s.ins s.outs))))
theorem msgB_len {m : Str} (h : msgB m = true) : m.length ≤ 8 := by
  unfold msgB at h
  simp at h
  exact h.1.2
theorem msgsB_len {l : List Str} (h : msgsB l = true) : l.length ≤ 3 ∧ ∀ m ∈ l, m.length ≤ 8 := by
  unfold msgsB at h
  simp only [Bool.and_eq_true, decide_eq_true_eq, List.all_eq_true] at h
  exact ⟨h.1.1, fun m hm => msgB_len (h.1.2 m hm)⟩
theorem sortOk_rows (rows : List Rw) : sortOk (rows.map encRow) := by
  refine ⟨?_, .inl ?_, ?_⟩
  · rw [List.map_map]; exact PySem.W.AllAlike.of fun _ _ => rfl
  · intro d hd
    rw [List.map_map] at hd
    obtain ⟨x, _, e⟩ := List.mem_map.mp hd
    exact ⟨_, _, e.symm⟩
  · intro d hd
    obtain ⟨x, _, e⟩ := List.mem_map.mp hd
    subst e
    have := dat_of 1 (encRow x) (by simp [encRow])
    exact ⟨this.1, by omega⟩
theorem shape_len {n most : Int} {rows : List Rw} {mostT : Int} {fin : List Int} (h : shapeB n most rows mostT fin = true) : (rows.length : Int) ≤ mostT := by
  unfold shapeB rowsB at h
  simp only [Bool.and_eq_true, decide_eq_true_eq] at h
  exact h.2.2.1.1
@[simp] theorem f_sins (s : Sv) : pFld at_ "inputs" [obSv s] = some (fz (.lst (encS s.ins))) := pFld_of (by decide) (by rfl)
@[simp] theorem f_souts (s : Sv) : pFld at_ "outputs" [obSv s] = some (fz (.lst (encS s.outs))) := pFld_of (by decide) (by rfl)
def labL (ins outs : List Str) : List Str := ins.map (("!" : Str) ++ ·) ++ outs.map (("?" : Str) ++ ·)
theorem e_make {c : Str} {modes : List Bool} {f : D → List D → ResB} {ms : List (Sx Opd)} {e : En} : sMake c modes f ms e = (sOps ms e).bind fun os e => if okModes modes os = true then (match ress e os with
  | some ds => (match f (.obj c []) ds with
    | .ok v d' => (match v.d with
      | .non => .ok (nw d') e
      | _ => .stuck)
    | .exc x => .exc x e
    | .stuck => .stuck)
  | none => .stuck) else .stuck := rfl
structure GoodG (g : Gd) : Prop where
  ins : msgsB g.ins = true
  outs : msgsB g.outs = true
  dis : ∀ m ∈ g.ins, m ∉ g.outs
  len : g.nd.length ≤ 60
  nodes : ∀ n ∈ g.nd, NodeGood n (labL g.ins g.outs) g.nd.length
  sm : ∀ n ∈ g.nd, n.mv.length ≤ 5000 ∧ n.fb.length ≤ 5000 ∧ n.cl.length ≤ 5000
def labelB (l : Str) : Bool := decide (L2.cutS l none (some 1) ∈ [("!" : Str), "?"]) && msgB (L2.cutS l (some 1) none)
theorem is_label_ok (l : Str) : F_is_label [.str l] = .ok (fz (.bl (labelB l))) := by
  have hin : pInA [.str (L2.cutS l none (some 1)), .tup [.str "!", .str "?"]] = some (fz (.bl (decide (L2.cutS l none (some 1) ∈ [("!" : Str), "?"])))) := by
    have h2 : pIn [.str (L2.cutS l none (some 1)), .tup (encS [("!" : Str), "?"])] = some (fz (.bl (decide (L2.cutS l none (some 1) ∈ [("!" : Str), "?"])))) := by
      have h3 : pIn [.str (L2.cutS l none (some 1)), .tup (encS [("!" : Str), "?"])] = if (D.flat (.str (L2.cutS l none (some 1))) && (encS [("!" : Str), "?"]).all D.flat) = true then some (fz (.bl ((encS [("!" : Str), "?"]).any fun z => pyEq z (.str (L2.cutS l none (some 1)))))) else none := rfl
      rw [h3, if_pos (by rfl), any_eq (n := 8) (.str _) (by simp) (encS [("!" : Str), "?"]) (by simp)]
      simp
    unfold pInA orP
    have e1 : (.tup [.str "!", .str "?"] : D) = .tup (encS [("!" : Str), "?"]) := rfl
    rw [e1, h2]
  have m := is_message_ok (L2.cutS l (some 1) none)
  refine runF_of (show Rt t_is_label [.sh (.str l)] _ from Rt.ret ?_)
  have g1 : sPrim pInA [oVal (sSlice (oName 0) none (some (oVal (sC (.int 1))))), oVal (sTup [oVal (sC (.str "!")), oVal (sC (.str "?"))])] [.sh (.str l)] = .ok (fz (.bl (decide (L2.cutS l none (some 1) ∈ [("!" : Str), "?"])))) [.sh (.str l)] := by
    refine prim2 (o := .dt (.str (L2.cutS l none (some 1)))) (o2 := .dt (.tup [.str "!", .str "?"])) (e1 := [.sh (.str l)]) ?_ ?_ rfl rfl hin
    · rfl
    · simp
  have hA := Vo.and (m := sPrim pInA [oVal (sSlice (oName 0) none (some (oVal (sC (.int 1))))), oVal (sTup [oVal (sC (.str "!")), oVal (sC (.str "?"))])]) (n := sCall [false] F_is_message [oVal (sSlice (oName 0) (some (oVal (sC (.int 1)))) none)]) g1 (y := msgB (L2.cutS l (some 1) none)) fun _ => Vo.of (call1 (d1 := .str (L2.cutS l (some 1) none)) (e1 := [.sh (.str l)]) rfl m)
  obtain ⟨e', hA⟩ := hA
  exact ⟨e', sAnd_t (e1 := [.sh (.str l)]) rfl hA⟩
def ptB (p : Pt) : Bool := shapeB p.n 300 p.rows 2000 p.fin && p.rows.all fun r => labelB r.2.1
@[simp] theorem hat_partner : ∀ f, f = ("states" : Str) ∨ f = "transitions" ∨ f = "final" → at_ "Partner" f = true := by
  rintro f (rfl | rfl | rfl) <;> decide
theorem asc_of {α : Type} {lt : α → α → Bool} : ∀ {l : List α}, l.Pairwise (fun a b => lt a b = true) → asc lt l = true
  | [], _ => rfl
  | [_], _ => rfl
  | a :: b :: l, h => by
    have ih := asc_of (lt := lt) (l := b :: l) (List.Pairwise.of_cons h)
    unfold asc at ih ⊢
    have h1 : lt a b = true := List.rel_of_pairwise_cons h (.head _)
    simp only [List.drop_succ_cons, List.drop_zero, List.zip_cons_cons, List.all_cons] at ih ⊢
    rw [h1, Bool.true_and]
    exact ih
/-- a partner of the law's drawing, rows not yet sorted -/
structure PtRaw (ls : List Str) (N : Nat) (rows : List Rw) (fin : List Int) : Prop where
  rng : ∀ r ∈ rows, (0 ≤ r.1 ∧ r.1 < N) ∧ 0 ≤ r.2.2 ∧ r.2.2 < N
  lab : ∀ r ∈ rows, r.2.1 ∈ ls
  nd : rows.Nodup
  len : rows.length ≤ 2000
  fr : ∀ f ∈ fin, 0 ≤ f ∧ f < N
  fa : fin.Pairwise fun a b => a < b
theorem sorted_mem_all {p : Rw → Prop} {rows : List Rw} (h : ∀ r ∈ rows, p r) : ∀ r ∈ sortE encRow rows, p r := fun r hr => h r (sortE_mem.mp hr)
theorem PtRaw.sort {ls : List Str} {N : Nat} {rows : List Rw} {fin : List Int} (h : PtRaw ls N rows fin) : PtRaw ls N (sortE encRow rows) fin where
  rng := sorted_mem_all h.rng
  lab := sorted_mem_all h.lab
  nd := sortE_nodup.mpr h.nd
  len := by rw [sortE_len]; exact h.len
  fr := h.fr
  fa := h.fa
theorem PtRaw.ptB {ls : List Str} {N : Nat} {rows : List Rw} {fin : List Int} (h : PtRaw ls N rows fin) (hN : 0 < N ∧ N ≤ 300) (hl : ∀ l ∈ ls, labelB l = true) : ptB ⟨N, rows, fin⟩ = true := by
  unfold Lw.ptB shapeB rowsB finB rowB inB
  simp only [Bool.and_eq_true, decide_eq_true_eq, List.all_eq_true]
  refine ⟨⟨⟨by omega, by omega⟩, by omega, ⟨by have := h.len; omega, fun r hr => ?_, h.nd⟩, fun f hf => ?_, asc_of (h.fa.imp fun q => decide_eq_true q)⟩, fun r hr => hl _ (h.lab r hr)⟩
  · obtain ⟨⟨a1, a2⟩, a3, a4⟩ := h.rng r hr
    omega
  · obtain ⟨a1, a2⟩ := h.fr f hf
    omega
def opE (row : List Int) (g : Gd) (rows : List Rw) (fin : List Int) (s4 : Slot) (a : Int) : En := [.bx (boxD row a), .sh (encGd g), .ow (.lst (rows.map encRow)), .ow (.lst (encI fin)), s4, .unb]
/-- what is known of a drawn guide here -/
structure Own (ls : List Str) (g : Gd) : Prop where
  len : g.nd.length ≤ 60
  mv : ∀ n ∈ g.nd, (n.mv.map (·.1)).Sublist ls ∧ ∀ x ∈ n.mv, 0 ≤ x.2 ∧ x.2 < g.nd.length
  ls : ls.Nodup ∧ ls.length ≤ 30
def dpE (row : List Int) (ls : List Str) (most : Int) (N : Nat) (rows : List Rw) (s5 s6 : Slot) (a : Int) : En := [.bx (boxD row a), .sh (.lst (encS ls)), .sh (.int most), .sh (.int N), .ow (.lst (rows.map encRow)), s5, s6, .unb]
theorem nin_R (rows : List Rw) (r : Rw) : pNotInA [encRow r, .lst (rows.map encRow)] = some (fz (.bl (decide (r ∉ rows)))) := by
  rw [pNotInA_lst _ _ (by simp [encRow]) (by rw [List.all_map, List.all_eq_true]; intro x _; simp [encRow])]
  congr 3
  apply decide_eq_decide.mpr
  rw [mem_enc fun _ _ e => encRow_inj.mp e]
/-- the labels of a drawn interface -/
structure Labs (ls : List Str) : Prop where
  asc : ls.Pairwise fun a b => ltS a b = true
  nf : ("final" : Str) ∉ ls
  lab : ∀ l ∈ ls, labelB l = true
  len : ls.length ≤ 30
theorem ltS_irrefl (a : Str) : ltS a a = false := by
  unfold ltS
  exact decide_eq_false (List.lt_irrefl _)
theorem ltS_trans {a b c : Str} (h1 : ltS a b = true) (h2 : ltS b c = true) : ltS a c = true := by
  unfold ltS at *
  exact decide_eq_true (List.lt_trans (of_decide_eq_true h1) (of_decide_eq_true h2))
theorem asc_nodup {l : List Str} (h : l.Pairwise fun a b => ltS a b = true) : l.Nodup := h.imp fun q e => by
  subst e
  rw [ltS_irrefl] at q
  cases q
theorem leD_of_ltS {a b : Str} (h : ltS a b = true) : leD (.str a) (.str b) = true := by
  rw [leD_str, Bool.not_eq_true']
  refine decide_eq_false fun z => ?_
  exact List.lt_irrefl _ (List.lt_trans z (of_decide_eq_true h))
theorem asc_srt {l : List Str} (h : l.Pairwise fun a b => ltS a b = true) : l.Pairwise fun a b => leD (.str a) (.str b) = true := h.imp leD_of_ltS
theorem sortS_unique {l m : List Str} (nl : l.Nodup) (sm : m.Pairwise fun a b => ltS a b = true) (h : ∀ a, a ∈ l ↔ a ∈ m) : sortS l = m :=
  sortE_unique (enc := D.str) (fun _ _ e => D.str.inj e) (fun _ => by simp) (fun _ _ => rfl) (sortE_nodup.mpr nl) (asc_nodup sm) (sortE_pw l) (asc_srt sm) (fun a => by rw [sortE_mem]; exact h a)
theorem Labs.nodup {ls : List Str} (h : Labs ls) : ls.Nodup := asc_nodup h.asc
theorem rest_ok {ls mine c : List Str} (L : Labs ls) (hm : mine.Sublist ls) (h0 : c ≠ []) (h : c.Sublist (mine ++ [("final" : Str)])) : clauseB c mine = true := by
  obtain ⟨l1, l2, rfl, h1, h2⟩ := List.sublist_append_iff.mp h
  have ha : ascS l1 = true := asc_of (L.asc.sublist (h1.trans hm))
  have hx : (l1.all fun l => decide (l ∈ mine)) = true := List.all_eq_true.mpr fun l hl => decide_eq_true (h1.subset hl)
  have hr : rest (l1 ++ l2) = l1 := by
    unfold rest
    rcases l2 with _ | ⟨x, l2⟩
    · rw [List.append_nil] at h0 ⊢
      rw [if_neg]
      intro z
      have := List.mem_of_getLast? z
      exact L.nf (hm.subset (h1.subset this))
    · have hx : x = ("final" : Str) ∧ l2 = [] := by
        have h3 := h2.length_le
        have h4 : l2 = [] := by simpa using h3
        subst h4
        have := h2.subset (.head _)
        rw [List.mem_singleton] at this
        exact ⟨this, rfl⟩
      obtain ⟨rfl, rfl⟩ := hx
      simp
  unfold clauseB
  rw [hr, hx, ha, decide_eq_true h0]
  rfl
theorem NdOk.good {ls : List Str} {N : Nat} {n : Nd} (L : Labs ls) (h : NdOk ls N n) : NodeGood n ls N := by
  have hf : n.fb.Sublist ls := by rw [h.fb]; exact List.filter_sublist
  refine ⟨?_, asc_of (L.asc.sublist hf), ?_, fun c hc => rest_ok L h.sub (h.ne c hc).1 (h.ne c hc).2, h.nd, h.anti, h.srt⟩
  · unfold movesB
    rw [Bool.and_eq_true]
    refine ⟨List.all_eq_true.mpr fun x hx => ?_, asc_of (L.asc.sublist h.sub)⟩
    have := h.tg x hx
    unfold mvB inB
    simp
    omega
  · refine sortS_unique ?_ L.asc fun a => ?_
    · refine List.nodup_append.mpr ⟨L.nodup.sublist h.sub, L.nodup.sublist hf, fun x hx y hy e => ?_⟩
      subst e
      rw [h.fb] at hy
      have := (List.mem_filter.mp hy).2
      exact of_decide_eq_true this hx
    · rw [List.mem_append, h.fb, List.mem_filter]
      constructor
      · rintro (z | z)
        · exact h.sub.subset z
        · exact z.1
      · intro z
        by_cases q : a ∈ n.mv.map (·.1)
        · exact .inl q
        · exact .inr ⟨z, decide_eq_true q⟩
/-- a guide as it is drawn -/
structure GdOk (g : Gd) : Prop where
  ins : msgsB g.ins = true
  outs : msgsB g.outs = true
  dis : ∀ m ∈ g.ins, m ∉ g.outs
  L : Labs (lab g)
  pos : 0 < g.nd.length
  len : g.nd.length ≤ 60
  nd : ∀ n ∈ g.nd, NdOk (lab g) g.nd.length n
theorem GdOk.goodG {g : Gd} (h : GdOk g) : GoodG g := by
  refine ⟨h.ins, h.outs, h.dis, h.len, fun n hn => (h.nd n hn).good h.L, fun n hn => ?_⟩
  have H := h.nd n hn
  have h1 := H.sub.length_le
  rw [List.length_map] at h1
  have h2 : n.fb.length ≤ (lab g).length := by rw [H.fb]; exact List.filter_sublist.length_le
  have := h.L.len
  have := H.len
  omega
theorem GdOk.own {g : Gd} (h : GdOk g) : Own (lab g) g := ⟨h.len, fun n hn => ⟨(h.nd n hn).sub, (h.nd n hn).tg⟩, h.L.nodup, h.L.len⟩
theorem GdOk.good {g : Gd} (h : GdOk g) {N : Nat} {rows : List Rw} {fin : List Int} (P : PtRaw (lab g) N rows fin) (hs : N * g.nd.length ≤ 30000) : Good g ⟨N, rows, fin⟩ := ⟨fun r hr => (P.rng r hr).2, fun n hn => (h.nd n hn).tg, P.len, hs⟩
theorem face_ok : ∀ ins outs : List Str, Face ins outs → msgsB ins = true ∧ msgsB outs = true ∧ (∀ m ∈ ins, m ∉ outs) ∧ Labs (labL ins outs) := by
  rintro ins outs ⟨rfl | rfl, rfl | rfl | rfl⟩
  all_goals exact ⟨by decide, by decide, by decide, ⟨by decide, by decide, by decide, by decide⟩⟩
/-- a partner as it is tried -/
structure POk (g : Gd) (p : Pt) : Prop where
  good : Good g p
  ptB : ptB p = true
  srt : sortE encRow p.rows = p.rows
  pos : 0 < p.n
  size : p.n * g.nd.length ≤ 10000
def lwE (ns row : List Int) (t : Int) (g : Gd) (s4 : Slot) (s5 s6 s7 s8 s9 s10 s11 s12 : Slot) (a : Int) : En := [.sh (.scr ns), .ow (boxD row a), .sh (.int t), .sh (encGd g), s4, s5, s6, s7, s8, s9, s10, s11, s12, .unb]
theorem isnot_lst {l : List D} : pIsNot [.lst l, .non] = some (fz (.bl true)) := by simp
theorem isnot_non : pIsNot [.non, .non] = some (fz (.bl false)) := by simp
theorem cut_a (d : Int) (h : 0 ≤ d ∧ d < 2) : ∃ ins : List Str, (ins = [("a" : Str)] ∨ ins = [("a" : Str), "b"]) ∧ pSlice none (some (1 + d)) (.lst [.str "a", .str "b"]) = some (nw (.lst (encS ins))) := by
  rcases (by omega : d = 0 ∨ d = 1) with rfl | rfl
  · exact ⟨_, .inl rfl, rfl⟩
  · exact ⟨_, .inr rfl, rfl⟩
theorem cut_c (d : Int) (h : 0 ≤ d ∧ d < 3) : ∃ outs : List Str, (outs = [] ∨ outs = [("c" : Str)] ∨ outs = [("c" : Str), "d"]) ∧ pSlice none (some d) (.lst [.str "c", .str "d"]) = some (nw (.lst (encS outs))) := by
  rcases (by omega : d = 0 ∨ d = 1 ∨ d = 2) with rfl | rfl | rfl
  · exact ⟨_, .inl rfl, rfl⟩
  · exact ⟨_, .inr (.inl rfl), rfl⟩
  · exact ⟨_, .inr (.inr rfl), rfl⟩
def lawE (ns row : List Int) (s2 s3 s4 s5 s6 s7 s8 s9 s10 s11 s12 : Slot) (a : Int) : En := [.sh (.scr ns), .ow (boxD row a), s2, s3, s4, s5, s6, s7, s8, s9, s10, s11, s12, .unb]
theorem slice_of {m : Sx Opd} {hi : Sx Opd} {e e1 e2 : En} {d : D} {k : Int} {v : Vl} (h : m e = .ok (.dt d) e1) (h2 : hi e1 = .ok (.dt (.int k)) e2) (hp : pSlice none (some k) d = some v) : sSlice m none (some hi) e = .ok v e2 := by
  simp [e_slice, e_oPart0, e_oPart1, h, h2, hp]
def gI {α : Type} [Inhabited α] (l : List α) (i : Int) : α := l.getD i.toNat default
theorem gI_at {α : Type} [Inhabited α] {l : List α} {i : Int} (h : 0 ≤ i ∧ i < l.length) : L2.atI l i = some (gI l i) := by
  have hl : i.toNat < l.length := by omega
  rw [atI_nat (n := i.toNat) (by omega) hl]
  unfold gI
  rw [List.getD_eq_getElem?_getD, List.getElem?_eq_getElem hl]
  rfl
theorem gI_get {α : Type} [Inhabited α] {l : List α} {n : Nat} (h : n < l.length) : gI l (n : Int) = l[n] := by
  unfold gI
  rw [List.getD_eq_getElem?_getD, Int.toNat_natCast, List.getElem?_eq_getElem h]
  rfl
theorem gI_get' {α : Type} [Inhabited α] {l : List α} {i : Int} (h : 0 ≤ i ∧ i < l.length) : gI l i = l[i.toNat]'(by omega) := by
  have hl : i.toNat < l.length := by omega
  unfold gI
  rw [List.getD_eq_getElem?_getD, List.getElem?_eq_getElem hl]
  rfl
theorem gI_mem {α : Type} [Inhabited α] {l : List α} {i : Int} (h : 0 ≤ i ∧ i < l.length) : gI l i ∈ l := by
  have hl : i.toNat < l.length := by omega
  have : i = (i.toNat : Int) := by omega
  rw [this, gI_get hl]
  exact List.getElem_mem hl
theorem gI_map {α β : Type} [Inhabited α] [Inhabited β] {f : α → β} {l : List α} {i : Int} (h : 0 ≤ i ∧ i < l.length) : gI (l.map f) i = f (gI l i) := by
  have hl : i.toNat < l.length := by omega
  have e : i = (i.toNat : Int) := by omega
  rw [e, gI_get hl, gI_get (by simpa using hl), List.getElem_map]
/-- the first place -/
noncomputable def firstOf {α : Type} (l : List α) (x : α) : Nat := by
  classical
  exact l.findIdx fun y => decide (y = x)
section
variable {α : Type} {l : List α} {x : α}
theorem first_lt (h : x ∈ l) : firstOf l x < l.length := by
  classical
  unfold firstOf
  exact List.findIdx_lt_length_of_exists ⟨x, h, decide_eq_true rfl⟩
theorem first_get (h : x ∈ l) : l[firstOf l x]'(first_lt h) = x := by
  classical
  have := List.findIdx_getElem (p := fun y => decide (y = x)) (xs := l) (w := first_lt h)
  exact of_decide_eq_true this
theorem first_ne {i : Nat} (h : i < firstOf l x) (hl : i < l.length) : l[i] ≠ x := by
  classical
  have := List.not_of_lt_findIdx (p := fun y => decide (y = x)) (xs := l) h
  exact fun z => by simp [z] at this
theorem first_le {i : Nat} (hl : i < l.length) (h : l[i] = x) : firstOf l x ≤ i := by
  rcases Nat.lt_or_ge i (firstOf l x) with z | z
  · exact absurd h (first_ne z hl)
  · exact z
theorem first_unique {n : Nat} (hn : n < l.length) (h : l[n] = x) (hne : ∀ i (hi : i < n), l[i]'(by omega) ≠ x) : firstOf l x = n := by
  have h1 := first_le hn h
  have hm : x ∈ l := h ▸ List.getElem_mem hn
  rcases Nat.lt_or_ge (firstOf l x) n with z | z
  · exact absurd (first_get hm) (hne _ z)
  · omega
theorem first_inj {y : α} (hx : x ∈ l) (hy : y ∈ l) (h : firstOf l x = firstOf l y) : x = y := by
  have a := first_get hx
  have b := first_get hy
  simp only [h] at a
  exact a.symm.trans b
theorem first_nodup (nd : l.Nodup) {n : Nat} (hn : n < l.length) : firstOf l l[n] = n := by
  refine first_unique hn rfl fun i hi e => ?_
  exact List.pairwise_iff_getElem.mp nd i n (by omega) hn hi e
end
theorem findIdx_first {α : Type} (enc : α → D) (inj : ∀ a b, enc a = enc b → a = b) (pl : ∀ a, plainN 8 (enc a) = true) {l : List α} {x : α} (h : x ∈ l) : pIndex [.lst (l.map enc), enc x] = some (fz (.int (firstOf l x))) := by
  classical
  have c1 : (D.lst (l.map enc)).cmp = true := cmp_of (n := 9) (by rw [plainN_lst, List.all_map, List.all_eq_true]; intro a _; exact pl a) (by decide)
  have c2 : (enc x).cmp = true := cmp_of (pl x) (by decide)
  show (if ((D.lst (l.map enc)).cmp && (enc x).cmp) = true then ((l.map enc).findIdx? fun z => pyEq z (enc x)).map fun j => fz (.int (j : Nat)) else none) = _
  rw [c1, c2, Bool.and_self, if_pos rfl]
  have e : ((l.map enc).findIdx? fun z => pyEq z (enc x)) = some (firstOf l x) := by
    rw [List.findIdx?_map]
    have e2 : ((fun z => pyEq z (enc x)) ∘ enc) = fun y => decide (y = x) := by
      funext y
      show pyEq (enc y) (enc x) = _
      rw [pyEq_dec (pl y) (pl x)]
      by_cases q : y = x
      · subst q; simp
      · have : enc y ≠ enc x := fun z => q (inj _ _ z)
        simp [q, this]
    rw [e2, List.findIdx?_eq_some_iff_findIdx_eq]
    have hl := first_lt h
    unfold firstOf at hl ⊢
    exact ⟨hl, rfl⟩
  rw [e]; rfl
/-- two lists, item by item -/
inductive All2 {α β : Type} (R : α → β → Prop) : List α → List β → Prop
  | nil : All2 R [] []
  | cons {a : α} {b : β} {l : List α} {m : List β} : R a b → All2 R l m → All2 R (a :: l) (b :: m)
namespace All2
variable {α β γ δ : Type} {R : α → β → Prop}
theorem len {l : List α} {m : List β} (h : All2 R l m) : l.length = m.length := by
  induction h with
  | nil => rfl
  | cons _ _ ih => simp [ih]
theorem get {l : List α} {m : List β} (h : All2 R l m) : ∀ {i : Nat} (h1 : i < l.length) (h2 : i < m.length), R l[i] m[i] := by
  induction h with
  | nil => intro i h1; simp at h1
  | cons r _ ih =>
    intro i h1 h2
    cases i with
    | zero => exact r
    | succ i => exact ih (by simpa using h1) (by simpa using h2)
theorem app {l l' : List α} {m m' : List β} (h : All2 R l m) (k : All2 R l' m') : All2 R (l ++ l') (m ++ m') := by
  induction h with
  | nil => exact k
  | cons r _ ih => exact .cons r ih
theorem mapL {f : γ → α} {g : δ → β} {l : List γ} {m : List δ} (h : All2 (fun a b => R (f a) (g b)) l m) : All2 R (l.map f) (m.map g) := by
  induction h with
  | nil => exact .nil
  | cons r _ ih => exact .cons r ih
theorem map_eq {f : α → γ} {g : β → γ} {l : List α} {m : List β} (h : All2 R l m) (e : ∀ a b, R a b → f a = g b) : l.map f = m.map g := by
  induction h with
  | nil => rfl
  | cons r _ ih => rw [List.map_cons, List.map_cons, e _ _ r, ih]
theorem imp {S : α → β → Prop} {l : List α} {m : List β} (h : All2 R l m) (e : ∀ a b, a ∈ l → b ∈ m → R a b → S a b) : All2 S l m := by
  induction h with
  | nil => exact .nil
  | cons r _ ih => exact .cons (e _ _ (.head _) (.head _) r) (ih fun a b ha hb => e a b (.tail _ ha) (.tail _ hb))
theorem of_map {f : α → γ} {g : β → γ} : ∀ {l : List α} {m : List β}, l.map f = m.map g → All2 (fun a b => f a = g b) l m
  | [], [], _ => .nil
  | a :: l, b :: m, h => by
    rw [List.map_cons, List.map_cons, List.cons.injEq] at h
    exact .cons h.1 (of_map h.2)
  | [], _ :: _, h => by simp at h
  | _ :: _, [], h => by simp at h
theorem self {f : α → β} {l : List α} (h : ∀ a ∈ l, R a (f a)) : All2 R l (l.map f) := by
  induction l with
  | nil => exact .nil
  | cons a l ih => exact .cons (h a (.head _)) (ih fun b hb => h b (.tail _ hb))
theorem memL {l : List α} {m : List β} (h : All2 R l m) {x : α} (hx : x ∈ l) : ∃ y ∈ m, R x y := by
  induction h with
  | nil => cases hx
  | cons r _ ih =>
    rcases List.mem_cons.mp hx with e | hx
    · subst e; exact ⟨_, .head _, r⟩
    · obtain ⟨y, hy, q⟩ := ih hx
      exact ⟨y, .tail _ hy, q⟩
theorem memR {l : List α} {m : List β} (h : All2 R l m) {y : β} (hy : y ∈ m) : ∃ x ∈ l, R x y := by
  induction h with
  | nil => cases hy
  | cons r _ ih =>
    rcases List.mem_cons.mp hy with e | hy
    · subst e; exact ⟨_, .head _, r⟩
    · obtain ⟨x, hx, q⟩ := ih hy
      exact ⟨x, .tail _ hx, q⟩
end All2
/-- bi-unique between the members of two lists -/
def Biu {α β : Type} (R : α → β → Prop) : Prop := ∀ a b a' b', R a b → R a' b' → (a = a' ↔ b = b')
theorem All2.mem_iff {α β : Type} {R : α → β → Prop} (B : Biu R) {l : List α} {m : List β} (h : All2 R l m) {x : α} {y : β} (r : R x y) : x ∈ l ↔ y ∈ m := by
  constructor
  · intro hx
    obtain ⟨y', hy', q⟩ := h.memL hx
    have := (B _ _ _ _ r q).mp rfl
    rw [this]; exact hy'
  · intro hy
    obtain ⟨x', hx', q⟩ := h.memR hy
    have := (B _ _ _ _ r q).mpr rfl
    rw [this]; exact hx'
theorem All2.first {α β : Type} {R : α → β → Prop} (B : Biu R) {l : List α} {m : List β} (h : All2 R l m) {x : α} {y : β} (r : R x y) (hx : x ∈ l) : firstOf l x = firstOf m y := by
  have hy := (h.mem_iff B r).mp hx
  refine first_unique ?_ ?_ ?_
  · rw [h.len]; exact first_lt hy
  · have := h.get (i := firstOf m y) (by rw [h.len]; exact first_lt hy) (first_lt hy)
    rw [first_get hy] at this
    exact (B _ _ _ _ this r).mpr rfl
  · intro i hi e
    have hl : i < m.length := Nat.lt_trans hi (first_lt hy)
    have := h.get (i := i) (by rw [h.len]; exact hl) hl
    exact first_ne hi hl ((B _ _ _ _ this r).mp e)
def addNew (o : List Int) : List Int → List Int
  | [] => o
  | x :: xs => addNew (if x ∈ o then o else o ++ [x]) xs
def bfsN (step : Int → List Int) (s : Int) : Nat → List Int
  | 0 => [s]
  | n + 1 => match (bfsN step s n)[n]? with
    | some x => addNew (bfsN step s n) (step x)
    | none => bfsN step s n
theorem addNew_pre : ∀ (xs o : List Int), o <+: addNew o xs
  | [], o => List.prefix_refl o
  | x :: xs, o => by
    refine List.IsPrefix.trans ?_ (addNew_pre xs _)
    split
    · exact List.prefix_refl o
    · exact List.prefix_append o [x]
theorem addNew_mem {y : Int} : ∀ (xs o : List Int), y ∈ addNew o xs ↔ y ∈ o ∨ y ∈ xs
  | [], o => by simp [addNew]
  | x :: xs, o => by
    have := addNew_mem (y := y) xs (if x ∈ o then o else o ++ [x])
    show y ∈ addNew _ xs ↔ _
    rw [this, List.mem_cons]
    split
    · constructor
      · rintro (z | z)
        · exact .inl z
        · exact .inr (.inr z)
      · rintro (z | z | z)
        · exact .inl z
        · subst z; exact .inl (by assumption)
        · exact .inr z
    · rw [List.mem_append, List.mem_singleton, or_assoc]
theorem addNew_nodup : ∀ (xs o : List Int), o.Nodup → (addNew o xs).Nodup
  | [], o, h => h
  | x :: xs, o, h => by
    refine addNew_nodup xs _ ?_
    split
    · exact h
    · rename_i hx
      refine List.nodup_append.mpr ⟨h, by simp, fun a ha b hb e => ?_⟩
      rw [List.mem_singleton] at hb
      subst e hb
      exact hx ha
section
variable {step : Int → List Int} {s : Int}
theorem bfs_pre (n : Nat) : bfsN step s n <+: bfsN step s (n + 1) := by
  show _ <+: (match (bfsN step s n)[n]? with | some x => addNew (bfsN step s n) (step x) | none => bfsN step s n)
  cases (bfsN step s n)[n]? with
  | none => exact List.prefix_refl _
  | some x => exact addNew_pre _ _
theorem bfs_pre' {n m : Nat} (h : n ≤ m) : bfsN step s n <+: bfsN step s m := by
  induction h with
  | refl => exact List.prefix_refl _
  | step _ ih => exact ih.trans (bfs_pre _)
theorem bfs_nodup : ∀ n : Nat, (bfsN step s n).Nodup
  | 0 => by show [s].Nodup; simp
  | n + 1 => by
    show (match (bfsN step s n)[n]? with | some x => addNew (bfsN step s n) (step x) | none => bfsN step s n).Nodup
    cases (bfsN step s n)[n]? with
    | none => exact bfs_nodup n
    | some x => exact addNew_nodup _ _ (bfs_nodup n)
theorem bfs_all {P : Int → Prop} (h0 : P s) (hs : ∀ x, P x → ∀ y ∈ step x, P y) : ∀ n : Nat, ∀ x ∈ bfsN step s n, P x
  | 0, x, hx => by
    have hx' : x ∈ [s] := hx
    rw [List.mem_singleton] at hx'
    subst hx'; exact h0
  | n + 1, x, hx => by
    have hx' : x ∈ (match (bfsN step s n)[n]? with | some x => addNew (bfsN step s n) (step x) | none => bfsN step s n) := hx
    cases q : (bfsN step s n)[n]? with
    | none => rw [q] at hx'; exact bfs_all h0 hs n x hx'
    | some z =>
      rw [q] at hx'
      rcases (addNew_mem _ _).mp hx' with y | y
      · exact bfs_all h0 hs n x y
      · exact hs z (bfs_all h0 hs n z (List.mem_of_getElem? q)) x y
theorem bfs_succ_some {n : Nat} {x : Int} (h : (bfsN step s n)[n]? = some x) : bfsN step s (n + 1) = addNew (bfsN step s n) (step x) := by
  show (match (bfsN step s n)[n]? with | some x => addNew (bfsN step s n) (step x) | none => bfsN step s n) = _
  rw [h]
theorem bfs_succ_none {n : Nat} (h : (bfsN step s n).length ≤ n) : bfsN step s (n + 1) = bfsN step s n := by
  show (match (bfsN step s n)[n]? with | some x => addNew (bfsN step s n) (step x) | none => bfsN step s n) = _
  rw [List.getElem?_eq_none h]
theorem bfs_stable {n : Nat} (h : (bfsN step s n).length ≤ n) : ∀ m : Nat, n ≤ m → bfsN step s m = bfsN step s n := by
  intro m hm
  induction hm with
  | refl => rfl
  | step _ ih =>
    rename_i k hk
    rw [bfs_succ_none (by rw [ih]; exact Nat.le_trans h hk), ih]
/-- what stands ahead of the place has been looked at -/
theorem bfs_done : ∀ (n i : Nat), i < n → ∀ (h : i < (bfsN step s n).length), ∀ y ∈ step (bfsN step s n)[i], y ∈ bfsN step s n
  | n + 1, i, hi, h, y, hy => by
    by_cases hl : i < (bfsN step s n).length
    · have e : (bfsN step s (n + 1))[i] = (bfsN step s n)[i] := ((bfs_pre n).getElem hl).symm
      rw [e] at hy
      by_cases q : i < n
      · exact (bfs_pre n).subset (bfs_done n i q hl y hy)
      · have : i = n := by omega
        subst this
        rw [bfs_succ_some (List.getElem?_eq_getElem hl)]
        exact (addNew_mem _ _).mpr (.inr hy)
    · rw [bfs_succ_none (by omega)] at h
      exact absurd h hl
theorem bfs_head (n : Nat) : ∃ r, bfsN step s n = s :: r := by
  obtain ⟨r, h⟩ := bfs_pre' (step := step) (s := s) (Nat.zero_le n)
  exact ⟨r, h.symm⟩
theorem bfs_len {M : Nat} (hU : ∀ n, ∀ x ∈ bfsN step s n, 0 ≤ x ∧ x < (M : Int)) (n : Nat) : (bfsN step s n).length ≤ M := by
  have h1 : ((bfsN step s n).map Int.toNat).Nodup := by
    refine List.pairwise_map.mpr ((bfs_nodup n).imp_of_mem fun {a b} ha hb q e => q ?_)
    have := hU n a ha
    have := hU n b hb
    omega
  have := nodup_len _ (List.range M) h1 fun x hx => by
    obtain ⟨y, hy, rfl⟩ := List.mem_map.mp hx
    have := hU n y hy
    rw [List.mem_range]
    omega
  simpa using this
/-- all that is reached, once there are turns enough -/
theorem bfs_closed {M : Nat} (hU : ∀ n, ∀ x ∈ bfsN step s n, 0 ≤ x ∧ x < (M : Int)) {n : Nat} (hn : M ≤ n) : ∀ x ∈ bfsN step s n, ∀ y ∈ step x, y ∈ bfsN step s n := by
  intro x hx y hy
  obtain ⟨i, hi, e⟩ := List.getElem_of_mem hx
  have := bfs_len hU n
  subst e
  exact bfs_done n i (by omega) hi y hy
end
theorem addNew_two {R : Int → Int → Prop} (B : Biu R) : ∀ {xs ys : List Int}, All2 R xs ys → ∀ {o p : List Int}, All2 R o p → All2 R (addNew o xs) (addNew p ys)
  | _, _, .nil, _, _, h => h
  | _, _, .cons (a := x) (b := y) r t, o, p, h => by
    refine addNew_two B t ?_
    by_cases q : x ∈ o
    · rw [if_pos q, if_pos ((h.mem_iff B r).mp q)]; exact h
    · rw [if_neg q, if_neg fun z => q ((h.mem_iff B r).mpr z)]; exact h.app (.cons r .nil)
/-- two searches side by side -/
theorem bfs_two {R : Int → Int → Prop} (B : Biu R) {step step' : Int → List Int} {s s' : Int} (h0 : R s s') (hs : ∀ x y, R x y → All2 R (step x) (step' y)) : ∀ n : Nat, All2 R (bfsN step s n) (bfsN step' s' n)
  | 0 => .cons h0 .nil
  | n + 1 => by
    have ih := bfs_two B h0 hs n
    by_cases hl : n < (bfsN step s n).length
    · have hl' : n < (bfsN step' s' n).length := by rw [← ih.len]; exact hl
      rw [bfs_succ_some (List.getElem?_eq_getElem hl), bfs_succ_some (List.getElem?_eq_getElem hl')]
      exact addNew_two B (hs _ _ (ih.get hl hl')) ih
    · have hl' : ¬ n < (bfsN step' s' n).length := by rw [← ih.len]; exact hl
      rw [bfs_succ_none (by omega), bfs_succ_none (by omega)]
      exact ih
instance instNd : Inhabited Nd := ⟨⟨[], [], []⟩⟩
inductive Tr where
  | nil
  | node (fb : List Str) (cl : List (List Str)) (mv : List (Str × Tr))
def nod (g : Gd) (i : Int) : Nd := gI g.nd i
def sig (g : Gd) : Nat → Int → Tr
  | 0, _ => .nil
  | k + 1, i => .node (nod g i).fb (nod g i).cl ((nod g i).mv.map fun x => (x.1, sig g k x.2))
/-- targets that are there -/
def InG (g : Gd) : Prop := ∀ n ∈ g.nd, ∀ x ∈ n.mv, 0 ≤ x.2 ∧ x.2 < g.nd.length
theorem nod_mem {g : Gd} {i : Int} (h : 0 ≤ i ∧ i < g.nd.length) : nod g i ∈ g.nd := gI_mem h
theorem sig_succ {g h : Gd} {k : Nat} {i j : Int} : sig g (k + 1) i = sig h (k + 1) j ↔ (nod g i).fb = (nod h j).fb ∧ (nod g i).cl = (nod h j).cl ∧ All2 (fun x y => x.1 = y.1 ∧ sig g k x.2 = sig h k y.2) (nod g i).mv (nod h j).mv := by
  show Tr.node _ _ _ = Tr.node _ _ _ ↔ _
  rw [Tr.node.injEq]
  constructor
  · rintro ⟨a, b, c⟩
    exact ⟨a, b, (All2.of_map c).imp fun x y _ _ e => Prod.mk.inj e⟩
  · rintro ⟨a, b, c⟩
    exact ⟨a, b, c.map_eq fun x y e => Prod.ext e.1 e.2⟩
theorem sig_down {g h : Gd} : ∀ {k : Nat} {i j : Int}, sig g (k + 1) i = sig h (k + 1) j → sig g k i = sig h k j
  | 0, _, _, _ => rfl
  | k + 1, i, j, e => by
    rw [sig_succ] at e ⊢
    exact ⟨e.1, e.2.1, e.2.2.imp fun x y _ _ z => ⟨z.1, sig_down z.2⟩⟩
theorem sig_le {g h : Gd} {k m : Nat} (hk : k ≤ m) {i j : Int} (e : sig g m i = sig h m j) : sig g k i = sig h k j := by
  induction hk with
  | refl => exact e
  | step _ ih => exact ih (sig_down e)
/-- alike: nothing that labels lead to tells them apart -/
def Alike (g : Gd) (i : Int) (h : Gd) (j : Int) : Prop := ∀ k, sig g k i = sig h k j
theorem Alike.refl {g : Gd} {i : Int} : Alike g i g i := fun _ => rfl
theorem Alike.symm {g h : Gd} {i j : Int} (a : Alike g i h j) : Alike h j g i := fun k => (a k).symm
theorem Alike.trans {g h l : Gd} {i j m : Int} (a : Alike g i h j) (b : Alike h j l m) : Alike g i l m := fun k => (a k).trans (b k)
theorem All2.forall {α β ι : Type} {R : ι → α → β → Prop} [Inhabited ι] : ∀ {l : List α} {m : List β}, (∀ k, All2 (R k) l m) → All2 (fun x y => ∀ k, R k x y) l m
  | [], [], _ => .nil
  | a :: l, b :: m, h => .cons (fun k => by cases h k; assumption) (All2.forall fun k => by cases h k; assumption)
  | [], _ :: _, h => by cases h default
  | _ :: _, [], h => by cases h default
theorem Alike.step {g h : Gd} {i j : Int} (a : Alike g i h j) : (nod g i).fb = (nod h j).fb ∧ (nod g i).cl = (nod h j).cl ∧ All2 (fun x y => x.1 = y.1 ∧ Alike g x.2 h y.2) (nod g i).mv (nod h j).mv := by
  have e := fun k => sig_succ.mp (a (k + 1))
  refine ⟨(e 0).1, (e 0).2.1, ?_⟩
  exact (All2.forall fun k => (e k).2.2).imp fun x y _ _ z => ⟨(z 0).1, fun k => (z k).2⟩
def Same (g : Gd) (k : Nat) (i j : Nat) : Prop := sig g k (i : Int) = sig g k (j : Int)
/-- first of its part -/
def Fst (g : Gd) (k i : Nat) : Prop := ∀ j, j < i → sig g k (j : Int) ≠ sig g k (i : Int)
noncomputable def fsts (g : Gd) (k : Nat) : List Nat := by
  classical
  exact (List.range g.nd.length).filter fun i => decide (Fst g k i)
theorem fsts_mem {g : Gd} {k i : Nat} : i ∈ fsts g k ↔ i < g.nd.length ∧ Fst g k i := by
  classical
  unfold fsts
  rw [List.mem_filter, List.mem_range, decide_eq_true_iff]
theorem fsts_nodup (g : Gd) (k : Nat) : (fsts g k).Nodup := by
  classical
  unfold fsts
  exact List.nodup_range.filter _
theorem fsts_le (g : Gd) (k : Nat) : (fsts g k).length ≤ g.nd.length := by
  classical
  unfold fsts
  have := List.length_filter_le (fun i => decide (Fst g k i)) (List.range g.nd.length)
  simpa using this
theorem fst_ex (g : Gd) (k : Nat) (i : Nat) : ∃ j, j ≤ i ∧ Fst g k j ∧ sig g k (j : Int) = sig g k (i : Int) := by
  induction i using Nat.strongRecOn with
  | ind i ih =>
    by_cases h : Fst g k i
    · exact ⟨i, Nat.le_refl _, h, rfl⟩
    · unfold Fst at h
      simp only [Classical.not_forall, ne_eq, Classical.not_not] at h
      obtain ⟨j, hj, e⟩ := h
      obtain ⟨m, h1, h2, h3⟩ := ih j hj
      exact ⟨m, by omega, h2, h3.trans e⟩
theorem fst_up {g : Gd} {k i : Nat} (h : Fst g k i) : Fst g (k + 1) i := fun j hj e => h j hj (sig_down e)
theorem fst_one {g : Gd} {k i j : Nat} (h1 : Fst g k i) (h2 : Fst g k j) (e : sig g k (i : Int) = sig g k (j : Int)) : i = j := by
  rcases Nat.lt_trichotomy i j with z | z | z
  · exact absurd e (h2 i z)
  · exact z
  · exact absurd e.symm (h1 j z)
/-- it stays from here -/
def Stay (g : Gd) (k : Nat) : Prop := ∀ i j : Int, 0 ≤ i → i < g.nd.length → 0 ≤ j → j < g.nd.length → sig g k i = sig g k j → sig g (k + 1) i = sig g (k + 1) j
theorem fsts_sub (g : Gd) (k : Nat) : fsts g k ⊆ fsts g (k + 1) := fun i hi => by
  rw [fsts_mem] at hi ⊢
  exact ⟨hi.1, fst_up hi.2⟩
theorem fsts_grow (g : Gd) (k : Nat) : (fsts g k).length ≤ (fsts g (k + 1)).length := nodup_len _ _ (fsts_nodup g k) (fsts_sub g k)
theorem stay_of {g : Gd} {k : Nat} (h : (fsts g (k + 1)).length ≤ (fsts g k).length) : Stay g k := by
  have hs : ∀ x, x ∈ fsts g (k + 1) → x ∈ fsts g k := by
    intro x hx
    by_cases q : x ∈ fsts g k
    · exact q
    · have := nodup_len (x :: fsts g k) (fsts g (k + 1)) (List.nodup_cons.mpr ⟨q, fsts_nodup g k⟩) (by
        intro y hy
        rcases List.mem_cons.mp hy with e | hy
        · subst e; exact hx
        · exact fsts_sub g k hy)
      rw [List.length_cons] at this
      omega
  intro i j i0 i1 j0 j1 e
  obtain ⟨a, a1, a2, a3⟩ := fst_ex g (k + 1) i.toNat
  obtain ⟨b, b1, b2, b3⟩ := fst_ex g (k + 1) j.toNat
  have ei : ((i.toNat : Nat) : Int) = i := by omega
  have ej : ((j.toNat : Nat) : Int) = j := by omega
  rw [ei] at a3
  rw [ej] at b3
  have ha := hs a (fsts_mem.mpr ⟨by omega, a2⟩)
  have hb := hs b (fsts_mem.mpr ⟨by omega, b2⟩)
  have : a = b := fst_one (fsts_mem.mp ha).2 (fsts_mem.mp hb).2 ((sig_down a3).trans (e.trans (sig_down b3).symm))
  subst this
  exact a3.symm.trans b3
theorem stay_all {g : Gd} (I : InG g) {k : Nat} (h : Stay g k) : ∀ m, k ≤ m → Stay g m := by
  intro m hm
  induction hm with
  | refl => exact h
  | step _ ih =>
    intro i j i0 i1 j0 j1 e
    rw [sig_succ] at e ⊢
    refine ⟨e.1, e.2.1, e.2.2.imp fun x y hx hy z => ⟨z.1, ?_⟩⟩
    have X := I _ (nod_mem ⟨i0, i1⟩) x hx
    have Y := I _ (nod_mem ⟨j0, j1⟩) y hy
    exact ih _ _ X.1 X.2 Y.1 Y.2 z.2
theorem stay_alike {g : Gd} (I : InG g) {k : Nat} (h : Stay g k) {i j : Int} (hi : 0 ≤ i ∧ i < g.nd.length) (hj : 0 ≤ j ∧ j < g.nd.length) (e : sig g k i = sig g k j) : Alike g i g j := by
  have up : ∀ m, k ≤ m → sig g m i = sig g m j := by
    intro m hm
    induction hm with
    | refl => exact e
    | step hm ih => exact stay_all I h _ hm i j hi.1 hi.2 hj.1 hj.2 ih
  intro m
  rcases Nat.le_total k m with q | q
  · exact up m q
  · exact sig_le q e
theorem stay_N (g : Gd) : ∃ k, k ≤ g.nd.length ∧ Stay g k := by
  have key : ∀ n, (∃ k, k ≤ n ∧ Stay g k) ∨ n + 1 ≤ (fsts g (n + 1)).length := by
    intro n
    induction n with
    | zero =>
      by_cases h : (fsts g 1).length ≤ (fsts g 0).length
      · exact .inl ⟨0, Nat.le_refl _, stay_of h⟩
      · right
        show 1 ≤ (fsts g 1).length
        omega
    | succ n ih =>
      rcases ih with ⟨k, hk, s⟩ | ih
      · exact .inl ⟨k, by omega, s⟩
      · by_cases h : (fsts g (n + 1 + 1)).length ≤ (fsts g (n + 1)).length
        · exact .inl ⟨n + 1, Nat.le_refl _, stay_of h⟩
        · right; omega
  rcases key g.nd.length with h | h
  · exact h
  · have := fsts_le g (g.nd.length + 1)
    omega
theorem alike_N {g : Gd} (I : InG g) {i j : Int} (hi : 0 ≤ i ∧ i < g.nd.length) (hj : 0 ≤ j ∧ j < g.nd.length) (e : sig g (g.nd.length + 1) i = sig g (g.nd.length + 1) j) : Alike g i g j := by
  obtain ⟨k, hk, s⟩ := stay_N g
  exact stay_alike I s hi hj (sig_le (by omega) e)
noncomputable def marks (g : Gd) : Nat → List Int
  | 0 => g.nd.map fun _ => 0
  | k + 1 => (g.nd.map fun n => (n.fb, n.cl, n.mv.map fun x => (x.1, gI (marks g k) x.2))).map fun o => (firstOf (g.nd.map fun n => (n.fb, n.cl, n.mv.map fun x => (x.1, gI (marks g k) x.2))) o : Int)
theorem marks_len (g : Gd) : ∀ k, (marks g k).length = g.nd.length
  | 0 => by simp [marks]
  | k + 1 => by simp [marks]
/-- what marks tell -/
structure MkOk (g : Gd) (k : Nat) (M : List Int) : Prop where
  len : M.length = g.nd.length
  rng : ∀ i : Int, 0 ≤ i → i < g.nd.length → 0 ≤ gI M i ∧ gI M i < g.nd.length
  own : ∀ i : Int, 0 ≤ i → i < g.nd.length → sig g k (gI M i) = sig g k i
  eq : ∀ i j : Int, 0 ≤ i → i < g.nd.length → 0 ≤ j → j < g.nd.length → sig g k i = sig g k j → gI M i = gI M j
theorem MkOk.iff {g : Gd} {k : Nat} {M : List Int} (h : MkOk g k M) {i j : Int} (hi : 0 ≤ i ∧ i < g.nd.length) (hj : 0 ≤ j ∧ j < g.nd.length) : gI M i = gI M j ↔ sig g k i = sig g k j :=
  ⟨fun e => by rw [← h.own i hi.1 hi.2, e, h.own j hj.1 hj.2], h.eq i j hi.1 hi.2 hj.1 hj.2⟩
theorem mks_zero {g : Gd} : MkOk g 0 (marks g 0) := by
  have h : ∀ i : Int, 0 ≤ i → i < g.nd.length → gI (marks g 0) i = 0 := fun i h1 h2 => by
    unfold marks
    rw [gI_map ⟨h1, h2⟩]
  exact ⟨marks_len g 0, fun i h1 h2 => by rw [h i h1 h2]; omega, fun i _ _ => rfl, fun i j h1 h2 h3 h4 _ => by rw [h i h1 h2, h j h3 h4]⟩
theorem marks_ok {g : Gd} (I : InG g) : ∀ k, MkOk g k (marks g k)
  | 0 => mks_zero
  | k + 1 => by
    have ih := marks_ok I k
    have sg : ∀ i j : Int, 0 ≤ i → i < g.nd.length → 0 ≤ j → j < g.nd.length → (((nod g i).fb, (nod g i).cl, (nod g i).mv.map fun x => (x.1, gI (marks g k) x.2)) = ((nod g j).fb, (nod g j).cl, (nod g j).mv.map fun x => (x.1, gI (marks g k) x.2)) ↔ sig g (k + 1) i = sig g (k + 1) j) := by
      intro i j i0 i1 j0 j1
      rw [sig_succ, Prod.mk.injEq, Prod.mk.injEq]
      constructor
      · rintro ⟨a, b, c⟩
        refine ⟨a, b, (All2.of_map c).imp fun x y hx hy e => ?_⟩
        obtain ⟨e1, e2⟩ := Prod.mk.inj e
        exact ⟨e1, (ih.iff (I _ (nod_mem ⟨i0, i1⟩) x hx) (I _ (nod_mem ⟨j0, j1⟩) y hy)).mp e2⟩
      · rintro ⟨a, b, c⟩
        have c' : All2 (fun x y => x.1 = y.1 ∧ gI (marks g k) x.2 = gI (marks g k) y.2) (nod g i).mv (nod g j).mv := c.imp fun x y hx hy e => ⟨e.1, (ih.iff (I _ (nod_mem ⟨i0, i1⟩) x hx) (I _ (nod_mem ⟨j0, j1⟩) y hy)).mpr e.2⟩
        exact ⟨a, b, c'.map_eq fun x y e => Prod.ext e.1 e.2⟩
    have hu : marks g (k + 1) = (g.nd.map fun n => (n.fb, n.cl, n.mv.map fun x => (x.1, gI (marks g k) x.2))).map fun o => (firstOf (g.nd.map fun n => (n.fb, n.cl, n.mv.map fun x => (x.1, gI (marks g k) x.2))) o : Int) := rfl
    generalize hfull : (g.nd.map fun n => (n.fb, n.cl, n.mv.map fun x => (x.1, gI (marks g k) x.2))) = full at hu
    have hfl : full.length = g.nd.length := by rw [← hfull]; simp
    have hat : ∀ i : Int, ∀ (h0 : 0 ≤ i) (h1 : i < g.nd.length), full[i.toNat]'(by omega) = ((nod g i).fb, (nod g i).cl, (nod g i).mv.map fun x => (x.1, gI (marks g k) x.2)) := by
      intro i h0 h1
      subst hfull
      rw [List.getElem_map]
      have : nod g i = g.nd[i.toNat]'(by omega) := gI_get' ⟨h0, h1⟩
      rw [this]
    have hm : ∀ i : Int, ∀ (h0 : 0 ≤ i) (h1 : i < g.nd.length), gI (marks g (k + 1)) i = (firstOf full (full[i.toNat]'(by omega)) : Int) := by
      intro i h0 h1
      rw [hu, gI_get' ⟨h0, by rw [List.length_map]; omega⟩, List.getElem_map]
    have hmem : ∀ i : Int, ∀ (h0 : 0 ≤ i) (h1 : i < g.nd.length), full[i.toNat]'(by omega) ∈ full := fun i h0 h1 => List.getElem_mem _
    refine ⟨marks_len g _, fun i h0 h1 => ?_, fun i h0 h1 => ?_, fun i j i0 i1 j0 j1 e => ?_⟩
    · rw [hm i h0 h1]
      have := first_lt (hmem i h0 h1)
      omega
    · rw [hm i h0 h1]
      have hl := first_lt (hmem i h0 h1)
      have hg := first_get (hmem i h0 h1)
      have h2 := hat (firstOf full (full[i.toNat]'(by omega)) : Int) (by omega) (by omega)
      rw [← sg _ _ (by omega) (by omega) h0 h1, ← h2, ← hat i h0 h1]
      simp only [Int.toNat_natCast]
      exact hg
    · rw [hm i i0 i1, hm j j0 j1, hat i i0 i1, hat j j0 j1, (sg i j i0 i1 j0 j1).mpr e]
/-- marks that tell alike nodes: each part has one -/
structure MkL (g : Gd) (M : List Int) : Prop where
  len : M.length = g.nd.length
  rng : ∀ i : Int, 0 ≤ i → i < g.nd.length → 0 ≤ gI M i ∧ gI M i < g.nd.length
  own : ∀ i : Int, 0 ≤ i → i < g.nd.length → Alike g (gI M i) g i
  eq : ∀ i j : Int, 0 ≤ i → i < g.nd.length → 0 ≤ j → j < g.nd.length → Alike g i g j → gI M i = gI M j
theorem mkL_of {g : Gd} (I : InG g) {k : Nat} {M : List Int} (h : MkOk g k M) (s : ∀ i j : Int, 0 ≤ i ∧ i < g.nd.length → 0 ≤ j ∧ j < g.nd.length → sig g k i = sig g k j → Alike g i g j) : MkL g M :=
  ⟨h.len, h.rng, fun i h0 h1 => s _ _ (h.rng i h0 h1) ⟨h0, h1⟩ (h.own i h0 h1), fun i j i0 i1 j0 j1 a => h.eq i j i0 i1 j0 j1 (a k)⟩
theorem marks_mkL {g : Gd} (I : InG g) : MkL g (marks g (g.nd.length + 1)) := mkL_of I (marks_ok I _) fun i j hi hj e => alike_N I hi hj e
def stepM (g : Gd) (M : List Int) (m : Int) : List Int := (nod g m).mv.map fun x => gI M x.2
noncomputable def quo (g : Gd) (M order : List Int) : List Nd := order.map fun m => ⟨(nod g m).mv.map fun x => (x.1, (firstOf order (gI M x.2) : Int)), (nod g m).fb, (nod g m).cl⟩
noncomputable def ordM (g : Gd) (M : List Int) : List Int := bfsN (stepM g M) (gI M 0) g.nd.length
noncomputable def leastG (g : Gd) : Gd := { g with nd := quo g (marks g (g.nd.length + 1)) (ordM g (marks g (g.nd.length + 1))) }
section
variable {g : Gd} {M : List Int}
theorem ord_rng (I : InG g) (h : MkL g M) (h0 : 0 < g.nd.length) : ∀ n, ∀ x ∈ bfsN (stepM g M) (gI M 0) n, (0 ≤ x ∧ x < (g.nd.length : Int)) ∧ gI M x = x := by
  refine bfs_all (P := fun x => (0 ≤ x ∧ x < (g.nd.length : Int)) ∧ gI M x = x) ?_ fun x hx y hy => ?_
  · have r := h.rng 0 (by omega) (by omega)
    exact ⟨r, h.eq _ _ r.1 r.2 (by omega) (by omega) (h.own 0 (by omega) (by omega))⟩
  · obtain ⟨z, hz, rfl⟩ := List.mem_map.mp hy
    have t := I _ (nod_mem hx.1) z hz
    have r := h.rng _ t.1 t.2
    exact ⟨r, h.eq _ _ r.1 r.2 t.1 t.2 (h.own _ t.1 t.2)⟩
theorem ord_closed (I : InG g) (h : MkL g M) (h0 : 0 < g.nd.length) {n : Nat} (hn : g.nd.length ≤ n) : ∀ x ∈ bfsN (stepM g M) (gI M 0) n, ∀ z ∈ (nod g x).mv, gI M z.2 ∈ bfsN (stepM g M) (gI M 0) n := fun x hx z hz =>
  bfs_closed (M := g.nd.length) (fun n x hx => (ord_rng I h h0 n x hx).1) hn x hx _ (List.mem_map.mpr ⟨z, hz, rfl⟩)
theorem ord_stable (I : InG g) (h : MkL g M) (h0 : 0 < g.nd.length) {n : Nat} (hn : g.nd.length ≤ n) : bfsN (stepM g M) (gI M 0) n = ordM g M :=
  bfs_stable (bfs_len (fun n x hx => (ord_rng I h h0 n x hx).1) _) n hn
end
def RelM (g : Gd) (M : List Int) (h : Gd) (M' : List Int) (x y : Int) : Prop := ((0 ≤ x ∧ x < (g.nd.length : Int)) ∧ gI M x = x) ∧ ((0 ≤ y ∧ y < (h.nd.length : Int)) ∧ gI M' y = y) ∧ Alike g x h y
theorem relM_biu {g h : Gd} {M M' : List Int} (hM : MkL g M) (hM' : MkL h M') : Biu (RelM g M h M') := by
  rintro a b a' b' ⟨⟨a1, a2⟩, ⟨b1, b2⟩, r⟩ ⟨⟨c1, c2⟩, ⟨d1, d2⟩, r'⟩
  constructor
  · rintro rfl
    rw [← b2, ← d2]
    exact hM'.eq _ _ b1.1 b1.2 d1.1 d1.2 (r.symm.trans r')
  · rintro rfl
    rw [← a2, ← c2]
    exact hM.eq _ _ a1.1 a1.2 c1.1 c1.2 (r.trans r'.symm)
theorem relM_mk {g h : Gd} {M M' : List Int} (hM : MkL g M) (hM' : MkL h M') {i j : Int} (hi : 0 ≤ i ∧ i < (g.nd.length : Int)) (hj : 0 ≤ j ∧ j < (h.nd.length : Int)) (a : Alike g i h j) : RelM g M h M' (gI M i) (gI M' j) := by
  have r := hM.rng i hi.1 hi.2
  have r' := hM'.rng j hj.1 hj.2
  exact ⟨⟨r, hM.eq _ _ r.1 r.2 hi.1 hi.2 (hM.own i hi.1 hi.2)⟩, ⟨r', hM'.eq _ _ r'.1 r'.2 hj.1 hj.2 (hM'.own j hj.1 hj.2)⟩, ((hM.own i hi.1 hi.2).trans a).trans (hM'.own j hj.1 hj.2).symm⟩
/-- alike first nodes: one least guide -/
theorem quo_unique {g h : Gd} {M M' : List Int} (I : InG g) (J : InG h) (hM : MkL g M) (hM' : MkL h M') (g0 : 0 < g.nd.length) (h0 : 0 < h.nd.length) (a : Alike g 0 h 0) : quo g M (ordM g M) = quo h M' (ordM h M') := by
  have B := relM_biu hM hM'
  have st : ∀ x y, RelM g M h M' x y → All2 (fun z w => z.1 = w.1 ∧ RelM g M h M' (gI M z.2) (gI M' w.2)) (nod g x).mv (nod h y).mv := fun x y r =>
    (r.2.2.step).2.2.imp fun z w hz hw e => ⟨e.1, relM_mk hM hM' (I _ (nod_mem r.1.1) z hz) (J _ (nod_mem r.2.1.1) w hw) e.2⟩
  have two := bfs_two B (relM_mk hM hM' (i := 0) (j := 0) (by omega) (by omega) a) (fun x y r => ((st x y r).imp fun z w _ _ e => e.2).mapL (R := RelM g M h M') (f := fun z : Str × Int => gI M z.2) (g := fun w : Str × Int => gI M' w.2)) (g.nd.length + h.nd.length)
  have e1 := ord_stable I hM g0 (n := g.nd.length + h.nd.length) (by omega)
  have e2 := ord_stable J hM' h0 (n := g.nd.length + h.nd.length) (by omega)
  have two' : All2 (RelM g M h M') (ordM g M) (ordM h M') := by
    rw [← e1, ← e2]
    exact two
  have cl := ord_closed I hM g0 (Nat.le_refl _)
  have cl' : ∀ x ∈ ordM g M, ∀ z ∈ (nod g x).mv, gI M z.2 ∈ ordM g M := cl
  unfold quo
  have both : All2 (fun x y => RelM g M h M' x y ∧ x ∈ ordM g M) (ordM g M) (ordM h M') := two'.imp fun x y hx _ r => ⟨r, hx⟩
  refine both.map_eq fun x y r => ?_
  obtain ⟨r, hx⟩ := r
  have s := r.2.2.step
  have e : (nod g x).mv.map (fun z => (z.1, (firstOf (ordM g M) (gI M z.2) : Int))) = (nod h y).mv.map fun w => (w.1, (firstOf (ordM h M') (gI M' w.2) : Int)) := by
    have q : All2 (fun z w => z.1 = w.1 ∧ firstOf (ordM g M) (gI M z.2) = firstOf (ordM h M') (gI M' w.2)) (nod g x).mv (nod h y).mv := (st x y r).imp fun z w hz _ e => ⟨e.1, two'.first B e.2 (cl' x hx z hz)⟩
    exact q.map_eq fun z w e => Prod.ext e.1 (by show (firstOf _ _ : Int) = (firstOf _ _ : Int); rw [e.2])
  rw [e, s.1, s.2.1]
/-- the nodes of the least guide are alike to those that they stand for -/
theorem quo_alike {g : Gd} {M : List Int} (I : InG g) (hM : MkL g M) (g0 : 0 < g.nd.length) : ∀ k : Nat, ∀ n : Nat, ∀ h : n < (ordM g M).length, sig { g with nd := quo g M (ordM g M) } k (n : Int) = sig g k (ordM g M)[n]
  | 0, _, _ => rfl
  | k + 1, n, h => by
    have ih := quo_alike I hM g0 k
    have cl : ∀ x ∈ ordM g M, ∀ z ∈ (nod g x).mv, gI M z.2 ∈ ordM g M := ord_closed I hM g0 (Nat.le_refl _)
    have hn : nod { g with nd := quo g M (ordM g M) } (n : Int) = ⟨(nod g (ordM g M)[n]).mv.map fun x => (x.1, (firstOf (ordM g M) (gI M x.2) : Int)), (nod g (ordM g M)[n]).fb, (nod g (ordM g M)[n]).cl⟩ := by
      show gI (quo g M (ordM g M)) (n : Int) = _
      rw [gI_get (by unfold quo; rw [List.length_map]; exact h)]
      unfold quo
      rw [List.getElem_map]
    rw [sig_succ, hn]
    refine ⟨rfl, rfl, ?_⟩
    have hx : (ordM g M)[n] ∈ ordM g M := List.getElem_mem h
    have hr := (ord_rng I hM g0 _ _ hx).1
    generalize (ordM g M)[n] = x at hx hr
    have q : ∀ l : List (Str × Int), (∀ z ∈ l, z ∈ (nod g x).mv) → All2 (fun a b => a.1 = b.1 ∧ sig { g with nd := quo g M (ordM g M) } k a.2 = sig g k b.2) (l.map fun z => (z.1, (firstOf (ordM g M) (gI M z.2) : Int))) l := by
      intro l
      induction l with
      | nil => intro _; exact .nil
      | cons z l ihl =>
        intro hl
        refine .cons ⟨rfl, ?_⟩ (ihl fun w hw => hl w (.tail _ hw))
        have hz := cl x hx z (hl z (.head _))
        have e := ih _ (first_lt hz)
        rw [first_get hz] at e
        have t := I _ (nod_mem hr) z (hl z (.head _))
        exact e.trans (hM.own _ t.1 t.2 k)
    exact q _ fun _ h => h
theorem quo_inG {g : Gd} {M : List Int} (I : InG g) (hM : MkL g M) (g0 : 0 < g.nd.length) : InG { g with nd := quo g M (ordM g M) } := by
  have cl : ∀ x ∈ ordM g M, ∀ z ∈ (nod g x).mv, gI M z.2 ∈ ordM g M := ord_closed I hM g0 (Nat.le_refl _)
  intro n hn x hx
  obtain ⟨m, hm, rfl⟩ := List.mem_map.mp hn
  obtain ⟨z, hz, rfl⟩ := List.mem_map.mp hx
  have := first_lt (cl m hm z hz)
  show 0 ≤ (firstOf (ordM g M) (gI M z.2) : Int) ∧ (firstOf (ordM g M) (gI M z.2) : Int) < ((quo g M (ordM g M)).length : Int)
  unfold quo
  rw [List.length_map]
  omega
theorem ord_pos (g : Gd) (M : List Int) : 0 < (ordM g M).length := by
  obtain ⟨r, h⟩ := bfs_head (step := stepM g M) (s := gI M 0) g.nd.length
  unfold ordM
  rw [h]
  simp
theorem ord_zero (g : Gd) (M : List Int) : (ordM g M)[0]'(ord_pos g M) = gI M 0 := by
  obtain ⟨r, h⟩ := bfs_head (step := stepM g M) (s := gI M 0) g.nd.length
  have : ordM g M = gI M 0 :: r := h
  simp [this]
theorem quo_root {g : Gd} {M : List Int} (I : InG g) (hM : MkL g M) (g0 : 0 < g.nd.length) : Alike g 0 { g with nd := quo g M (ordM g M) } 0 := by
  intro k
  have := quo_alike I hM g0 k 0 (ord_pos g M)
  rw [ord_zero] at this
  exact (hM.own 0 (by omega) (by omega) k).symm.trans this.symm
/-- the least guide of what is alike -/
theorem least_eq {g h : Gd} (I : InG g) (J : InG h) (g0 : 0 < g.nd.length) (h0 : 0 < h.nd.length) (hi : g.ins = h.ins) (ho : g.outs = h.outs) (a : Alike g 0 h 0) : leastG g = leastG h := by
  unfold leastG
  rw [quo_unique I J (marks_mkL I) (marks_mkL J) g0 h0 a, hi, ho]
theorem least_inG {g : Gd} (I : InG g) (g0 : 0 < g.nd.length) : InG (leastG g) := quo_inG I (marks_mkL I) g0
theorem least_pos (g : Gd) : 0 < (leastG g).nd.length := by
  show 0 < (quo _ _ _).length
  unfold quo
  rw [List.length_map]
  exact ord_pos _ _
theorem least_least {g : Gd} (I : InG g) (g0 : 0 < g.nd.length) : leastG (leastG g) = leastG g :=
  (least_eq I (least_inG I g0) g0 (least_pos g) rfl rfl (quo_root I (marks_mkL I) g0)).symm
theorem least_len {g : Gd} (I : InG g) (g0 : 0 < g.nd.length) : (leastG g).nd.length ≤ g.nd.length := by
  show (quo _ _ _).length ≤ _
  unfold quo
  rw [List.length_map]
  exact bfs_len (fun n x hx => (ord_rng I (marks_mkL I) g0 n x hx).1) _
/-- what makes a guide good stays -/
theorem nodeGood_mv {n : Nd} {mv : List (Str × Int)} {ls : List Str} {N N' : Int} (h : NodeGood n ls N) (e : mv.map (·.1) = n.mv.map (·.1)) (t : ∀ x ∈ mv, 0 ≤ x.2 ∧ x.2 < N') : NodeGood ⟨mv, n.fb, n.cl⟩ ls N' := by
  obtain ⟨h1, h2, h3, h4, h5⟩ := h
  unfold movesB at h1
  rw [Bool.and_eq_true] at h1
  refine ⟨?_, h2, by show sortS (mv.map (·.1) ++ n.fb) = ls; rw [e]; exact h3, fun c hc => by show clauseB c (mv.map (·.1)) = true; rw [e]; exact h4 c hc, h5⟩
  show movesB mv N' = true
  unfold movesB
  rw [Bool.and_eq_true, e]
  refine ⟨List.all_eq_true.mpr fun x hx => ?_, h1.2⟩
  have := t x hx
  unfold mvB inB
  simp
  omega
theorem quo_good {g : Gd} {M : List Int} (G : GoodG g) (I : InG g) (hM : MkL g M) (g0 : 0 < g.nd.length) : GoodG { g with nd := quo g M (ordM g M) } := by
  have hl : (ordM g M).length ≤ g.nd.length := bfs_len (fun n x hx => (ord_rng I hM g0 n x hx).1) _
  have Q := quo_inG I hM g0
  refine ⟨G.ins, G.outs, G.dis, ?_, fun n hn => ?_, fun n hn => ?_⟩
  · show (quo g M (ordM g M)).length ≤ 60
    unfold quo
    rw [List.length_map]
    have := G.len
    omega
  · have hq := Q n hn
    obtain ⟨m, hm, rfl⟩ := List.mem_map.mp hn
    have hr := (ord_rng I hM g0 _ _ hm).1
    exact nodeGood_mv (G.nodes _ (nod_mem hr)) (by rw [List.map_map]; rfl) hq
  · obtain ⟨m, hm, rfl⟩ := List.mem_map.mp hn
    have hr := (ord_rng I hM g0 _ _ hm).1
    have := G.sm _ (nod_mem hr)
    show ((nod g m).mv.map _).length ≤ 5000 ∧ (nod g m).fb.length ≤ 5000 ∧ (nod g m).cl.length ≤ 5000
    rw [List.length_map]
    exact this
theorem GoodG.inG {g : Gd} (G : GoodG g) : InG g := fun n hn x hx => by
  have h := (G.nodes n hn).1
  unfold movesB at h
  rw [Bool.and_eq_true] at h
  have := List.all_eq_true.mp h.1 x hx
  unfold mvB inB at this
  simp at this
  omega
theorem least_good {g : Gd} (G : GoodG g) (g0 : 0 < g.nd.length) : GoodG (leastG g) := quo_good G G.inG (marks_mkL G.inG) g0
theorem g_0 (g : Gd) : pIxA [encGd g, .int 0] = some (fz (.lst (encS g.ins))) := by simp [encGd]
theorem g_1 (g : Gd) : pIxA [encGd g, .int 1] = some (fz (.lst (encS g.outs))) := by simp [encGd]
theorem g_2 (g : Gd) : pIxA [encGd g, .int 2] = some (fz (.lst (g.nd.map encNd))) := by simp [encGd]
theorem n_0 (n : Nd) : pIxA [encNd n, .int 0] = some (fz (.lst (n.mv.map encMv))) := by simp [encNd]
theorem n_1 (n : Nd) : pIxA [encNd n, .int 1] = some (fz (.lst (encS n.fb))) := by simp [encNd]
theorem n_2 (n : Nd) : pIxA [encNd n, .int 2] = some (fz (.lst (n.cl.map encC))) := by simp [encNd]
theorem m_0 (m : Str × Int) : pIxA [encMv m, .int 0] = some (fz (.str m.1)) := by simp [encMv]
theorem m_1 (m : Str × Int) : pIxA [encMv m, .int 1] = some (fz (.int m.2)) := by simp [encMv]
theorem encI_get {l : List Int} {i : Int} (h : 0 ≤ i ∧ i < l.length) : L2.atI (encI l) i = some (.int (gI l i)) := by
  unfold encI
  rw [atI_map, gI_at h]; rfl
theorem nd_get {g : Gd} {i : Int} (h : 0 ≤ i ∧ i < g.nd.length) : L2.atI (g.nd.map encNd) i = some (encNd (nod g i)) := by
  rw [atI_map, gI_at h]; rfl
theorem ob_get {g : Gd} {i : Int} (h : 0 ≤ i ∧ i < g.nd.length) : L2.atI (g.nd.map obNd) i = some (obNd (nod g i)) := by
  rw [atI_map, gI_at h]; rfl
def nodeT (n : Nd) : D := .tup [.tup (n.mv.map encMv), .tup (encS n.fb), .tup (n.cl.map encT)]
def formD (g : Gd) : D := .tup [.tup (encS g.ins), .tup (encS g.outs), .tup (g.nd.map nodeT)]
abbrev Fl3 := List Str × List (List Str) × List (Str × Int)
def encFl (f : Fl3) : D := .lst [.lst (encS f.1), .lst (f.2.1.map encC), .lst (f.2.2.map encMv)]
theorem encMv_inj {a b : Str × Int} : encMv a = encMv b ↔ a = b := by
  obtain ⟨a1, a2⟩ := a
  obtain ⟨b1, b2⟩ := b
  simp [encMv]
theorem encFl_inj : ∀ a b, encFl a = encFl b → a = b := by
  rintro ⟨a1, a2, a3⟩ ⟨b1, b2, b3⟩ h
  simp only [encFl, D.lst.injEq, List.cons.injEq, and_true] at h
  obtain ⟨h1, h2, h3⟩ := h
  rw [encS_inj.mp h1, (map_inj fun _ _ e => encC_inj.mp e).mp h2, (map_inj fun _ _ e => encMv_inj.mp e).mp h3]
theorem pl_Fl (a : Fl3) : plainN 8 (encFl a) = true := by
  obtain ⟨a1, a2, a3⟩ := a
  simp [encFl, encC, encMv]
noncomputable def fullOf (g : Gd) (M : List Int) : List Fl3 := g.nd.map fun n => (n.fb, n.cl, n.mv.map fun x => (x.1, gI M x.2))
theorem marks_succ (g : Gd) (k : Nat) : marks g (k + 1) = (fullOf g (marks g k)).map fun o => (firstOf (fullOf g (marks g k)) o : Int) := rfl
def lpE (g : Gd) (M : List Int) (s2 s3 s4 : Slot) : En := [.sh (encGd g), .ow (.lst (encI M)), s2, s3, s4, .unb, .unb]
theorem pl_I (l : List Int) : (encI l).all (plainN 8) = true := by
  unfold encI
  rw [List.all_map, List.all_eq_true]
  intro x _
  simp
open Classical in
theorem nin_I (l : List Int) (x : Int) : pNotInA [.int x, .lst (encI l)] = some (fz (.bl (decide (x ∉ l)))) := by
  rw [pNotInA_lst _ _ (by simp) (pl_I l)]
  congr 3
  apply decide_eq_decide.mpr
  have : D.int x ∈ encI l ↔ x ∈ l := mem_enc fun _ _ e => D.int.inj e
  rw [this]
theorem addNew_len : ∀ (xs o : List Int), (addNew o xs).length ≤ o.length + xs.length
  | [], o => by show o.length ≤ _; simp
  | x :: xs, o => by
    have := addNew_len xs (if x ∈ o then o else o ++ [x])
    show (addNew _ xs).length ≤ _
    rw [List.length_cons]
    have h2 : (if x ∈ o then o else o ++ [x]).length ≤ o.length + 1 := by split <;> simp
    omega
def llE (g : Gd) (M : List Int) (o : List Int) (s3 s4 s5 s6 s7 : Slot) : En := [.sh (encGd g), .ow (.lst (encI M)), .ow (.lst (encI o)), s3, s4, s5, s6, s7]
abbrev Ky := Int × List (Str × Int) × List Str × List (List Str)
def encKy (k : Ky) : D := .tup [.int k.1, .tup (k.2.1.map encMv), .tup (encS k.2.2.1), .tup (k.2.2.2.map encT)]
theorem encKy_inj : ∀ a b, encKy a = encKy b → a = b := by
  rintro ⟨a0, a1, a2, a3⟩ ⟨b0, b1, b2, b3⟩ h
  simp only [encKy, D.tup.injEq, List.cons.injEq, and_true, D.int.injEq] at h
  obtain ⟨h0, h1, h2, h3⟩ := h
  rw [h0, encS_inj.mp h2, (map_inj fun _ _ e => encMv_inj.mp e).mp h1, (map_inj fun _ _ e => encT_inj.mp e).mp h3]
theorem keyE_Ky : KeyE true encKy := ⟨encKy_inj, fun k => keyB_of (by
  obtain ⟨a0, a1, a2, a3⟩ := k
  simp [encMv, encT])⟩
def keysOf (g : Gd) (P : List Int) : List Ky := ((List.range g.nd.length).zip g.nd).map fun p => (gI P (p.1 : Int), p.2.mv.map (fun x => (x.1, gI P x.2)), p.2.fb, p.2.cl)
noncomputable def insK {K : Type} (d : List (K × Int)) (k : K) : List (K × Int) := match tdget d k with
  | some _ => d
  | none => d ++ [(k, (d.length : Int))]
/-- each key has its place as its number -/
structure NumOk {K : Type} (d : List (K × Int)) : Prop where
  nd : (d.map (·.1)).Nodup
  num : ∀ (i : Nat) (h : i < d.length), d[i].2 = (i : Int)
theorem NumOk.ins {K : Type} {d : List (K × Int)} (h : NumOk d) (k : K) : NumOk (insK d k) ∧ (∀ x, x ∈ (insK d k).map (·.1) ↔ x ∈ d.map (·.1) ∨ x = k) ∧ d <+: insK d k := by
  unfold insK
  cases q : tdget d k with
  | some v =>
    have hm : k ∈ d.map (·.1) := tdget_some.mp (by rw [q]; rfl)
    refine ⟨h, fun x => ⟨.inl, ?_⟩, List.prefix_refl d⟩
    rintro (z | z)
    · exact z
    · subst z; exact hm
  | none =>
    have hm := tdget_none.mp q
    refine ⟨⟨?_, fun i hi => ?_⟩, fun x => ?_, List.prefix_append d _⟩
    · show ((d ++ [(k, (d.length : Int))]).map (·.1)).Nodup
      rw [List.map_append]
      refine List.nodup_append.mpr ⟨h.nd, by simp, fun a ha b hb e => ?_⟩
      rw [List.map_singleton, List.mem_singleton] at hb
      subst hb e
      exact hm ha
    · show (d ++ [(k, (d.length : Int))])[i].2 = _
      have hi' : i < d.length + 1 := by simpa using hi
      by_cases z : i < d.length
      · rw [List.getElem_append_left z]; exact h.num i z
      · have : i = d.length := by omega
        subst this
        simp
    · show x ∈ (d ++ [(k, (d.length : Int))]).map (·.1) ↔ _
      rw [List.map_append, List.mem_append, List.map_singleton, List.mem_singleton]
theorem nums_ok {K : Type} : ∀ (ks : List K) (d : List (K × Int)), NumOk d → NumOk (ks.foldl insK d) ∧ (∀ x, x ∈ (ks.foldl insK d).map (·.1) ↔ x ∈ d.map (·.1) ∨ x ∈ ks) ∧ d <+: ks.foldl insK d
  | [], d, h => ⟨h, by simp, List.prefix_refl d⟩
  | k :: ks, d, h => by
    obtain ⟨a, b, c⟩ := h.ins k
    obtain ⟨a', b', c'⟩ := nums_ok ks (insK d k) a
    refine ⟨a', fun x => ?_, c.trans c'⟩
    rw [List.foldl_cons, b', b, List.mem_cons, or_assoc]
/-- the number of a key -/
theorem NumOk.get {K : Type} {d : List (K × Int)} (h : NumOk d) {k : K} (hk : k ∈ d.map (·.1)) : tdget d k = some (firstOf (d.map (·.1)) k : Int) := by
  have hl := first_lt hk
  have hg := first_get hk
  rw [List.length_map] at hl
  rw [List.getElem_map] at hg
  refine tdget_of h.nd ?_
  have := List.getElem_mem hl
  have e : d[firstOf (d.map (·.1)) k] = (k, (firstOf (d.map (·.1)) k : Int)) := Prod.ext hg (h.num _ hl)
  rw [e] at this
  exact this
theorem keys_get (g : Gd) (P : List Int) (i : Nat) (hi : i < g.nd.length) : (keysOf g P)[i]? = some (gI P (i : Int), (nod g (i : Int)).mv.map (fun x => (x.1, gI P x.2)), (nod g (i : Int)).fb, (nod g (i : Int)).cl) := by
  unfold keysOf
  have h1 : ((List.range g.nd.length).zip g.nd)[i]? = some (i, g.nd[i]) := by
    rw [List.getElem?_eq_getElem (by simp; exact hi), List.getElem_zip]
    simp
  rw [List.getElem?_map, h1]
  have h2 : nod g (i : Int) = g.nd[i] := gI_get hi
  rw [h2]; rfl
theorem keys_len (g : Gd) (P : List Int) : (keysOf g P).length = g.nd.length := by
  unfold keysOf
  simp
/-- numbers of parts -/
structure PtsOk (g : Gd) (k : Nat) (P : List Int) (c : Nat) : Prop where
  len : P.length = g.nd.length
  eq : ∀ i j : Int, 0 ≤ i ∧ i < g.nd.length → 0 ≤ j ∧ j < g.nd.length → (gI P i = gI P j ↔ sig g k i = sig g k j)
  rng : ∀ i : Int, 0 ≤ i ∧ i < g.nd.length → 0 ≤ gI P i ∧ gI P i < c
  sur : ∀ p : Int, 0 ≤ p ∧ p < c → ∃ i : Int, (0 ≤ i ∧ i < g.nd.length) ∧ gI P i = p
  zero : gI P 0 = 0
  cnt : c = (fsts g k).length
theorem pts_zero {g : Gd} (g0 : 0 < g.nd.length) : PtsOk g 0 (g.nd.map fun _ => 0) 1 := by
  have h : ∀ i : Int, 0 ≤ i ∧ i < g.nd.length → gI (g.nd.map fun _ => (0 : Int)) i = 0 := fun i hi => by rw [gI_map hi]
  refine ⟨by simp, fun i j hi hj => by rw [h i hi, h j hj]; exact ⟨fun _ => rfl, fun _ => rfl⟩, fun i hi => by rw [h i hi]; decide, fun p hp => ⟨0, ⟨by omega, by omega⟩, by rw [h 0 ⟨by omega, by omega⟩]; omega⟩, h 0 ⟨by omega, by omega⟩, ?_⟩
  have h1 : fsts g 0 ⊆ [0] := fun x hx => by
    have := (fsts_mem.mp hx).2
    rw [List.mem_singleton]
    rcases Nat.eq_zero_or_pos x with z | z
    · exact z
    · exact absurd rfl (this 0 z)
  have h2 : [0] ⊆ fsts g 0 := fun x hx => by
    rw [List.mem_singleton] at hx
    subst hx
    exact fsts_mem.mpr ⟨g0, fun j hj => absurd hj (by omega)⟩
  have a := nodup_len _ _ (fsts_nodup g 0) h1
  have b := nodup_len [0] (fsts g 0) (by simp) h2
  simp at a b
  omega
/-- the next numbers -/
noncomputable def numsOf (g : Gd) (P : List Int) : List (Ky × Int) := (keysOf g P).foldl insK []
noncomputable def nextP (g : Gd) (P : List Int) : List Int := (keysOf g P).map fun k => (firstOf ((numsOf g P).map (·.1)) k : Int)
def keyAt (g : Gd) (P : List Int) (i : Int) : Ky := (gI P i, (nod g i).mv.map (fun x => (x.1, gI P x.2)), (nod g i).fb, (nod g i).cl)
theorem keys_at (g : Gd) (P : List Int) {i : Int} (h : 0 ≤ i ∧ i < g.nd.length) : (keysOf g P)[i.toNat]? = some (keyAt g P i) := by
  rw [keys_get g P i.toNat (by omega)]
  have e : ((i.toNat : Nat) : Int) = i := by omega
  rw [e]; rfl
theorem keys_mem (g : Gd) (P : List Int) {k : Ky} : k ∈ keysOf g P ↔ ∃ i : Int, (0 ≤ i ∧ i < g.nd.length) ∧ k = keyAt g P i := by
  constructor
  · intro h
    obtain ⟨i, hi, e⟩ := List.getElem_of_mem h
    rw [keys_len] at hi
    have := keys_at g P (i := (i : Int)) ⟨by omega, by omega⟩
    rw [Int.toNat_natCast, List.getElem?_eq_getElem (by rw [keys_len]; exact hi), e] at this
    exact ⟨i, ⟨by omega, by omega⟩, Option.some.inj this⟩
  · rintro ⟨i, hi, rfl⟩
    exact List.mem_of_getElem? (keys_at g P hi)
theorem nums_all (g : Gd) (P : List Int) : NumOk (numsOf g P) ∧ ∀ x, x ∈ (numsOf g P).map (·.1) ↔ x ∈ keysOf g P := by
  obtain ⟨a, b, _⟩ := nums_ok (keysOf g P) ([] : List (Ky × Int)) ⟨by simp, by simp⟩
  exact ⟨a, fun x => (b x).trans (by simp)⟩
theorem next_get (g : Gd) (P : List Int) {i : Int} (h : 0 ≤ i ∧ i < g.nd.length) : gI (nextP g P) i = (firstOf ((numsOf g P).map (·.1)) (keyAt g P i) : Int) := by
  have hl : i.toNat < (keysOf g P).length := by rw [keys_len]; omega
  have := keys_at g P h
  rw [List.getElem?_eq_getElem hl] at this
  rw [gI_get' ⟨h.1, by unfold nextP; rw [List.length_map, keys_len]; exact h.2⟩]
  unfold nextP
  rw [List.getElem_map, Option.some.inj this]
theorem key_eq {g : Gd} {k : Nat} {P : List Int} {c : Nat} (I : InG g) (h : PtsOk g k P c) {i j : Int} (hi : 0 ≤ i ∧ i < g.nd.length) (hj : 0 ≤ j ∧ j < g.nd.length) : keyAt g P i = keyAt g P j ↔ sig g (k + 1) i = sig g (k + 1) j := by
  unfold keyAt
  rw [sig_succ, Prod.mk.injEq, Prod.mk.injEq, Prod.mk.injEq]
  constructor
  · rintro ⟨_, c, a, b⟩
    refine ⟨a, b, (All2.of_map c).imp fun x y hx hy e => ?_⟩
    obtain ⟨e1, e2⟩ := Prod.mk.inj e
    exact ⟨e1, (h.eq _ _ (I _ (nod_mem hi) x hx) (I _ (nod_mem hj) y hy)).mp e2⟩
  · rintro ⟨a, b, c⟩
    have c' : All2 (fun x y => x.1 = y.1 ∧ gI P x.2 = gI P y.2) (nod g i).mv (nod g j).mv := c.imp fun x y hx hy e => ⟨e.1, (h.eq _ _ (I _ (nod_mem hi) x hx) (I _ (nod_mem hj) y hy)).mpr e.2⟩
    exact ⟨(h.eq i j hi hj).mpr (sig_down (sig_succ.mpr ⟨a, b, c⟩)), c'.map_eq fun x y e => Prod.ext e.1 e.2, a, b⟩
theorem pts_next {g : Gd} {k : Nat} {P : List Int} {c : Nat} (I : InG g) (g0 : 0 < g.nd.length) (h : PtsOk g k P c) : PtsOk g (k + 1) (nextP g P) (numsOf g P).length := by
  obtain ⟨N, hm⟩ := nums_all g P
  have hmem : ∀ i : Int, 0 ≤ i ∧ i < g.nd.length → keyAt g P i ∈ (numsOf g P).map (·.1) := fun i hi => (hm _).mpr ((keys_mem g P).mpr ⟨i, hi, rfl⟩)
  have hlen : ((numsOf g P).map (·.1)).length = (numsOf g P).length := List.length_map ..
  refine ⟨by unfold nextP; rw [List.length_map, keys_len], fun i j hi hj => ?_, fun i hi => ?_, fun p hp => ?_, ?_, ?_⟩
  · rw [next_get g P hi, next_get g P hj, ← key_eq I h hi hj]
    constructor
    · intro e
      exact first_inj (hmem i hi) (hmem j hj) (by omega)
    · intro e
      rw [e]
  · rw [next_get g P hi]
    have := first_lt (hmem i hi)
    omega
  · have hp' : p.toNat < ((numsOf g P).map (·.1)).length := by omega
    obtain ⟨i, hi, e⟩ := (keys_mem g P).mp ((hm _).mp (List.getElem_mem hp'))
    refine ⟨i, hi, ?_⟩
    rw [next_get g P hi, ← e, first_nodup N.nd hp']
    omega
  · have h0 : (0 : Int) ≤ 0 ∧ (0 : Int) < g.nd.length := by omega
    rw [next_get g P h0]
    have hk : ∃ r, keysOf g P = keyAt g P 0 :: r := by
      have := keys_at g P h0
      cases q : keysOf g P with
      | nil => rw [q] at this; simp at this
      | cons a r =>
        rw [q] at this
        have e : a = keyAt g P 0 := by simpa using this
        exact ⟨r, by rw [e]⟩
    obtain ⟨r, hk⟩ := hk
    have hd : ∃ r', numsOf g P = (keyAt g P 0, 0) :: r' := by
      unfold numsOf
      rw [hk, List.foldl_cons]
      have : insK ([] : List (Ky × Int)) (keyAt g P 0) = [(keyAt g P 0, 0)] := rfl
      rw [this]
      obtain ⟨_, _, r', e⟩ := nums_ok r [(keyAt g P 0, (0 : Int))] ⟨by simp, fun i hi => by
        have : i = 0 := by simpa using hi
        subst this; rfl⟩
      exact ⟨r', e.symm⟩
    obtain ⟨r', hd⟩ := hd
    have := first_le (l := (numsOf g P).map (·.1)) (x := keyAt g P 0) (i := 0) (by rw [hd]; simp) (by simp [hd])
    omega
  · have a : (numsOf g P).length ≤ (fsts g (k + 1)).length := by
      have := nodup_len ((numsOf g P).map (·.1)) ((fsts g (k + 1)).map fun i => keyAt g P (i : Nat)) N.nd fun x hx => by
        obtain ⟨i, hi, e⟩ := (keys_mem g P).mp ((hm x).mp hx)
        obtain ⟨j, j1, j2, j3⟩ := fst_ex g (k + 1) i.toNat
        have ei : ((i.toNat : Nat) : Int) = i := by omega
        rw [ei] at j3
        refine List.mem_map.mpr ⟨j, fsts_mem.mpr ⟨by omega, j2⟩, ?_⟩
        rw [e]
        exact (key_eq I h ⟨by omega, by omega⟩ hi).mpr j3
      simpa using this
    have b : (fsts g (k + 1)).length ≤ (numsOf g P).length := by
      have := nodup_len ((fsts g (k + 1)).map fun i => keyAt g P (i : Nat)) ((numsOf g P).map (·.1)) (List.pairwise_map.mpr ((fsts_nodup g (k + 1)).imp_of_mem fun {i j} hi hj ne e => ne (by
          have i1 := fsts_mem.mp hi
          have j1 := fsts_mem.mp hj
          exact fst_one i1.2 j1.2 ((key_eq I h ⟨by omega, by omega⟩ ⟨by omega, by omega⟩).mp e)))) fun x hx => by
        obtain ⟨i, hi, rfl⟩ := List.mem_map.mp hx
        have := (fsts_mem.mp hi).1
        exact hmem _ ⟨by omega, by omega⟩
      simpa using this
    omega
/-- numbers of the parts of alike nodes -/
structure PtsA (g : Gd) (P : List Int) (c : Nat) : Prop where
  len : P.length = g.nd.length
  eq : ∀ i j : Int, 0 ≤ i ∧ i < g.nd.length → 0 ≤ j ∧ j < g.nd.length → (gI P i = gI P j ↔ Alike g i g j)
  rng : ∀ i : Int, 0 ≤ i ∧ i < g.nd.length → 0 ≤ gI P i ∧ gI P i < c
  sur : ∀ p : Int, 0 ≤ p ∧ p < c → ∃ i : Int, (0 ≤ i ∧ i < g.nd.length) ∧ gI P i = p
  zero : gI P 0 = 0
  cle : c ≤ g.nd.length
theorem pts_A {g : Gd} {k : Nat} {P : List Int} {c : Nat} (I : InG g) (h : PtsOk g k P c) (s : Stay g k) : PtsA g P c :=
  ⟨h.len, fun i j hi hj => ⟨fun e => stay_alike I s hi hj ((h.eq i j hi hj).mp e), fun a => (h.eq i j hi hj).mpr (a k)⟩, h.rng, h.sur, h.zero, by rw [h.cnt]; exact fsts_le g k⟩
def paE (g : Gd) (s1 : Slot) (c : Int) (s3 s4 : Slot) : En := [.sh (obGd g), s1, .sh (.int c), s3, s4, .unb]
theorem fm_congr {α β : Type} {f g : α → Option β} : ∀ {l : List α}, (∀ a ∈ l, f a = g a) → l.filterMap f = l.filterMap g
  | [], _ => rfl
  | a :: l, h => by rw [List.filterMap_cons, List.filterMap_cons, h a (.head _), fm_congr fun b hb => h b (.tail _ hb)]
theorem sub_get {β : Type} : ∀ {ls : List Str} {mv : List (Str × β)}, (mv.map (·.1)).Sublist ls → ls.Nodup → ls.filterMap (fun l => tdget mv l) = mv.map (·.2)
  | [], mv, h, _ => by
    have : mv = [] := by simpa using h
    subst this; rfl
  | l :: ls, mv, h, nd => by
    obtain ⟨n1, n2⟩ := List.nodup_cons.mp nd
    cases h' : mv with
    | nil =>
      subst h'
      have : (l :: ls).filterMap (fun l => tdget ([] : List (Str × β)) l) = [] := List.filterMap_eq_nil_iff.mpr fun _ _ => rfl
      rw [this]; rfl
    | cons x mv' =>
      subst h'
      rw [List.map_cons] at h
      by_cases e : x.1 = l
      · have hs : (mv'.map (·.1)).Sublist ls := by
          rw [e] at h
          exact (List.cons_sublist_cons.mp h)
        rw [List.filterMap_cons, tdget_pos e]
        have e2 : ls.filterMap (fun l => tdget (x :: mv') l) = ls.filterMap (fun l => tdget mv' l) := fm_congr fun y hy => tdget_neg (fun z => n1 (by rw [← e, z]; exact hy))
        show x.2 :: _ = _
        rw [e2, sub_get hs n2]
        rfl
      · have hs : ((x :: mv').map (·.1)).Sublist ls := by
          rw [List.map_cons]
          rcases List.sublist_cons_iff.mp h with z | ⟨r, z1, _⟩
          · exact z
          · rw [List.cons.injEq] at z1
            exact absurd z1.1 e
        have hl : tdget (x :: mv') l = none := tdget_none.mpr fun z => n1 (hs.subset z)
        rw [List.filterMap_cons, hl]
        exact sub_get hs n2
theorem sub_filter : ∀ {ls m : List Str}, m.Sublist ls → ls.Nodup → (ls.filter fun l => decide (l ∈ m)) = m
  | _, _, .slnil, _ => rfl
  | l :: ls, m, .cons _ h, nd => by
    obtain ⟨n1, n2⟩ := List.nodup_cons.mp nd
    rw [List.filter_cons, if_neg (by simpa using fun z => n1 (h.subset z))]
    exact sub_filter h n2
  | l :: ls, _ :: m, .cons₂ _ h, nd => by
    obtain ⟨n1, n2⟩ := List.nodup_cons.mp nd
    rw [List.filter_cons, if_pos (by simp)]
    have : (ls.filter fun x => decide (x ∈ l :: m)) = ls.filter fun x => decide (x ∈ m) := List.filter_congr fun x hx => by
      have : x ≠ l := fun z => n1 (z ▸ hx)
      simp [this]
    rw [this, sub_filter h n2]
def encMd (mv : List (Str × Int)) : D := .dic (mv.map (encDi D.str D.int))
def encCs (cs : List (List Str)) : D := .lst (cs.map encC)
def plc (o : List Int) : List (Int × Int) := o.zipIdx.map fun p => (p.1, (p.2 : Int))
theorem plc_keys (o : List Int) : (plc o).map (·.1) = o := by
  unfold plc
  rw [List.map_map]
  have : ((fun x : Int × Int => x.1) ∘ fun p : Int × Nat => (p.1, (p.2 : Int))) = Prod.fst := rfl
  rw [this, List.zipIdx_map_fst]
theorem plc_snoc (o : List Int) (x : Int) : plc (o ++ [x]) = plc o ++ [(x, (o.length : Int))] := by
  unfold plc
  rw [List.zipIdx_append, List.map_append]
  simp
theorem plc_len (o : List Int) : (plc o).length = o.length := by
  unfold plc
  simp
theorem plc_ok {o : List Int} (h : o.Nodup) : NumOk (plc o) := ⟨by rw [plc_keys]; exact h, fun i hi => by
  have hi' : i < o.length := by rw [plc_len] at hi; exact hi
  have h2 : (plc o)[i]? = some (o[i], (i : Int)) := by unfold plc; simp [hi']
  have h3 := (List.getElem?_eq_some_iff.mp h2).2
  rw [h3]⟩
structure NumIn (ins outs : List Str) (mvs : List (List (Str × Int))) (cls : List (List (List Str))) : Prop where
  i : ∀ x ∈ ins, x.length ≤ 10
  o : ∀ x ∈ outs, x.length ≤ 10
  il : ins.length ≤ 10
  ol : outs.length ≤ 10
  nd : (labL ins outs).Nodup
  pos : 0 < mvs.length
  len : mvs.length ≤ 1000
  cl : cls.length = mvs.length
  sub : ∀ p : Int, 0 ≤ p ∧ p < mvs.length → ((gI mvs p).map (·.1)).Sublist (labL ins outs)
  tg : ∀ p : Int, 0 ≤ p ∧ p < mvs.length → ∀ x ∈ gI mvs p, 0 ≤ x.2 ∧ x.2 < mvs.length
def stepN (mvs : List (List (Str × Int))) (p : Int) : List Int := (gI mvs p).map (·.2)
def ordN (mvs : List (List (Str × Int))) : List Int := bfsN (stepN mvs) 0 mvs.length
section
variable {ins outs : List Str} {mvs : List (List (Str × Int))} {cls : List (List (List Str))}
theorem ordN_rng (N : NumIn ins outs mvs cls) : ∀ n, ∀ x ∈ bfsN (stepN mvs) 0 n, 0 ≤ x ∧ x < (mvs.length : Int) := by
  refine bfs_all (P := fun x => 0 ≤ x ∧ x < (mvs.length : Int)) ⟨by decide, by have := N.pos; omega⟩ fun x hx y hy => ?_
  obtain ⟨z, hz, rfl⟩ := List.mem_map.mp hy
  exact N.tg x hx z hz
theorem ordN_closed (N : NumIn ins outs mvs cls) : ∀ x ∈ ordN mvs, ∀ z ∈ gI mvs x, z.2 ∈ ordN mvs := fun x hx z hz =>
  bfs_closed (M := mvs.length) (ordN_rng N) (Nat.le_refl _) x hx _ (List.mem_map.mpr ⟨z, hz, rfl⟩)
theorem ordN_len (N : NumIn ins outs mvs cls) : (ordN mvs).length ≤ mvs.length := bfs_len (ordN_rng N) _
end
noncomputable def numNd (ins outs : List Str) (mvs : List (List (Str × Int))) (mn : Int → List (List Str)) (p : Int) : Nd := ⟨(gI mvs p).map fun x => (x.1, (firstOf (ordN mvs) x.2 : Int)), (labL ins outs).filter fun l => decide (l ∉ (gI mvs p).map (·.1)), mn p⟩
noncomputable def numGd (ins outs : List Str) (mvs : List (List (Str × Int))) (mn : Int → List (List Str)) : Gd := ⟨ins, outs, (ordN mvs).map (numNd ins outs mvs mn)⟩
def nuE (ins outs : List Str) (mvs : List (List (Str × Int))) (cls : List (List (List Str))) (s4 : Slot) (o : List Int) (at' : Int) (s10 s14 : Slot) : En :=
  [.sh (.lst (encS ins)), .sh (.lst (encS outs)), .sh (.lst (mvs.map encMd)), .sh (.lst (cls.map encCs)), s4, .ow (.lst (encI o)), .ow (.dic ((plc o).map (encDi D.int D.int))), .sh (.int at'), .unb, .unb, s10, .unb, .unb, .unb, s14, .unb]
theorem MinOf.unique {raw ks ks' : List (List Str)} (h : MinOf raw ks) (h' : MinOf raw ks') : ks = ks' := by
  have e : ks.map encC = ks'.map encC := sort_unique (fun a ha => by obtain ⟨c, _, rfl⟩ := List.mem_map.mp ha; exact pl_C c) (fun a ha => by obtain ⟨c, _, rfl⟩ := List.mem_map.mp ha; exact pl_C c)
    (fun a ha b hb => by
      obtain ⟨c, _, rfl⟩ := List.mem_map.mp ha
      obtain ⟨d, _, rfl⟩ := List.mem_map.mp hb
      exact alike_strs c d)
    (List.pairwise_map.mpr (h.1.imp fun q e => q (encC_inj.mp e))) (List.pairwise_map.mpr (h'.1.imp fun q e => q (encC_inj.mp e))) (sorted_pw h.2.1) (sorted_pw h'.2.1) (fun a => by
      constructor
      · intro ha
        obtain ⟨c, hc, rfl⟩ := List.mem_map.mp ha
        exact mem_C.mpr ((h'.2.2 c).mpr ((h.2.2 c).mp hc))
      · intro ha
        obtain ⟨c, hc, rfl⟩ := List.mem_map.mp ha
        exact mem_C.mpr ((h.2.2 c).mpr ((h'.2.2 c).mp hc)))
  exact (List.map_inj_right (fun x y e => encC_inj.mp e)).mp e
theorem labL_ok {e : En} {ins outs : List Str} {m : Nat} (i : ∀ x ∈ ins, x.length ≤ 10) (o : ∀ x ∈ outs, x.length ≤ 10) (il : ins.length ≤ 10) (ol : outs.length ≤ 10) :
    pAdd [.lst (ins.map fun x => D.str ("!" ++ x)), .lst (outs.map fun x => D.str ("?" ++ x))] = some (nw (.lst (encS (labL ins outs)))) := by
  rw [pAdd_lst (smallL (by simp; omega))]
  simp [labL, Function.comp_def]
/-- moves in the labels' order, all others forbidden -/
def Frm (g : Gd) : Prop := ∀ n ∈ g.nd, (n.mv.map (·.1)).Sublist (labL g.ins g.outs) ∧ n.fb = (labL g.ins g.outs).filter fun l => decide (l ∉ n.mv.map (·.1))
theorem minOf_self {cl : List (List Str)} (nd : cl.Nodup) (an : Anti cl) (st : sortD (cl.map encC) = cl.map encC) : MinOf cl cl := ⟨nd, st, fun c => ⟨fun h => ⟨h, an c h⟩, fun h => h.1⟩⟩
section
variable {g : Gd} {P : List Int} {c : Nat}
noncomputable def fstP (P : List Int) (p : Int) : Int := (firstOf P p : Int)
theorem fstP_ok (h : PtsA g P c) {p : Int} (hp : 0 ≤ p ∧ p < c) : (0 ≤ fstP P p ∧ fstP P p < g.nd.length) ∧ gI P (fstP P p) = p ∧ p ∈ P := by
  obtain ⟨i, hi, e⟩ := h.sur p hp
  have hm : p ∈ P := by rw [← e]; exact gI_mem (by rw [h.len]; exact hi)
  have hl := first_lt hm
  have hg := first_get hm
  have hr : 0 ≤ fstP P p ∧ fstP P p < g.nd.length := by unfold fstP; rw [h.len] at hl; omega
  refine ⟨hr, ?_, hm⟩
  unfold fstP
  rw [gI_get hl]
  exact hg
noncomputable def mvsP (g : Gd) (P : List Int) (c : Nat) : List (List (Str × Int)) := (List.range c).map fun p => (nod g (fstP P (p : Nat))).mv.map fun x => (x.1, gI P x.2)
noncomputable def clsP (g : Gd) (P : List Int) (c : Nat) : List (List (List Str)) := (List.range c).map fun p => (nod g (fstP P (p : Nat))).cl
theorem mvsP_get {p : Int} (hp : 0 ≤ p ∧ p < c) : gI (mvsP g P c) p = (nod g (fstP P p)).mv.map fun x => (x.1, gI P x.2) := by
  unfold mvsP
  rw [gI_get' ⟨hp.1, by simp; exact hp.2⟩, List.getElem_map]
  have : (((List.range c)[p.toNat]'(by simp; omega) : Nat) : Int) = p := by simp; omega
  rw [this]
theorem clsP_get {p : Int} (hp : 0 ≤ p ∧ p < c) : gI (clsP g P c) p = (nod g (fstP P p)).cl := by
  unfold clsP
  rw [gI_get' ⟨hp.1, by simp; exact hp.2⟩, List.getElem_map]
  have : (((List.range c)[p.toNat]'(by simp; omega) : Nat) : Int) = p := by simp; omega
  rw [this]
theorem numInP (G : GoodG g) (F : Frm g) (L : (labL g.ins g.outs).Nodup) (g0 : 0 < g.nd.length) (h : PtsA g P c) : NumIn g.ins g.outs (mvsP g P c) (clsP g P c) := by
  obtain ⟨i1, i2⟩ := msgsB_len G.ins
  obtain ⟨o1, o2⟩ := msgsB_len G.outs
  have hl : (mvsP g P c).length = c := by unfold mvsP; simp
  have hc : 0 < c := by have := h.rng 0 ⟨by omega, by omega⟩; omega
  have := G.len
  have := h.cle
  refine ⟨fun x hx => by have := i2 x hx; omega, fun x hx => by have := o2 x hx; omega, by omega, by omega, L, by omega, by omega, by unfold clsP mvsP; simp, fun p hp => ?_, fun p hp x hx => ?_⟩
  · rw [hl] at hp
    rw [mvsP_get hp, List.map_map]
    exact (F _ (nod_mem (fstP_ok h hp).1)).1
  · rw [hl] at hp ⊢
    rw [mvsP_get hp] at hx
    obtain ⟨z, hz, rfl⟩ := List.mem_map.mp hx
    exact h.rng _ (G.inG _ (nod_mem (fstP_ok h hp).1) z hz)
def RelPM (g : Gd) (P M : List Int) (p m : Int) : Prop := (0 ≤ m ∧ m < (g.nd.length : Int)) ∧ gI M m = m ∧ gI P m = p
theorem relPM_biu {M : List Int} (hM : MkL g M) (h : PtsA g P c) : Biu (RelPM g P M) := by
  rintro p m p' m' ⟨a1, a2, a3⟩ ⟨b1, b2, b3⟩
  constructor
  · rintro rfl
    rw [← a2, ← b2]
    exact hM.eq _ _ a1.1 a1.2 b1.1 b1.2 ((h.eq _ _ a1 b1).mp (a3.trans b3.symm))
  · rintro rfl
    exact a3.symm.trans b3
theorem relPM_mk {M : List Int} (hM : MkL g M) (h : PtsA g P c) {i j : Int} (hi : 0 ≤ i ∧ i < (g.nd.length : Int)) (hj : 0 ≤ j ∧ j < (g.nd.length : Int)) (a : Alike g i g j) : RelPM g P M (gI P i) (gI M j) := by
  have r := hM.rng j hj.1 hj.2
  have o := hM.own j hj.1 hj.2
  refine ⟨r, hM.eq _ _ r.1 r.2 hj.1 hj.2 o, ?_⟩
  exact (h.eq _ _ r hi).mpr (o.trans a.symm)
/-- the guide that is numbered off the parts is the least one -/
theorem num_least (G : GoodG g) (F : Frm g) (L : (labL g.ins g.outs).Nodup) (g0 : 0 < g.nd.length) (h : PtsA g P c) : numGd g.ins g.outs (mvsP g P c) (fun p => (nod g (fstP P p)).cl) = leastG g := by
  have I := G.inG
  have hM := marks_mkL I
  have N := numInP G F L g0 h
  have hlen : (mvsP g P c).length = c := by unfold mvsP; simp
  unfold leastG numGd
  generalize marks g (g.nd.length + 1) = M at *
  have B := relPM_biu hM h
  have st : ∀ p m, RelPM g P M p m → All2 (fun x y => x.1 = y.1 ∧ RelPM g P M (gI P x.2) (gI M y.2)) (nod g (fstP P p)).mv (nod g m).mv ∧ (nod g (fstP P p)).fb = (nod g m).fb ∧ (nod g (fstP P p)).cl = (nod g m).cl ∧ (0 ≤ p ∧ p < c) := by
    rintro p m ⟨r1, r2, r3⟩
    have hp : 0 ≤ p ∧ p < c := by rw [← r3]; exact h.rng m r1
    obtain ⟨f1, f2, _⟩ := fstP_ok h hp
    have a : Alike g (fstP P p) g m := (h.eq _ _ f1 r1).mp (f2.trans r3.symm)
    have s := a.step
    exact ⟨s.2.2.imp fun x y hx hy e => ⟨e.1, relPM_mk hM h (I _ (nod_mem f1) x hx) (I _ (nod_mem r1) y hy) e.2⟩, s.1, s.2.1, hp⟩
  have r0 : RelPM g P M 0 (gI M 0) := by
    have := relPM_mk hM h (i := 0) (j := 0) ⟨by omega, by omega⟩ ⟨by omega, by omega⟩ .refl
    rw [h.zero] at this
    exact this
  have two := bfs_two (step := stepN (mvsP g P c)) (step' := stepM g M) B r0 (fun p m r => by
    obtain ⟨s, _, _, hp⟩ := st p m r
    unfold stepN stepM
    rw [mvsP_get hp, List.map_map]
    exact (s.imp fun x y _ _ e => e.2).mapL (R := RelPM g P M) (f := fun x : Str × Int => gI P x.2) (g := fun y : Str × Int => gI M y.2)) (c + g.nd.length)
  have e1 : bfsN (stepN (mvsP g P c)) 0 (c + g.nd.length) = ordN (mvsP g P c) := bfs_stable (bfs_len (ordN_rng N) _) _ (by omega)
  have e2 : bfsN (stepM g M) (gI M 0) (c + g.nd.length) = ordM g M := ord_stable I hM g0 (by omega)
  rw [e1, e2] at two
  have cl := ordN_closed N
  have both : All2 (fun x y => RelPM g P M x y ∧ x ∈ ordN (mvsP g P c)) (ordN (mvsP g P c)) (ordM g M) := two.imp fun x y hx _ r => ⟨r, hx⟩
  congr 1
  unfold quo
  refine both.map_eq fun p m r => ?_
  obtain ⟨r, hx⟩ := r
  obtain ⟨s, s1, s2, hp⟩ := st p m r
  unfold numNd
  have e : (gI (mvsP g P c) p).map (fun x => (x.1, (firstOf (ordN (mvsP g P c)) x.2 : Int))) = (nod g m).mv.map fun y => (y.1, (firstOf (ordM g M) (gI M y.2) : Int)) := by
    have cl' := cl p hx
    rw [mvsP_get hp] at cl' ⊢
    rw [List.map_map]
    have q : All2 (fun x y => x.1 = y.1 ∧ firstOf (ordN (mvsP g P c)) (gI P x.2) = firstOf (ordM g M) (gI M y.2)) (nod g (fstP P p)).mv (nod g m).mv := s.imp fun x y hx' _ e => ⟨e.1, two.first B e.2 (cl' (x.1, gI P x.2) (List.mem_map.mpr ⟨x, hx', rfl⟩))⟩
    exact q.map_eq fun x y e => Prod.ext e.1 (by show (firstOf _ _ : Int) = (firstOf _ _ : Int); rw [e.2])
  have ef : ((labL g.ins g.outs).filter fun l => decide (l ∉ (gI (mvsP g P c) p).map fun x : Str × Int => x.1)) = (nod g m).fb := by
    rw [mvsP_get hp, List.map_map]
    rw [← s1]
    exact ((F _ (nod_mem (fstP_ok h hp).1)).2).symm
  rw [e]
  exact congr (congrArg (Nd.mk _) ef) s2
end
def Dbl (N : Nat) (n' n : Nd) : Prop := n'.fb = n.fb ∧ n'.cl = n.cl ∧ All2 (fun x' x : Str × Int => x'.1 = x.1 ∧ (x'.2 = x.2 ∨ x'.2 = x.2 + N)) n'.mv n.mv
def dbE (row : List Int) (g : Gd) (nds : List Nd) (s4 s5 s6 : Slot) (a : Int) : En := [.bx (boxD row a), .sh (encGd g), .sh (.int g.nd.length), .ow (.lst (nds.map encNd)), s4, s5, s6, .unb]
section
variable {g h : Gd}
def red (N : Nat) (i : Int) : Int := if i < N then i else i - N
theorem dbl_at (A : All2 (Dbl g.nd.length) h.nd (g.nd ++ g.nd)) {i : Int} (hi : 0 ≤ i ∧ i < h.nd.length) : Dbl g.nd.length (nod h i) (nod g (red g.nd.length i)) ∧ (0 ≤ red g.nd.length i ∧ red g.nd.length i < g.nd.length) := by
  have hl := A.len
  rw [List.length_append] at hl
  have h2 : i.toNat < (g.nd ++ g.nd).length := by rw [List.length_append]; omega
  have hd := A.get (i := i.toNat) (by omega) h2
  have e1 : nod h i = h.nd[i.toNat]'(by omega) := gI_get' hi
  unfold red
  by_cases q : i < g.nd.length
  · rw [if_pos q]
    have e2 : nod g i = g.nd[i.toNat]'(by omega) := gI_get' ⟨hi.1, q⟩
    rw [List.getElem_append_left (by omega)] at hd
    rw [e1, e2]
    exact ⟨hd, by omega⟩
  · rw [if_neg q]
    have e2 : nod g (i - g.nd.length) = g.nd[(i - g.nd.length).toNat]'(by omega) := gI_get' ⟨by omega, by omega⟩
    rw [List.getElem_append_right (by omega)] at hd
    have e3 : i.toNat - g.nd.length = (i - g.nd.length).toNat := by omega
    rw [e1, e2]
    simp only [e3] at hd
    exact ⟨hd, by omega⟩
theorem dbl_inG (I : InG g) (A : All2 (Dbl g.nd.length) h.nd (g.nd ++ g.nd)) : InG h := by
  intro n hn x hx
  have hl := A.len
  rw [List.length_append] at hl
  obtain ⟨n0, hn0, d⟩ := A.memL hn
  have hn1 : n0 ∈ g.nd := by
    rcases List.mem_append.mp hn0 with z | z <;> exact z
  obtain ⟨y, hy, e, t⟩ := d.2.2.memL hx
  have := I n0 hn1 y hy
  omega
theorem dbl_sig (I : InG g) (A : All2 (Dbl g.nd.length) h.nd (g.nd ++ g.nd)) : ∀ k : Nat, ∀ i : Int, 0 ≤ i ∧ i < h.nd.length → sig h k i = sig g k (red g.nd.length i)
  | 0, _, _ => rfl
  | k + 1, i, hi => by
    obtain ⟨d, hr⟩ := dbl_at A hi
    rw [sig_succ]
    refine ⟨d.1, d.2.1, d.2.2.imp fun x' x hx' hx e => ⟨e.1, ?_⟩⟩
    have t := dbl_inG I A _ (nod_mem hi) x' hx'
    have t0 := I _ (nod_mem hr) x hx
    rw [dbl_sig I A k x'.2 t]
    have : red g.nd.length x'.2 = x.2 := by
      unfold red
      rcases e.2 with z | z
      · rw [z, if_pos t0.2]
      · rw [z, if_neg (by omega)]; omega
    rw [this]
theorem dbl_least (I : InG g) (g0 : 0 < g.nd.length) (hi : h.ins = g.ins) (ho : h.outs = g.outs) (A : All2 (Dbl g.nd.length) h.nd (g.nd ++ g.nd)) : leastG h = leastG g := by
  have hl := A.len
  rw [List.length_append] at hl
  refine least_eq (dbl_inG I A) I (by omega) g0 hi ho fun k => ?_
  have := dbl_sig I A k 0 ⟨by omega, by omega⟩
  have e : red g.nd.length 0 = 0 := by unfold red; rw [if_pos (by omega)]
  rw [e] at this
  exact this
theorem dbl_good (G : GoodG g) (F : Frm g) (hl : g.nd.length ≤ 30) (hi : h.ins = g.ins) (ho : h.outs = g.outs) (A : All2 (Dbl g.nd.length) h.nd (g.nd ++ g.nd)) : GoodG h ∧ Frm h := by
  have hlen := A.len
  rw [List.length_append] at hlen
  have J := dbl_inG G.inG A
  have key : ∀ n ∈ h.nd, ∃ n0 ∈ g.nd, n.mv.map (·.1) = n0.mv.map (·.1) ∧ n.fb = n0.fb ∧ n.cl = n0.cl := by
    intro n hn
    obtain ⟨n0, hn0, d⟩ := A.memL hn
    refine ⟨n0, ?_, d.2.2.map_eq fun x y e => e.1, d.1, d.2.1⟩
    rcases List.mem_append.mp hn0 with z | z <;> exact z
  constructor
  · refine ⟨by rw [hi]; exact G.ins, by rw [ho]; exact G.outs, by rw [hi, ho]; exact G.dis, by omega, fun n hn => ?_, fun n hn => ?_⟩
    · obtain ⟨n0, hn0, e1, e2, e3⟩ := key n hn
      have := nodeGood_mv (G.nodes n0 hn0) e1 (N' := (h.nd.length : Int)) (J n hn)
      rw [← e2, ← e3] at this
      rw [hi, ho]
      exact this
    · obtain ⟨n0, hn0, e1, e2, e3⟩ := key n hn
      have := G.sm n0 hn0
      have := congrArg List.length e1
      rw [List.length_map, List.length_map] at this
      rw [e2, e3]
      omega
  · intro n hn
    obtain ⟨n0, hn0, e1, e2, e3⟩ := key n hn
    have := F n0 hn0
    rw [hi, ho, e1, e2]
    exact this
theorem least_frm (I : InG g) (g0 : 0 < g.nd.length) (F : Frm g) : Frm (leastG g) := by
  intro n hn
  obtain ⟨m, hm, rfl⟩ := List.mem_map.mp hn
  have hr := (ord_rng I (marks_mkL I) g0 _ _ hm).1
  have := F _ (nod_mem hr)
  have e : ((nod g m).mv.map fun x => (x.1, (firstOf (ordM g (marks g (g.nd.length + 1))) (gI (marks g (g.nd.length + 1)) x.2) : Int))).map (·.1) = (nod g m).mv.map (·.1) := by rw [List.map_map]; rfl
  refine ⟨?_, ?_⟩
  · show (((nod g m).mv.map fun x => (x.1, (firstOf (ordM g (marks g (g.nd.length + 1))) (gI (marks g (g.nd.length + 1)) x.2) : Int))).map (·.1)).Sublist _
    rw [e]; exact this.1
  · show (nod g m).fb = (labL g.ins g.outs).filter fun l => decide (l ∉ ((nod g m).mv.map fun x => (x.1, (firstOf (ordM g (marks g (g.nd.length + 1))) (gI (marks g (g.nd.length + 1)) x.2) : Int))).map (·.1))
    rw [e]; exact this.2
theorem GdOk.frm (h : GdOk g) : Frm g := fun n hn => ⟨(h.nd n hn).sub, (h.nd n hn).fb⟩
end
theorem cutA_a (d : Int) (h : 0 ≤ d ∧ d < 2) : ∃ ins : List Str, (ins = [("a" : Str)] ∨ ins = [("a" : Str), "b"]) ∧ pSlice none (some (1 + d)) (.lst [.str "a", .str "b"]) = some (nw (.lst (encS ins))) := by
  rcases (by omega : d = 0 ∨ d = 1) with rfl | rfl
  · exact ⟨_, .inl rfl, rfl⟩
  · exact ⟨_, .inr rfl, rfl⟩
theorem pl_form (g : Gd) : plainN 8 (formD g) = true := by
  simp only [formD, plainN_tup, List.all_cons, List.all_nil, Bool.and_true, Bool.and_eq_true]
  refine ⟨by simp, by simp, ?_⟩
  rw [List.all_map, List.all_eq_true]
  intro n _
  simp [nodeT, encMv, encT]
theorem ne_form (g : Gd) : pNe [formD g, formD g] = some (fz (.bl false)) := by
  rw [pNe_pl _ _ (pl_form g) (pl_form g)]
  simp
def q26 (ns row : List Int) (s2 s4 s5 s6 : Slot) (a : Int) : En := [.sh (.scr ns), .ow (boxD row a), s2, .unb, s4, s5, s6]
theorem service_ok (s : Sv) (h : svB s = true) : F_C_Service (.obj "Service" []) [.lst (encS s.ins), .lst (encS s.outs), .int s.n, .lst (s.rows.map encRow), .lst (encI s.fin)] = .ok (fz .non) (obSv { s with rows := sortE encRow s.rows }) := by
  obtain ⟨ins, outs, n, rows, fin⟩ := s
  unfold svB at h
  simp only [Bool.and_eq_true] at h
  obtain ⟨h1, h2, h3, h4, h5⟩ := h
  obtain ⟨i1, i2⟩ := msgsB_len h1
  obtain ⟨o1, o2⟩ := msgsB_len h2
  have hl := shape_len h4
  have m1 := are_messages_ok ins
  have m2 := are_messages_ok outs
  have m3 := is_shape_ok n 12 rows 60 fin (by omega)
  rw [h1] at m1
  rw [h2] at m2
  rw [h4] at m3
  let E : Slot → Slot → En := fun s6 s7 => [.bx (.obj "Service" []), .sh (.lst (encS ins)), .sh (.lst (encS outs)), .sh (.int n), .sh (.lst (rows.map encRow)), .sh (.lst (encI fin)), s6, s7, .unb, .unb, .unb, .unb]
  have c1 := sComp_map (vs := [8]) (tg := .one 8) (s := sSeq (oName 1)) (el := oVal (sPrim pInA [oName 8, oName 2])) (e := E (.sh (.bl true)) .unb) (ck := some (1, .lst (encS ins))) D.str ins (fun m => .bl (decide (m ∈ outs))) (by simp [E]) rfl rfl (fun x hx => ⟨_, rfl, by simp [E, pInA_lst]⟩)
  have c2 := sComp_map (vs := [8]) (tg := .one 8) (s := sSeq (oName 1)) (el := oVal (sPrim pAdd [oVal (sC (.str "?")), oName 8])) (e := E (.sh (.bl true)) .unb) (ck := some (1, .lst (encS ins))) D.str ins (fun x => .str ("?" ++ x)) (by simp [E]) rfl rfl (fun x hx => ⟨_, rfl, by
    have := i2 x hx
    have : x.length ≤ 10 := by omega
    simp [E, this]⟩)
  have c3 := sComp_map (vs := [8]) (tg := .one 8) (s := sSeq (oName 2)) (el := oVal (sPrim pAdd [oVal (sC (.str "!")), oName 8])) (e := E (.sh (.bl true)) .unb) (ck := some (2, .lst (encS outs))) D.str outs (fun x => .str ("!" ++ x)) (by simp [E]) rfl rfl (fun x hx => ⟨_, rfl, by
    have := o2 x hx
    have : x.length ≤ 10 := by omega
    simp [E, this]⟩)
  have a1 : pAdd [.lst [.str "tau"], .lst (ins.map fun x => D.str ("?" ++ x))] = some (nw (.lst (.str "tau" :: ins.map fun x => D.str ("?" ++ x)))) := by
    rw [pAdd_lst (smallL (by simp; omega))]; rfl
  have a2 : pAdd [.lst (.str "tau" :: ins.map fun x => D.str ("?" ++ x)), .lst (outs.map fun x => D.str ("!" ++ x))] = some (nw (.lst (encS (labS ins outs)))) := by
    rw [pAdd_lst (smallL (by simp; omega))]; simp [labS, Function.comp_def]
  have c4 := sComp_map (vs := [9, 10, 11]) (tg := .many [9, 10, 11]) (s := sSeq (oName 4)) (el := oVal (sPrim pInA [oName 10, oName 7])) (e := E (.sh (.bl true)) (.ow (.lst (encS (labS ins outs))))) (ck := some (4, .lst (rows.map encRow))) encRow rows (fun r => .bl (decide (r.2.1 ∈ labS ins outs))) (by simp [E]) rfl rfl (fun x hx => ⟨_, rfl, by simp [E, pInA_lst]⟩)
  have so : pSortedA [.lst (rows.map encRow)] = some (nw (.lst ((sortE encRow rows).map encRow))) := sorted_enc (sortOk_rows rows)
  have h3' : (ins.any fun m => decide (m ∈ outs)) = false := by simpa using h3
  have hat : ∀ f, f = ("inputs" : Str) ∨ f = "outputs" ∨ f = "states" ∨ f = "transitions" ∨ f = "final" → at_ "Service" f = true := by
    rintro f (rfl | rfl | rfl | rfl | rfl) <;> decide
  have pA : ∀ {l : List Str} {p : Str → Bool} {e : En} {m : Sx Vl}, m e = .ok (nw (.lst (l.map fun x => D.bl (p x)))) e → sPrim pAny [oVal m] e = .ok (fz (.bl (l.any p))) e := fun h => prim1 (oVal_of h) rfl (pAny_map _ _)
  have r1 := pA c1
  rw [h3'] at r1
  have r4 := prim1 (p := pAll) (oVal_of c4) rfl (pAll_map rows _)
  rw [h5] at r4
  refine runBX_nx (e := [.sh (.lst (encS ins)), .sh (.lst (encS outs)), .sh (.int n), .sh (.lst (rows.map encRow)), .sh (.lst (encI fin)), .sh (.bl true), .ow (.lst (encS (labS ins outs))), .unb, .unb, .unb, .unb]) ?_
  have h0 : startB (.obj "Service" []) [.lst (encS ins), .lst (encS outs), .int n, .lst (rows.map encRow), .lst (encI fin)] 12 = E .unb .unb := rfl
  rw [h0]
  unfold t_C_Service
  refine then_step (asg_nx (e1 := E .unb .unb) (e2 := E (.sh (.bl true)) .unb) (v := fz (.bl true)) (sAnd_t (call1 (name_sh rfl) m1) (call1 (name_sh rfl) m2))) ?_
  refine then_step (asg_nx (e1 := E (.sh (.bl true)) .unb) (e2 := E (.sh (.bl true)) .unb) (v := fz (.bl true)) (sAnd_t (e1 := E (.sh (.bl true)) .unb) rfl ?_)) ?_
  · simp only [e_not]
    rw [tVal_b r1]
    rfl
  refine then_step (asg_nx (e1 := E (.sh (.bl true)) .unb) (e2 := E (.sh (.bl true)) .unb) (v := fz (.bl true)) (sAnd_t (e1 := E (.sh (.bl true)) .unb) rfl (call5 (name_sh rfl) oc (name_sh rfl) oc (name_sh rfl) m3))) ?_
  refine guard_f (e1 := E (.sh (.bl true)) .unb) (by simp [E]) ?_
  refine then_step (asg_nx (e1 := E (.sh (.bl true)) .unb) (e2 := E (.sh (.bl true)) (.ow (.lst (encS (labS ins outs))))) (v := nw (.lst (encS (labS ins outs)))) (prim2 (oVal_of (prim2 (oVal_of (e1 := E (.sh (.bl true)) .unb) (v := nw (.lst [.str "tau"])) (by simp)) (oVal_of c2) rfl rfl a1)) (oVal_of c3) rfl rfl a2)) ?_
  refine guard_f (tNot_of (b := true) (tVal_b r4)) ?_
  refine then_step (setF_bx (prim1 rfl rfl pList_lst) rfl (hat _ (.inl rfl)) (by decide) (by rfl)) ?_
  refine then_step (setF_bx (prim1 rfl rfl pList_lst) rfl (hat _ (.inr (.inl rfl))) (by show 1 < 1000; decide) (by rfl)) ?_
  refine then_step (setF_bx (v := fz (.int n)) rfl rfl (hat _ (.inr (.inr (.inl rfl)))) (by show 2 < 1000; decide) (by rfl)) ?_
  refine then_step (setF_bx (prim1 rfl rfl so) rfl (hat _ (.inr (.inr (.inr (.inl rfl))))) (by show 3 < 1000; decide) (by rfl)) ?_
  exact setF_bx (prim1 rfl rfl pList_lst) rfl (hat _ (.inr (.inr (.inr (.inr rfl))))) (by show 4 < 1000; decide) (by rfl)
theorem service_no (s : Sv) (h : svB s = false) (hr : s.rows.length ≤ 5000) : F_C_Service (.obj "Service" []) [.lst (encS s.ins), .lst (encS s.outs), .int s.n, .lst (s.rows.map encRow), .lst (encI s.fin)] = .exc (talkE "no service") := by
  obtain ⟨ins, outs, n, rows, fin⟩ := s
  have m1 := are_messages_ok ins
  have m2 := are_messages_ok outs
  have m3 := is_shape_ok n 12 rows 60 fin (by simpa using hr)
  let E : Slot → Slot → En := fun s6 s7 => [.bx (.obj "Service" []), .sh (.lst (encS ins)), .sh (.lst (encS outs)), .sh (.int n), .sh (.lst (rows.map encRow)), .sh (.lst (encI fin)), s6, s7, .unb, .unb, .unb, .unb]
  have pA : ∀ {l : List Str} {p : Str → Bool} {e : En} {m : Sx Vl}, m e = .ok (nw (.lst (l.map fun x => D.bl (p x)))) e → sPrim pAny [oVal m] e = .ok (fz (.bl (l.any p))) e := fun h => prim1 (oVal_of h) rfl (pAny_map _ _)
  generalize hg1 : (msgsB ins && msgsB outs) = g1
  generalize hg2 : (g1 && !(ins.any fun m => decide (m ∈ outs))) = g2
  generalize hg3 : (g2 && shapeB n 12 rows 60 fin) = g3
  have c1 := sComp_map (vs := [8]) (tg := .one 8) (s := sSeq (oName 1)) (el := oVal (sPrim pInA [oName 8, oName 2])) (e := E (.sh (.bl g1)) .unb) (ck := some (1, .lst (encS ins))) D.str ins (fun m => .bl (decide (m ∈ outs))) (by simp [E]) rfl rfl (fun x hx => ⟨_, rfl, by simp [E, pInA_lst]⟩)
  have r1 := pA c1
  refine runBX_exc ?_
  have h0 : startB (.obj "Service" []) [.lst (encS ins), .lst (encS outs), .int n, .lst (rows.map encRow), .lst (encI fin)] 12 = E .unb .unb := rfl
  rw [h0]
  unfold t_C_Service
  refine Xc.then (asg_nx (e1 := E .unb .unb) (e2 := E (.sh (.bl g1)) .unb) (v := fz (.bl g1)) (by rw [← hg1]; exact sAnd_b (call1 (name_sh rfl) m1) fun _ => call1 (name_sh rfl) m2)) ?_
  refine Xc.then (asg_nx (e1 := E (.sh (.bl g1)) .unb) (e2 := E (.sh (.bl g2)) .unb) (v := fz (.bl g2)) (by
    rw [← hg2]
    refine sAnd_b rfl fun _ => ?_
    simp only [e_not]
    rw [tVal_b r1]
    rfl)) ?_
  refine Xc.then (asg_nx (e1 := E (.sh (.bl g2)) .unb) (e2 := E (.sh (.bl g3)) .unb) (v := fz (.bl g3)) (by
    rw [← hg3]
    exact sAnd_b rfl fun _ => call5 (name_sh rfl) oc (name_sh rfl) oc (name_sh rfl) m3)) ?_
  cases hg : g3 with
  | false => exact Xc.gt (e1 := E (.sh (.bl false)) .unb) (by simp [E]) Xc.raise
  | true =>
    subst hg
    rw [Bool.and_eq_true] at hg3
    obtain ⟨q2, q3⟩ := hg3
    subst q2
    rw [Bool.and_eq_true] at hg2
    obtain ⟨q4, q5⟩ := hg2
    subst q4
    rw [Bool.and_eq_true] at hg1
    obtain ⟨h1, h2⟩ := hg1
    obtain ⟨i1, i2⟩ := msgsB_len h1
    obtain ⟨o1, o2⟩ := msgsB_len h2
    have h5 : (rows.all fun r => decide (r.2.1 ∈ labS ins outs)) = false := by
      unfold svB at h
      simp only [h1, h2, q3, Bool.true_and] at h
      have q5' : (!(ins.any fun m => decide (m ∈ outs))) = true := q5
      rw [q5', Bool.true_and] at h
      exact h
    have c2 := sComp_map (vs := [8]) (tg := .one 8) (s := sSeq (oName 1)) (el := oVal (sPrim pAdd [oVal (sC (.str "?")), oName 8])) (e := E (.sh (.bl true)) .unb) (ck := some (1, .lst (encS ins))) D.str ins (fun x => .str ("?" ++ x)) (by simp [E]) rfl rfl (fun x hx => ⟨_, rfl, by
      have := i2 x hx
      have : x.length ≤ 10 := by omega
      simp [E, this]⟩)
    have c3 := sComp_map (vs := [8]) (tg := .one 8) (s := sSeq (oName 2)) (el := oVal (sPrim pAdd [oVal (sC (.str "!")), oName 8])) (e := E (.sh (.bl true)) .unb) (ck := some (2, .lst (encS outs))) D.str outs (fun x => .str ("!" ++ x)) (by simp [E]) rfl rfl (fun x hx => ⟨_, rfl, by
      have := o2 x hx
      have : x.length ≤ 10 := by omega
      simp [E, this]⟩)
    have a1 : pAdd [.lst [.str "tau"], .lst (ins.map fun x => D.str ("?" ++ x))] = some (nw (.lst (.str "tau" :: ins.map fun x => D.str ("?" ++ x)))) := by
      rw [pAdd_lst (smallL (by simp; omega))]; rfl
    have a2 : pAdd [.lst (.str "tau" :: ins.map fun x => D.str ("?" ++ x)), .lst (outs.map fun x => D.str ("!" ++ x))] = some (nw (.lst (encS (labS ins outs)))) := by
      rw [pAdd_lst (smallL (by simp; omega))]; simp [labS, Function.comp_def]
    have c4 := sComp_map (vs := [9, 10, 11]) (tg := .many [9, 10, 11]) (s := sSeq (oName 4)) (el := oVal (sPrim pInA [oName 10, oName 7])) (e := E (.sh (.bl true)) (.ow (.lst (encS (labS ins outs))))) (ck := some (4, .lst (rows.map encRow))) encRow rows (fun r => .bl (decide (r.2.1 ∈ labS ins outs))) (by simp [E]) rfl rfl (fun x hx => ⟨_, rfl, by simp [E, pInA_lst]⟩)
    have r4 := prim1 (p := pAll) (oVal_of c4) rfl (pAll_map rows _)
    rw [h5] at r4
    refine Xc.gf (e1 := E (.sh (.bl true)) .unb) (by simp [E]) ?_
    refine Xc.then (asg_nx (e1 := E (.sh (.bl true)) .unb) (e2 := E (.sh (.bl true)) (.ow (.lst (encS (labS ins outs))))) (v := nw (.lst (encS (labS ins outs)))) (prim2 (oVal_of (prim2 (oVal_of (e1 := E (.sh (.bl true)) .unb) (v := nw (.lst [.str "tau"])) (by simp)) (oVal_of c2) rfl rfl a1)) (oVal_of c3) rfl rfl a2)) ?_
    exact Xc.gt (tNot_of (b := false) (tVal_b r4)) Xc.raise
end Lw
set_option Elab.async false
set_option linter.all false
set_option autoImplicit false
set_option maxRecDepth 100000
set_option maxHeartbeats 1000000
namespace Lw
open PySem Ev
theorem ix_pick {ds : List D} {d : Int} (h : 0 ≤ d ∧ d < ds.length) : ∃ x ∈ ds, pIxA [.lst ds, .int d] = some (fz x) := by
  have hl : d.toNat < ds.length := by omega
  exact ⟨ds[d.toNat], List.getElem_mem hl, ixL (atI_nat (n := d.toNat) (by omega) hl)⟩
theorem callBx0 {e e1 : En} {i : Nat} {x x' : D} {v : Vl} {B : D → List D → ResB} (h0 : e[i]? = some (.bx x)) (hF : B x [] = .ok v x') (h2 : e.set i (.bx x') = e1 := by rfl) : sCallB (List.replicate 0 false) B i [] e = .ok v e1 := by
  subst h2
  simp [sCallB, sOps, h0, okModes, ress, hF, List.replicate]
theorem callB0 {e e1 : En} {i : Nat} {x x' : D} {v : Vl} {B : D → List D → ResB} (h0 : e[i]? = some (.ow x)) (hF : B x [] = .ok v x') (h2 : e.set i (.ow x') = e1 := by rfl) : sCallB (List.replicate 0 false) B i [] e = .ok v e1 := by
  subst h2
  simp [sCallB, sOps, h0, okModes, ress, hF, List.replicate]
def insF : List (List Str) := [["a"], ["a", "b"], [], ["b"], ["a", "b"]]
def outsF : List (List Str) := [["c"], ["c", "d"], ["c"], [], ["d"]]
theorem face_is (row : List Int) (a : Int) (ha : 0 ≤ a) : ∃ ins outs b, ins ∈ insF ∧ outs ∈ outsF ∧ 0 ≤ b ∧ F_u_law_face (boxD row a) [] = .ok (nw (faceD ins outs)) (boxD row b) := by
  obtain ⟨d, d1, d2, hd⟩ := draw_ok row a 5 ha (by decide)
  obtain ⟨c, c1, c2, hc⟩ := draw_ok row (a + 1) 5 (by omega) (by decide)
  obtain ⟨x, hx, kx⟩ := ix_pick (ds := insF.map fun l => .lst (encS l)) (d := d) ⟨d1, by simp [insF]; omega⟩
  obtain ⟨y, hy, ky⟩ := ix_pick (ds := outsF.map fun l => .lst (encS l)) (d := c) ⟨c1, by simp [outsF]; omega⟩
  obtain ⟨ins, hi, rfl⟩ := List.mem_map.mp hx
  obtain ⟨outs, ho, rfl⟩ := List.mem_map.mp hy
  refine ⟨ins, outs, a + 1 + 1, hi, ho, by omega, ?_⟩
  refine runB_rt (e := [.sh (.lst (encS ins)), .sh (.lst (encS outs))]) ?_
  show t_u_law_face [.bx (boxD row a), .unb, .unb] = _
  unfold t_u_law_face
  refine then_step (asg_nx (e1 := [.bx (boxD row (a + 1)), .unb, .unb]) (e2 := [.bx (boxD row (a + 1)), .sh (.lst (encS ins)), .unb]) (prim2 (oV (lst5 (oV (lst1 oc)) (oV (lst2 oc oc)) lst0' (oV (lst1 oc)) (oV (lst2 oc oc)))) (oV (callBx1 rfl oc rfl hd)) rfl rfl kx)) ?_
  refine then_step (asg_nx (e1 := [.bx (boxD row (a + 1 + 1)), .sh (.lst (encS ins)), .unb]) (e2 := [.bx (boxD row (a + 1 + 1)), .sh (.lst (encS ins)), .sh (.lst (encS outs))]) (prim2 (oV (lst5 (oV (lst1 oc)) (oV (lst2 oc oc)) (oV (lst1 oc)) lst0' (oV (lst1 oc)))) (oV (callBx1 rfl oc rfl hc)) rfl rfl ky)) ?_
  exact ret_rt (lst2 (oV (prim1 rfl rfl pList_lst)) (oV (prim1 rfl rfl pList_lst)))
/-! ### drawn services -/
def wordS (ins outs : List Str) : List Str := ins.map (("?" : Str) ++ ·) ++ outs.map (("!" : Str) ++ ·) ++ [("tau" : Str)]
def encSv (v : Sv) : D := .lst [.lst (encS v.ins), .lst (encS v.outs), .int v.n, .lst (v.rows.map encRow), .lst (encI v.fin)]
def svE (row : List Int) (ins outs : List Str) (most : Int) (N : Nat) (W : List Str) (rows : List Rw) (s6 s7 s8 s9 s10 : Slot) (a : Int) : En :=
  [.bx (boxD row a), .sh (faceD ins outs), .sh (.int most), .sh (.int N), .ow (.lst (encS W)), .ow (.lst (rows.map encRow)), s6, s7, s8, s9, s10, .unb, .unb]
theorem sv_step (row : List Int) (ins outs : List Str) (most : Int) (N : Nat) (hN : 0 < N) (W : List Str) (hW : ("tau" : Str) ∈ W) (rows : List Rw) (hr : rows.length ≤ 50000) (s6 s7 s8 s9 s10 : Slot) (a : Int) (ha : 0 ≤ a) :
    ∃ (r : Rw) (b : Int) (s8' s9' : Slot), 0 ≤ b ∧ ((0 ≤ r.1 ∧ r.1 < N) ∧ 0 ≤ r.2.2 ∧ r.2.2 < N) ∧ r.2.1 ∈ W ∧ b0_u_law_service (svE row ins outs most N W rows s6 s7 s8 s9 s10 a) = .nx (svE row ins outs most N W (if r ∈ rows then rows else rows ++ [r]) s6 s7 s8' s9' (.sh (encRow r)) b) := by
  obtain ⟨k, k1, k2, k3⟩ := draw_ok row a 9 ha (by decide)
  obtain ⟨p, p1, p2, p3⟩ := draw_ok row (a + 1) N (by omega) (by omega)
  obtain ⟨t, t1, t2, t3⟩ := draw_ok row (a + 1 + 1) N (by omega) (by omega)
  have hl0 : 0 < W.length := List.length_pos_of_mem hW
  have lab : ∃ l ∈ W, sIfS (tBool (sPrim pGt [oName 8, oVal (sC (.int 0))])) (sAsg (sPrim pIxA [oName 4, oVal (sPrim pMod [oVal (sPrim pInt [oName 8]), oVal (sPrim pLenA [oName 4])])]) 9) sSkip (svE row ins outs most N W rows s6 s7 (.sh (.int k)) (.sh (.str "tau")) s10 (a + 1)) = .nx (svE row ins outs most N W rows s6 s7 (.sh (.int k)) (.sh (.str l)) s10 (a + 1)) := by
    by_cases hk : 0 < k
    · have m1 := Int.fmod_nonneg_of_pos k (show (0 : Int) < W.length by omega)
      have m2 := Int.fmod_lt_of_pos k (show (0 : Int) < W.length by omega)
      have hq : (k.fmod W.length).toNat < W.length := by omega
      have hat : L2.atI (encS W) (k.fmod W.length) = some (.str W[(k.fmod W.length).toNat]) := by
        unfold encS
        rw [atI_map, atI_nat (n := (k.fmod W.length).toNat) (by omega) hq]; rfl
      refine ⟨W[(k.fmod W.length).toNat], List.getElem_mem hq, ?_⟩
      generalize W[(k.fmod W.length).toNat] = l at *
      refine if_t (e1 := svE row ins outs most N W rows s6 s7 (.sh (.int k)) (.sh (.str "tau")) s10 (a + 1)) (by simp [svE, hk]) ?_
      refine asg_nx (v := fz (.str l)) (e1 := svE row ins outs most N W rows s6 s7 (.sh (.int k)) (.sh (.str "tau")) s10 (a + 1)) (prim2 (e1 := svE row ins outs most N W rows s6 s7 (.sh (.int k)) (.sh (.str "tau")) s10 (a + 1)) rfl (oV (w := false) (d := .int (k.fmod W.length)) ?_) rfl rfl (ixL hat))
      have hw : (W.length : Int) ≠ 0 := by omega
      simp [svE]
      rw [pMod_int hw]
    · exact ⟨"tau", hW, if_f (e1 := svE row ins outs most N W rows s6 s7 (.sh (.int k)) (.sh (.str "tau")) s10 (a + 1)) (by simp [svE, hk]) rfl⟩
  obtain ⟨l, hlW, lab⟩ := lab
  refine ⟨(p, l, t), a + 1 + 1 + 1, .sh (.int k), .sh (.str l), by omega, ⟨⟨p1, p2⟩, t1, t2⟩, hlW, ?_⟩
  have hl : (rows.map encRow).length < sizeLine := small (by simp; omega)
  have hn := nin_R rows (p, l, t)
  unfold b0_u_law_service
  refine then_step (asg_nx (e2 := svE row ins outs most N W rows s6 s7 (.sh (.int k)) s9 s10 (a + 1)) (callBx1 rfl oc rfl k3)) ?_
  refine then_step (asg_nx (e1 := svE row ins outs most N W rows s6 s7 (.sh (.int k)) s9 s10 (a + 1)) (e2 := svE row ins outs most N W rows s6 s7 (.sh (.int k)) (.sh (.str "tau")) s10 (a + 1)) (v := fz (.str "tau")) rfl) ?_
  refine then_step lab ?_
  refine then_step (asg_nx (e2 := svE row ins outs most N W rows s6 s7 (.sh (.int k)) (.sh (.str l)) (.sh (encRow (p, l, t))) (a + 1 + 1 + 1)) (tup3 (oV (callBx1 rfl (name_sh rfl) rfl p3)) (name_sh rfl) (oV (callBx1 rfl (name_sh rfl) rfl t3)))) ?_
  by_cases h : (p, l, t) ∈ rows
  · rw [if_pos h]
    rw [decide_eq_false fun z => z h] at hn
    refine if_f (tBool_of (prim2 rfl rfl rfl rfl hn)) rfl
  · rw [if_neg h]
    rw [decide_eq_true h] at hn
    refine if_t (tBool_of (prim2 rfl rfl rfl rfl hn)) (append_ow (name_sh rfl) rfl rfl hl ?_)
    simp [svE]
/-- a service of the law's drawing, rows not yet sorted -/
theorem drawn_service_ok (row : List Int) (ins outs : List Str) (most : Int) (hm : 0 < most ∧ most ≤ 100) (h1 : ∀ x ∈ ins, x.length ≤ 10) (h2 : ∀ x ∈ outs, x.length ≤ 10) (h3 : ins.length ≤ 10) (h4 : outs.length ≤ 10) (a : Int) (ha : 0 ≤ a) :
    ∃ (N : Nat) (rows : List Rw) (fin : List Int) (b : Int), 0 ≤ b ∧ F_u_law_service (boxD row a) [faceD ins outs, .int most] = .ok (nw (encSv ⟨ins, outs, N, sortE encRow rows, fin⟩)) (boxD row b) ∧ 0 < N ∧ (N : Int) ≤ most ∧ PtRaw (wordS ins outs) N rows fin ∧ rows.length ≤ 3 * N := by
  obtain ⟨v, v1, v2, v3⟩ := draw_ok row a most ha hm.1
  obtain ⟨N, hN⟩ : ∃ N : Nat, 1 + v = N := ⟨(1 + v).toNat, by omega⟩
  obtain ⟨u, u1, u2, u3⟩ := draw_ok row (a + 1) (3 * N + 1) (by omega) (by omega)
  let E0 : Int → Slot → Slot → En := fun a s3 s4 => [.bx (boxD row a), .sh (faceD ins outs), .sh (.int most), s3, s4, .unb, .unb, .unb, .unb, .unb, .unb, .unb, .unb]
  have a1 := sComp_map (vs := [12]) (tg := .one 12) (s := sSeq (oVal (sPrim pIxA [oName 1, oVal (sC (.int 0))]))) (el := oVal (sPrim pAdd [oVal (sC (.str "?")), oName 12])) (e := E0 (a + 1) (.sh (.int N)) .unb) D.str ins (fun x => .str ("?" ++ x)) (ck := none) (by simp [E0, faceD]) (by rfl) trivial (fun x hx => ⟨_, rfl, by
    simp [E0, h1 x hx]⟩)
  have a2 := sComp_map (vs := [12]) (tg := .one 12) (s := sSeq (oVal (sPrim pIxA [oName 1, oVal (sC (.int 1))]))) (el := oVal (sPrim pAdd [oVal (sC (.str "!")), oName 12])) (e := E0 (a + 1) (.sh (.int N)) .unb) D.str outs (fun x => .str ("!" ++ x)) (ck := none) (by simp [E0, faceD]) (by rfl) trivial (fun x hx => ⟨_, rfl, by
    simp [E0, h2 x hx]⟩)
  have b1 : pAdd [.lst (ins.map fun x => D.str ("?" ++ x)), .lst (outs.map fun x => D.str ("!" ++ x))] = some (nw (.lst (ins.map (fun x => D.str ("?" ++ x)) ++ outs.map fun x => D.str ("!" ++ x)))) := by
    rw [pAdd_lst (smallL (by simp; omega))]
  have b2 : pAdd [.lst (ins.map (fun x => D.str ("?" ++ x)) ++ outs.map fun x => D.str ("!" ++ x)), .lst [.str "tau"]] = some (nw (.lst (encS (wordS ins outs)))) := by
    rw [pAdd_lst (smallL (by simp; omega))]; simp [wordS, Function.comp_def]
  have hW : ("tau" : Str) ∈ wordS ins outs := by simp [wordS]
  generalize hWW : wordS ins outs = W at *
  have hr : sRange [oVal (sCallB (List.replicate 1 false) F_u_law_draw 0 [oVal (sPrim pAdd [oVal (sPrim pMul [oVal (sC (.int 3)), oName 3]), oVal (sC (.int 1))])])] (svE row ins outs most N W [] .unb .unb .unb .unb .unb (a + 1)) = .ok ⟨(List.range u.toNat).map fun (k : Nat) => D.int (k : Nat), none⟩ (svE row ins outs most N W [] .unb .unb .unb .unb .unb (a + 1 + 1)) := range_of (by
    have : (u.toNat : Int) = u := by omega
    simp [svE, u3, this]) (by omega)
  obtain ⟨e', k1, rows, s6, s8, s9, s10, b, rfl, hb, r1, r2, r3, r4⟩ := forGo_run (tg := .one 6) (b := b0_u_law_service) (fun j e => ∃ rows s6 s8 s9 s10 b, e = svE row ins outs most N W rows s6 .unb s8 s9 s10 b ∧ 0 ≤ b ∧ (∀ r ∈ rows, (0 ≤ r.1 ∧ r.1 < N) ∧ 0 ≤ r.2.2 ∧ r.2.2 < N) ∧ (∀ r ∈ rows, r.2.1 ∈ W) ∧ rows.Nodup ∧ rows.length ≤ j) ((List.range u.toNat).map fun (k : Nat) => D.int (k : Nat)) (svE row ins outs most N W [] .unb .unb .unb .unb .unb (a + 1 + 1)) ⟨[], .unb, .unb, .unb, .unb, _, rfl, by omega, by simp, by simp, by simp, by simp⟩ (fun i hi e he => by
    obtain ⟨rows, s6, s8, s9, s10, b, rfl, hb, r1, r2, r3, r4⟩ := he
    have hi' : i < u.toNat := by simpa using hi
    have e1 : ((List.range u.toNat).map fun (k : Nat) => D.int (k : Nat))[i] = D.int (i : Nat) := by simp
    obtain ⟨r, b', s8', s9', g1, g2, g3, g4⟩ := sv_step row ins outs most N (by omega) W hW rows (by omega) (.sh (.int i)) .unb s8 s9 s10 b hb
    refine ⟨_, by rw [e1]; rfl, _, g4, _, _, _, _, _, _, rfl, g1, ?_⟩
    by_cases h : r ∈ rows
    · rw [if_pos h]
      exact ⟨r1, r2, r3, by omega⟩
    · rw [if_neg h]
      refine ⟨fun x hx => ?_, fun x hx => ?_, List.nodup_append.mpr ⟨r3, by simp, fun x hx y hy e => ?_⟩, by simp; omega⟩
      · rcases List.mem_append.mp hx with z | z
        · exact r1 x z
        · rw [List.mem_singleton] at z; subst z; exact g2
      · rcases List.mem_append.mp hx with z | z
        · exact r2 x z
        · rw [List.mem_singleton] at z; subst z; exact g3
      · rw [List.mem_singleton] at hy; subst hy; subst e; exact h hx)
  have hl : ((List.range u.toNat).map fun (k : Nat) => D.int (k : Nat)).length = u.toNat := by simp
  rw [hl] at r4
  obtain ⟨ys, c, q1, q2, q3, q4⟩ := sComp_draw (β := Unit) (vs := [11]) (tg := .one 11) (s := sRange [oName 3]) (t := tBool (sPrim pEq [oVal (sCallB (List.replicate 1 false) F_u_law_draw 0 [oVal (sC (.int 2))]), oVal (sC (.int 0))])) (el := oVal (sName 11)) (fun k : Nat => D.int (k : Nat)) (fun k _ => D.int (k : Nat)) (fun _ _ => True) (fun a => svE row ins outs most N W rows s6 .unb s8 s9 s10 a) (ck := none) (List.range N) (a0 := b) (a1 := b) hb (range_of (by simp [svE]) (by omega)) (fun a => rfl) (fun a => trivial) (fun a b => rfl)
    (fun x hx a ha => by
      obtain ⟨w, w1, w2, w3⟩ := draw_ok row a 2 ha (by decide)
      refine ⟨_, rfl, decide (w = 0), [.bx (boxD row (a + 1)), .sh (faceD ins outs), .sh (.int most), .sh (.int N), .ow (.lst (encS W)), .ow (.lst (rows.map encRow)), s6, .unb, s8, s9, s10, .sh (.int x), .unb], ?_, fun _ => ?_, fun _ => ?_⟩
      · simp only [encS]
        simp [svE, w3]
      · exact ⟨(), _, a + 1, rfl, trivial, by omega, rfl⟩
      · exact ⟨a + 1, by omega, rfl⟩)
  have e1 : ys.map (fun y => D.int (y.1 : Nat)) = encI ((ys.map (·.1)).map fun k : Nat => (k : Int)) := by simp [encI, Function.comp_def]
  rw [e1] at q2
  have so : pSortedA [.lst (rows.map encRow)] = some (nw (.lst ((sortE encRow rows).map encRow))) := sorted_enc (sortOk_rows rows)
  have hfin : ∀ f ∈ (ys.map (·.1)).map fun k : Nat => (k : Int), 0 ≤ f ∧ f < N := fun f hf => by
    obtain ⟨k, hk, rfl⟩ := List.mem_map.mp hf
    have := List.mem_range.mp (q3.subset hk)
    omega
  have hasc : ((ys.map (·.1)).map fun k : Nat => (k : Int)).Pairwise fun a b => a < b := by
    refine List.pairwise_map.mpr ?_
    exact ((List.pairwise_lt_range (n := N)).sublist q3).imp fun q => by omega
  clear q3 q4 e1
  generalize (ys.map (·.1)).map (fun k : Nat => (k : Int)) = fin at *
  refine ⟨N, rows, fin, c, q1, ?_, by omega, by omega, ⟨r1, r2, r3, by omega, hfin, hasc⟩, by omega⟩
  refine runB_rt (e := [.sh (faceD ins outs), .sh (.int most), .sh (.int N), .ow (.lst (encS W)), .ow (.lst (rows.map encRow)), s6, .sh (.lst (encI fin)), s8, s9, s10, .unb, .unb]) ?_
  show t_u_law_service (E0 a .unb .unb) = _
  unfold t_u_law_service
  have h0 := sFor_of (tg := .one 6) (b := b0_u_law_service) hr rfl
  rw [k1] at h0
  refine then_step (asg_nx (e1 := E0 (a + 1) .unb .unb) (e2 := E0 (a + 1) (.sh (.int N)) .unb) (v := fz (.int N)) (prim2 (e2 := E0 (a + 1) .unb .unb) oc (oV (callBx1 rfl (name_sh rfl) rfl v3)) rfl rfl (by rw [← hN]; exact pAdd_int))) ?_
  refine then_step (asg_nx (e1 := E0 (a + 1) (.sh (.int N)) .unb) (e2 := E0 (a + 1) (.sh (.int N)) (.ow (.lst (encS W)))) (prim2 (oV (prim2 (oV a1) (oV a2) rfl rfl b1)) (oV (lst1 oc)) rfl rfl b2)) ?_
  refine then_step (asg_nx (e2 := svE row ins outs most N W [] .unb .unb .unb .unb .unb (a + 1)) lst0) ?_
  refine then_step h0 (then_step (asg_nx (e2 := svE row ins outs most N W rows s6 (.ow (.lst (encI fin))) s8 s9 s10 c) q2) (ret_rt ?_))
  exact lst5 (oV (prim1 (ixV rfl oc rfl rfl rfl) rfl pList_lst)) (oV (prim1 (ixV rfl oc rfl rfl rfl) rfl pList_lst)) (name_sh rfl) (oV (prim1 rfl rfl so)) (name_ow rfl)
end Lw
set_option Elab.async false
set_option linter.all false
set_option autoImplicit false
set_option maxRecDepth 100000
set_option maxHeartbeats 1000000
namespace Lw
open PySem Ev
theorem pIxA_str {z : Str} {i : Int} : pIxA [.str z, .int i] = (L2.atI z.cps.toList i).map fun c => fz (.str ⟨#[c]⟩) := by
  unfold pIxA orP
  show (match (L2.atI z.cps.toList i).map fun c => fz (.str ⟨#[c]⟩) with | some v => some v | none => pDIx [.str z, .int i]) = _
  cases L2.atI z.cps.toList i <;> rfl
/-! ### the faces of the law's services -/
def faces : List (List Str × List Str) := (insF.flatMap fun i => outsF.map fun o => (i, o)) ++ [([("x" : Str)], [("y" : Str)]), ([("x" : Str), "y"], []), ([("e" : Str)], [("c" : Str)]), ([("g" : Str), "h"], [("e" : Str)])]
def LL : List Str := ["tau", "?a", "?b", "?c", "?d", "?e", "?g", "?h", "?x", "?y", "!a", "!b", "!c", "!d", "!e", "!g", "!h", "!x", "!y"]
theorem face_msgs : ∀ f ∈ faces, msgsB f.1 = true ∧ msgsB f.2 = true ∧ (f.1.any fun m => decide (m ∈ f.2)) = false := by decide +kernel
theorem face_LL : ∀ f ∈ faces, ∀ l ∈ wordS f.1 f.2, l ∈ LL := by decide +kernel
theorem face_len : ∀ f ∈ faces, f.1.length ≤ 2 ∧ f.2.length ≤ 2 := by decide +kernel
theorem face_mem {ins outs : List Str} (h1 : ins ∈ insF) (h2 : outs ∈ outsF) : (ins, outs) ∈ faces := by
  unfold faces
  exact List.mem_append_left _ (List.mem_flatMap.mpr ⟨ins, h1, List.mem_map.mpr ⟨outs, h2, rfl⟩⟩)
structure SvG (v : Sv) (N : Nat) : Prop where
  f : (v.ins, v.outs) ∈ faces
  n : v.n = N
  pos : 0 < N
  le : N ≤ 4
  raw : PtRaw (wordS v.ins v.outs) N v.rows v.fin
  srt : sortE encRow v.rows = v.rows
  len : v.rows.length ≤ 12
theorem word_lab {ins outs : List Str} {l : Str} : l ∈ wordS ins outs ↔ l ∈ labS ins outs := by
  unfold wordS labS
  simp only [List.mem_append, List.mem_singleton]
  constructor
  · rintro ((h | h) | h)
    · exact .inl (.inr h)
    · exact .inr h
    · exact .inl (.inl h)
  · rintro ((h | h) | h)
    · exact .inr h
    · exact .inl (.inl h)
    · exact .inl (.inr h)
theorem SvG.svB {v : Sv} {N : Nat} (h : SvG v N) : svB v = true := by
  obtain ⟨m1, m2, m3⟩ := face_msgs _ h.f
  have hn := h.n
  have h1 := h.pos
  have h2 := h.le
  have h3 := h.len
  unfold Lw.svB shapeB rowsB finB rowB inB
  simp only [Bool.and_eq_true, decide_eq_true_eq, List.all_eq_true, Bool.not_eq_true']
  refine ⟨m1, m2, m3, ⟨⟨by omega, by omega⟩, by omega, ⟨by omega, fun r hr => ?_, h.raw.nd⟩, fun f hf => ?_, asc_of (h.raw.fa.imp fun q => decide_eq_true q)⟩, fun r hr => word_lab.mp (h.raw.lab r hr)⟩
  · obtain ⟨⟨a1, a2⟩, a3, a4⟩ := h.raw.rng r hr
    omega
  · obtain ⟨a1, a2⟩ := h.raw.fr f hf
    omega
theorem v_0 (v : Sv) : pIxA [encSv v, .int 0] = some (fz (.lst (encS v.ins))) := ixL rfl
theorem v_1 (v : Sv) : pIxA [encSv v, .int 1] = some (fz (.lst (encS v.outs))) := ixL rfl
theorem v_2 (v : Sv) : pIxA [encSv v, .int 2] = some (fz (.int v.n)) := ixL rfl
theorem v_3 (v : Sv) : pIxA [encSv v, .int 3] = some (fz (.lst (v.rows.map encRow))) := ixL rfl
theorem v_4 (v : Sv) : pIxA [encSv v, .int 4] = some (fz (.lst (encI v.fin))) := ixL rfl
theorem made_ok {v : Sv} {N : Nat} (h : SvG v N) : F_u_law_made [encSv v] = .ok (nw (obSv v)) := by
  have hs := service_ok v h.svB
  rw [h.srt] at hs
  refine runFX_of (show Rt t_u_law_made [.sh (encSv v)] _ from ?_)
  unfold t_u_law_made
  exact Rt.ret (Vo.of (make5 (oV (prim1 (ixV rfl oc rfl rfl (v_0 v)) rfl pList_lst)) (oV (prim1 (ixV rfl oc rfl rfl (v_1 v)) rfl pList_lst)) (ixV rfl oc rfl rfl (v_2 v)) (oV (prim1 (ixV rfl oc rfl rfl (v_3 v)) rfl pList_lst)) (oV (prim1 (ixV rfl oc rfl rfl (v_4 v)) rfl pList_lst)) hs))
theorem SvG.filter {v : Sv} {N : Nat} (h : SvG v N) (p : Rw → Bool) : SvG { v with rows := v.rows.filter p } N where
  f := h.f
  n := h.n
  pos := h.pos
  le := h.le
  raw := ⟨fun r hr => h.raw.rng r (List.mem_filter.mp hr).1, fun r hr => h.raw.lab r (List.mem_filter.mp hr).1, h.raw.nd.filter _, by have := List.length_filter_le p v.rows; have := h.raw.len; show (v.rows.filter p).length ≤ 2000; omega, h.raw.fr, h.raw.fa⟩
  srt := sortE_iff.mpr ((sortE_iff.mp h.srt).filter _)
  len := by have := List.length_filter_le p v.rows; have := h.len; show (v.rows.filter p).length ≤ 12; omega
end Lw
set_option Elab.async false
set_option linter.all false
set_option autoImplicit false
set_option maxRecDepth 100000
set_option maxHeartbeats 1000000
namespace Lw
open PySem Ev
theorem partner_ok (p : Pt) (h : ptB p = true) : F_C_Partner (.obj "Partner" []) [.int p.n, .lst (p.rows.map encRow), .lst (encI p.fin)] = .ok (fz .non) (obPt { p with rows := sortE encRow p.rows }) := by
  obtain ⟨n, rows, fin⟩ := p
  unfold ptB at h
  rw [Bool.and_eq_true] at h
  obtain ⟨h1, h2⟩ := h
  have hl : (rows.length : Int) ≤ 2000 := shape_len h1
  have m := is_shape_ok n 300 rows 2000 fin (by omega)
  rw [h1] at m
  let E : Slot → En := fun s4 => [.bx (.obj "Partner" []), .sh (.int n), .sh (.lst (rows.map encRow)), .sh (.lst (encI fin)), s4, .unb, .unb, .unb]
  have c := sComp_map (vs := [5, 6, 7]) (tg := .many [5, 6, 7]) (s := sSeq (oName 2)) (el := oVal (sCall [false] F_is_label [oVal (sName 6)])) (e := E (.sh (.bl true))) (ck := some (2, .lst (rows.map encRow))) encRow rows (fun r => .bl (labelB r.2.1)) (by simp [E]) rfl rfl (fun x hx => ⟨_, rfl, oVal_of (call1 (name_sh rfl) (is_label_ok x.2.1))⟩)
  have r := prim1 (p := pAll) (oVal_of c) rfl (pAll_map rows _)
  rw [h2] at r
  have so : pSortedA [.lst (rows.map encRow)] = some (nw (.lst ((sortE encRow rows).map encRow))) := sorted_enc (sortOk_rows rows)
  refine runBX_nx (e := [.sh (.int n), .sh (.lst (rows.map encRow)), .sh (.lst (encI fin)), .sh (.bl true), .unb, .unb, .unb]) ?_
  have h0 : startB (.obj "Partner" []) [.int n, .lst (rows.map encRow), .lst (encI fin)] 8 = E .unb := rfl
  show t_C_Partner (startB (.obj "Partner" []) [.int n, .lst (rows.map encRow), .lst (encI fin)] 8) = _
  rw [h0]
  unfold t_C_Partner
  refine then_step (asg_nx (e1 := E .unb) (e2 := E (.sh (.bl true))) (v := fz (.bl true)) (call5 (name_sh rfl) oc (name_sh rfl) oc (name_sh rfl) m)) ?_
  refine guard_f (tOr_f (e1 := E (.sh (.bl true))) (by simp [E]) (tNot_of (b := true) (tVal_b r))) ?_
  refine then_step (setF_bx (v := fz (.int n)) rfl rfl (hat_partner _ (.inl rfl)) (by decide) (by rfl)) ?_
  refine then_step (setF_bx (prim1 rfl rfl so) rfl (hat_partner _ (.inr (.inl rfl))) (by show 1 < 1000; decide) (by rfl)) ?_
  exact setF_bx (prim1 rfl rfl pList_lst) rfl (hat_partner _ (.inr (.inr rfl))) (by show 2 < 1000; decide) (by rfl)
theorem f_sn (s : Sv) : pFld at_ "states" [obSv s] = some (fz (.int s.n)) := pFld_of (by decide) (by rfl)
theorem f_srows (s : Sv) : pFld at_ "transitions" [obSv s] = some (fz (.lst (s.rows.map encRow))) := pFld_of (by decide) (by rfl)
theorem f_sfin (s : Sv) : pFld at_ "final" [obSv s] = some (fz (.lst (encI s.fin))) := pFld_of (by decide) (by rfl)
def turnS (l : Str) : Str := (if L2.cutS l none (some 1) = "!" then ("?" : Str) else "!") ++ L2.cutS l (some 1) none
theorem LL_fst : ∀ l ∈ LL, (L2.atI l.cps.toList 0).map (fun c => (⟨#[c]⟩ : Str)) = some (L2.cutS l none (some 1)) := by decide +kernel
theorem LL_len : ∀ l ∈ LL, (if L2.cutS l none (some 1) = "!" then ("?" : Str) else "!").length + (L2.cutS l (some 1) none).length ≤ 10 := by decide +kernel
theorem LL_inj : ∀ a ∈ LL, ∀ b ∈ LL, a ≠ "tau" → b ≠ "tau" → turnS a = turnS b → a = b := by decide +kernel
theorem LL_lab : ∀ l ∈ LL, l ≠ "tau" → labelB (turnS l) = true := by decide +kernel
theorem turned_ok {l : Str} (h : l ∈ LL) : F_u_turned [.str l] = .ok (fz (.str (turnS l))) := by
  have h1 : pIxA [.str l, .int 0] = some (fz (.str (L2.cutS l none (some 1)))) := by
    have := LL_fst l h
    rw [pIxA_str]
    cases q : L2.atI l.cps.toList 0 with
    | none => rw [q] at this; cases this
    | some c =>
      rw [q] at this
      have e : (⟨#[c]⟩ : Str) = L2.cutS l none (some 1) := Option.some.inj this
      show some (fz (.str ⟨#[c]⟩)) = _
      rw [e]
  have hl := LL_len l h
  refine runF_of (show Rt t_u_turned [.sh (.str l)] _ from Rt.ret (Vo.of (e1 := [.sh (.str l)]) ?_))
  have hs : sSlice (oName 0) (some (oVal (sC (.int 1)))) none [.sh (.str l)] = .ok (fz (.str (L2.cutS l (some 1) none))) [.sh (.str l)] := rfl
  have hc : tBool (sPrim pEq [oVal (sPrim pIxA [oName 0, oVal (sC (.int 0))]), oVal (sC (.str "!"))]) [.sh (.str l)] = .ok (decide (L2.cutS l none (some 1) = "!")) [.sh (.str l)] := tBool_of (prim2 (ixV rfl oc rfl rfl h1) oc rfl rfl pEq_str)
  have hi : sIf (tBool (sPrim pEq [oVal (sPrim pIxA [oName 0, oVal (sC (.int 0))]), oVal (sC (.str "!"))])) (sC (.str "?")) (sC (.str "!")) [.sh (.str l)] = .ok (fz (.str (if L2.cutS l none (some 1) = "!" then "?" else "!"))) [.sh (.str l)] := by
    unfold sIf
    rw [hc, Out.bind_ok]
    by_cases q : L2.cutS l none (some 1) = "!"
    · rw [if_pos (decide_eq_true q), if_pos q]; rfl
    · rw [decide_eq_false q, if_neg Bool.false_ne_true, if_neg q]; rfl
  have hp : pAdd [.str (if L2.cutS l none (some 1) = "!" then "?" else "!"), .str (L2.cutS l (some 1) none)] = some (fz (.str (turnS l))) := pAdd_str (smallL (Nat.le_trans hl (by decide)))
  exact prim2 (oV hi) (oV hs) rfl rfl hp
def turnR (r : Rw) : Rw := (r.1, turnS r.2.1, r.2.2)
def tauB (r : Rw) : Bool := decide (r.2.1 = ("tau" : Str))
theorem SvG.LL {v : Sv} {N : Nat} (h : SvG v N) {r : Rw} (hr : r ∈ v.rows) : r.2.1 ∈ LL := face_LL _ h.f _ (h.raw.lab r hr)
/-- the dual partner -/
noncomputable def dualP (v : Sv) (N : Nat) : Pt := ⟨N, sortE encRow (v.rows.map turnR), v.fin⟩
theorem dual_no {v : Sv} {N : Nat} (h : SvG v N) (ht : v.rows.any tauB = true) : F_dual [obSv v] = .exc (talkE "internal transitions") := by
  have c := sComp_map (vs := [2, 3, 4]) (tg := .many [2, 3, 4]) (s := sSeq (oVal (sFld at_ "transitions" (oName 0)))) (el := oVal (sPrim pEq [oName 3, oVal (sC (.str "tau"))])) (e := [.sh (obSv v), .unb, .unb, .unb, .unb]) (ck := none) encRow v.rows (fun r => .bl (tauB r)) (seq_of (oV (prim1 rfl rfl (f_srows v)))) rfl trivial (fun x hx => ⟨_, rfl, oV (prim2 rfl oc rfl rfl pEq_str)⟩)
  have r := prim1 (p := pAny) (oVal_of c) rfl (pAny_map v.rows tauB)
  rw [ht] at r
  refine runFX_exc (show Xc t_dual [.sh (obSv v), .unb, .unb, .unb, .unb] _ from ?_)
  unfold t_dual
  exact Xc.gt (tVal_b r) Xc.raise
theorem dual_yes {v : Sv} {N : Nat} (h : SvG v N) (ht : v.rows.any tauB = false) : F_dual [obSv v] = .ok (nw (obPt (dualP v N))) := by
  have c := sComp_map (vs := [2, 3, 4]) (tg := .many [2, 3, 4]) (s := sSeq (oVal (sFld at_ "transitions" (oName 0)))) (el := oVal (sPrim pEq [oName 3, oVal (sC (.str "tau"))])) (e := [.sh (obSv v), .unb, .unb, .unb, .unb]) (ck := none) encRow v.rows (fun r => .bl (tauB r)) (seq_of (oV (prim1 rfl rfl (f_srows v)))) rfl trivial (fun x hx => ⟨_, rfl, oV (prim2 rfl oc rfl rfl pEq_str)⟩)
  have r := prim1 (p := pAny) (oVal_of c) rfl (pAny_map v.rows tauB)
  rw [ht] at r
  have c2 := sComp_map (vs := [2, 3, 4]) (tg := .many [2, 3, 4]) (s := sSeq (oVal (sFld at_ "transitions" (oName 0)))) (el := oVal (sTup [oVal (sName 2), oVal (sCall [false] F_u_turned [oVal (sName 3)]), oVal (sName 4)])) (e := [.sh (obSv v), .unb, .unb, .unb, .unb]) (ck := none) encRow v.rows (fun r => encRow (turnR r)) (seq_of (oV (prim1 rfl rfl (f_srows v)))) rfl trivial (fun x hx => ⟨_, rfl, oV (tup3 (name_sh rfl) (oV (call1 (name_sh rfl) (turned_ok (h.LL hx)))) (name_sh rfl))⟩)
  have e2 : v.rows.map (fun r => encRow (turnR r)) = (v.rows.map turnR).map encRow := by simp [Function.comp_def]
  rw [e2] at c2
  have nt : ∀ r ∈ v.rows, r.2.1 ≠ ("tau" : Str) := fun r hr e => by
    have := List.any_eq_false.mp ht r hr
    exact this (decide_eq_true e)
  have h1 := h.pos
  have h2 := h.le
  have h3 := h.len
  have hp : ptB ⟨N, v.rows.map turnR, v.fin⟩ = true := by
    unfold ptB shapeB rowsB finB rowB inB
    simp only [Bool.and_eq_true, decide_eq_true_eq, List.all_eq_true]
    refine ⟨⟨⟨by omega, by omega⟩, by omega, ⟨by rw [List.length_map]; omega, fun r hr => ?_, ?_⟩, fun f hf => ?_, asc_of (h.raw.fa.imp fun q => decide_eq_true q)⟩, fun r hr => ?_⟩
    · obtain ⟨q, hq, rfl⟩ := List.mem_map.mp hr
      obtain ⟨⟨a1, a2⟩, a3, a4⟩ := h.raw.rng q hq
      show (0 ≤ q.1 ∧ q.1 ≤ (N : Int) - 1) ∧ 0 ≤ q.2.2 ∧ q.2.2 ≤ (N : Int) - 1
      omega
    · refine List.pairwise_map.mpr (h.raw.nd.imp_of_mem fun {a b} ha hb q e => q ?_)
      obtain ⟨e1, e3⟩ := Prod.mk.inj e
      obtain ⟨e3, e4⟩ := Prod.mk.inj e3
      have := LL_inj _ (h.LL ha) _ (h.LL hb) (nt a ha) (nt b hb) e3
      exact Prod.ext e1 (Prod.ext this e4)
    · obtain ⟨a1, a2⟩ := h.raw.fr f hf
      omega
    · obtain ⟨q, hq, rfl⟩ := List.mem_map.mp hr
      exact LL_lab _ (h.LL hq) (nt q hq)
  have m := partner_ok ⟨N, v.rows.map turnR, v.fin⟩ hp
  have hn : pFld at_ "states" [obSv v] = some (fz (.int (N : Nat))) := by rw [f_sn, h.n]
  refine runFX_of (show Rt t_dual [.sh (obSv v), .unb, .unb, .unb, .unb] _ from ?_)
  unfold t_dual
  refine Rt.gf (tVal_b r) (Rt.then (asg_nx (e2 := [.sh (obSv v), .ow (.lst ((v.rows.map turnR).map encRow)), .unb, .unb, .unb]) c2) (Rt.ret (Vo.of (make3 (oV (prim1 rfl rfl hn)) (name_ow rfl) (oV (prim1 rfl rfl (f_sfin v))) m))))
theorem dual_told_no {v : Sv} {N : Nat} (h : SvG v N) (ht : v.rows.any tauB = true) : F_u_law_dual_told [encSv v] = .ok (fz (.str "internal transitions")) := by
  refine runF_of (show Rt t_u_law_dual_told [.sh (encSv v), .unb, .unb] _ from ?_)
  unfold t_u_law_dual_told
  exact Rt.stop (Rt.reason (asg_exc (call1_exc (oV (call1 (name_sh rfl) (made_ok h))) (dual_no h ht))) rfl)
noncomputable def dualD (v : Sv) (N : Nat) : D := .lst [.int N, .lst ((dualP v N).rows.map encRow), .lst (encI v.fin)]
theorem dual_told_yes {v : Sv} {N : Nat} (h : SvG v N) (ht : v.rows.any tauB = false) : F_u_law_dual_told [encSv v] = .ok (nw (dualD v N)) := by
  refine runF_of (show Rt t_u_law_dual_told [.sh (encSv v), .unb, .unb] _ from ?_)
  unfold t_u_law_dual_told
  refine Rt.then (try_nx (asg_nx (e2 := [.sh (encSv v), .unb, .ow (obPt (dualP v N))]) (call1 (oV (call1 (name_sh rfl) (made_ok h))) (dual_yes h ht)))) (Rt.ret (Vo.of (lst3 (oV (prim1 rfl rfl (f_n _))) (oV (prim1 rfl rfl (f_rows _))) (oV (prim1 rfl rfl (f_fin _))))))
end Lw
set_option Elab.async false
set_option linter.all false
set_option autoImplicit false
set_option maxRecDepth 100000
set_option maxHeartbeats 1000000
namespace Lw
open PySem Ev
def ldE (v : Sv) (acc : List Rw) (s2 : Slot) : En := [.sh (encSv v), .ow (.lst (acc.map encRow)), s2]
theorem r_0 (r : Rw) : pIxA [encRow r, .int 0] = some (fz (.int r.1)) := ixT rfl
theorem r_1 (r : Rw) : pIxA [encRow r, .int 1] = some (fz (.str r.2.1)) := ixT rfl
theorem r_2 (r : Rw) : pIxA [encRow r, .int 2] = some (fz (.int r.2.2)) := ixT rfl
theorem fst_ix {l : Str} (h : l ∈ LL) : pIxA [.str l, .int 0] = some (fz (.str (L2.cutS l none (some 1)))) := by
  have := LL_fst l h
  rw [pIxA_str]
  cases q : L2.atI l.cps.toList 0 with
  | none => rw [q] at this; cases this
  | some c =>
    rw [q] at this
    have e : (⟨#[c]⟩ : Str) = L2.cutS l none (some 1) := Option.some.inj this
    show some (fz (.str ⟨#[c]⟩)) = _
    rw [e]
theorem ld_tau (v : Sv) (acc : List Rw) (r : Rw) (h : tauB r = true) : b0_u_law_dual (ldE v acc (.sh (encRow r))) = .rt (fz (.str "internal transitions")) (ldE v acc (.sh (encRow r))) := by
  have ht : tBool (sPrim pEq [oVal (sPrim pIxA [oName 2, oVal (sC (.int 1))]), oVal (sC (.str "tau"))]) (ldE v acc (.sh (encRow r))) = .ok (tauB r) (ldE v acc (.sh (encRow r))) := tBool_of (prim2 (ixV rfl oc rfl rfl (r_1 r)) oc rfl rfl pEq_str)
  rw [h] at ht
  unfold b0_u_law_dual
  exact guard_t ht rfl
theorem ld_row (v : Sv) (acc : List Rw) (ha : acc.length ≤ 1000) (r : Rw) (h : tauB r = false) (hl : r.2.1 ∈ LL) : b0_u_law_dual (ldE v acc (.sh (encRow r))) = .nx (ldE v (acc ++ [turnR r]) (.sh (encRow r))) := by
  have ht : tBool (sPrim pEq [oVal (sPrim pIxA [oName 2, oVal (sC (.int 1))]), oVal (sC (.str "tau"))]) (ldE v acc (.sh (encRow r))) = .ok (tauB r) (ldE v acc (.sh (encRow r))) := tBool_of (prim2 (ixV rfl oc rfl rfl (r_1 r)) oc rfl rfl pEq_str)
  rw [h] at ht
  have hz := LL_len _ hl
  have hs : sSlice (oVal (sPrim pIxA [oName 2, oVal (sC (.int 1))])) (some (oVal (sC (.int 1)))) none (ldE v acc (.sh (encRow r))) = .ok (fz (.str (L2.cutS r.2.1 (some 1) none))) (ldE v acc (.sh (encRow r))) := by
    unfold sSlice
    rw [ixV (e := ldE v acc (.sh (encRow r))) (e1 := ldE v acc (.sh (encRow r))) (e2 := ldE v acc (.sh (encRow r))) (m := oName 2) (n := oVal (sC (.int 1))) rfl oc rfl rfl (r_1 r)]
    rfl
  have hi : sPrim pIxA [oVal (sLst [oVal (sC (.str "!")), oVal (sC (.str "?"))]), oVal (sPrim pInt [oVal (sPrim pEq [oVal (sPrim pIxA [oVal (sPrim pIxA [oName 2, oVal (sC (.int 1))]), oVal (sC (.int 0))]), oVal (sC (.str "!"))])])] (ldE v acc (.sh (encRow r))) = .ok (fz (.str (if L2.cutS r.2.1 none (some 1) = "!" then ("?" : Str) else "!"))) (ldE v acc (.sh (encRow r))) := by
    refine prim2 (oV (lst2 oc oc)) (oV (w := false) (d := .int (if L2.cutS r.2.1 none (some 1) = "!" then 1 else 0)) (prim1 (oV (prim2 (ixV (ixV rfl oc rfl rfl (r_1 r)) oc rfl rfl (fst_ix hl)) oc rfl rfl pEq_str)) rfl ?_)) rfl rfl ?_
    · by_cases q : L2.cutS r.2.1 none (some 1) = "!"
      · rw [if_pos q, decide_eq_true q]; rfl
      · rw [if_neg q, decide_eq_false q]; rfl
    · by_cases q : L2.cutS r.2.1 none (some 1) = "!"
      · rw [if_pos q, if_pos q]; exact ixL rfl
      · rw [if_neg q, if_neg q]; exact ixL rfl
  have hp : pAdd [.str (if L2.cutS r.2.1 none (some 1) = "!" then ("?" : Str) else "!"), .str (L2.cutS r.2.1 (some 1) none)] = some (fz (.str (turnS r.2.1))) := pAdd_str (smallL (Nat.le_trans hz (by decide)))
  unfold b0_u_law_dual
  refine guard_f ht (append_ow (d := encRow (turnR r)) (oV (tup3 (ixV rfl oc rfl rfl (r_0 r)) (oV (prim2 (oV hi) (oV hs) rfl rfl hp)) (ixV rfl oc rfl rfl (r_2 r)))) rfl rfl (small (by rw [List.length_map]; omega)) ?_)
  simp [ldE]
theorem ld_go (v : Sv) : ∀ (rows : List Rw) (acc : List Rw) (s2 : Slot), acc.length + rows.length ≤ 1000 → (∀ r ∈ rows, r.2.1 ∈ LL) →
    (rows.any tauB = true → ∃ e', forGo (.one 2) b0_u_law_dual (rows.map encRow) (ldE v acc s2) = .rt (fz (.str "internal transitions")) e') ∧
    (rows.any tauB = false → ∃ s2', forGo (.one 2) b0_u_law_dual (rows.map encRow) (ldE v acc s2) = .nx (ldE v (acc ++ rows.map turnR) s2'))
  | [], acc, s2, _, _ => ⟨fun h => by simp at h, fun _ => ⟨s2, by simp [forGo]⟩⟩
  | r :: rows, acc, s2, hl, hL => by
    simp only [List.length_cons] at hl
    have e1 : forGo (.one 2) b0_u_law_dual ((r :: rows).map encRow) (ldE v acc s2) = (match b0_u_law_dual (ldE v acc (.sh (encRow r))) with
      | .nx e2 => forGo (.one 2) b0_u_law_dual (rows.map encRow) e2
      | .ct e2 => forGo (.one 2) b0_u_law_dual (rows.map encRow) e2
      | .bk e2 => .nx e2
      | q => q) := rfl
    rw [e1]
    cases ht : tauB r with
    | true =>
      rw [ld_tau v acc r ht]
      refine ⟨fun _ => ⟨_, rfl⟩, fun h => ?_⟩
      simp [ht] at h
    | false =>
      rw [ld_row v acc (by omega) r ht (hL r (.head _))]
      obtain ⟨i1, i2⟩ := ld_go v rows (acc ++ [turnR r]) (.sh (encRow r)) (by simp; omega) (fun q hq => hL q (.tail _ hq))
      refine ⟨fun h => i1 (by simpa [ht] using h), fun h => ?_⟩
      obtain ⟨s2', i2⟩ := i2 (by simpa [ht] using h)
      refine ⟨s2', ?_⟩
      show forGo (.one 2) b0_u_law_dual (rows.map encRow) (ldE v (acc ++ [turnR r]) (.sh (encRow r))) = _
      rw [i2]
      simp
theorem law_dual_no {v : Sv} {N : Nat} (h : SvG v N) (ht : v.rows.any tauB = true) : F_u_law_dual [encSv v] = .ok (fz (.str "internal transitions")) := by
  obtain ⟨e', g⟩ := (ld_go v v.rows [] .unb (by have := h.len; simp; omega) (fun r hr => h.LL hr)).1 ht
  have h0 := sFor_of (tg := .one 2) (b := b0_u_law_dual) (seq_of (ixV (e := ldE v [] .unb) (m := oName 0) (n := oVal (sC (.int 3))) rfl oc rfl rfl (v_3 v))) rfl
  rw [show (⟨v.rows.map encRow, none⟩ : Src).items = v.rows.map encRow from rfl, g] at h0
  refine runF_of (show Rt t_u_law_dual [.sh (encSv v), .unb, .unb] _ from ?_)
  unfold t_u_law_dual
  exact Rt.then (asg_nx (e2 := ldE v [] .unb) lst0) (Rt.stop ⟨_, h0⟩)
theorem law_dual_yes {v : Sv} {N : Nat} (h : SvG v N) (ht : v.rows.any tauB = false) : F_u_law_dual [encSv v] = .ok (nw (dualD v N)) := by
  obtain ⟨s2, g⟩ := (ld_go v v.rows [] .unb (by have := h.len; simp; omega) (fun r hr => h.LL hr)).2 ht
  have h0 := sFor_of (tg := .one 2) (b := b0_u_law_dual) (seq_of (ixV (e := ldE v [] .unb) (m := oName 0) (n := oVal (sC (.int 3))) rfl oc rfl rfl (v_3 v))) rfl
  rw [show (⟨v.rows.map encRow, none⟩ : Src).items = v.rows.map encRow from rfl, g] at h0
  have hn : pIxA [encSv v, .int 2] = some (fz (.int (N : Nat))) := by rw [v_2, h.n]
  have so : pSortedA [.lst (([] ++ v.rows.map turnR).map encRow)] = some (nw (.lst ((sortE encRow (v.rows.map turnR)).map encRow))) := by rw [List.nil_append]; exact sorted_enc (sortOk_rows _)
  refine runF_of (show Rt t_u_law_dual [.sh (encSv v), .unb, .unb] _ from ?_)
  unfold t_u_law_dual
  refine Rt.then (asg_nx (e2 := ldE v [] .unb) lst0) (Rt.then h0 (Rt.ret (Vo.of (lst3 (ixV rfl oc rfl rfl hn) (oV (prim1 rfl rfl so)) (ixV rfl oc rfl rfl (v_4 v))))))
/-- the two agree -/
theorem dual_same {v : Sv} {N : Nat} (h : SvG v N) : ∃ d w, F_u_law_dual_told [encSv v] = .ok ⟨d, w⟩ ∧ (∃ w', F_u_law_dual [encSv v] = .ok ⟨d, w'⟩) ∧ plainN 8 d = true := by
  cases ht : v.rows.any tauB with
  | true => exact ⟨_, _, dual_told_no h ht, ⟨_, law_dual_no h ht⟩, by simp⟩
  | false => exact ⟨_, _, dual_told_yes h ht, ⟨_, law_dual_yes h ht⟩, by simp [dualD, encI, encRow]⟩
end Lw
set_option Elab.async false
set_option linter.all false
set_option autoImplicit false
set_option maxRecDepth 100000
set_option maxHeartbeats 1000000
namespace Lw
open PySem Ev
/-! ### the transitions of two side by side -/
def besA (K : Nat) (r : Rw) : List Rw := (List.range K).map fun t : Nat => (r.1 * K + t, r.2.1, r.2.2 * K + t)
def besB (N K : Nat) (r : Rw) : List Rw := (List.range N).map fun s : Nat => ((s : Int) * K + r.1, r.2.1, (s : Int) * K + r.2.2)
def bes (v u : Sv) (N K : Nat) : List Rw := (v.rows.flatMap (besA K)) ++ u.rows.flatMap (besB N K)
theorem bes_len {v u : Sv} {N K : Nat} (h : SvG v N) (k : SvG u K) : (bes v u N K).length ≤ 96 := by
  have h1 := h.len
  have h2 := h.le
  have k1 := k.len
  have k2 := k.le
  have e1 : ∀ l : List Rw, (l.flatMap (besA K)).length = l.length * K := by
    intro l
    induction l with
    | nil => simp
    | cons r l ih => rw [List.flatMap_cons, List.length_append, ih, List.length_cons, Nat.add_mul, Nat.one_mul, Nat.add_comm]; simp [besA]
  have e2 : ∀ l : List Rw, (l.flatMap (besB N K)).length = l.length * N := by
    intro l
    induction l with
    | nil => simp
    | cons r l ih => rw [List.flatMap_cons, List.length_append, ih, List.length_cons, Nat.add_mul, Nat.one_mul, Nat.add_comm]; simp [besB]
  unfold bes
  rw [List.length_append, e1, e2]
  have := Nat.mul_le_mul h1 k2
  have := Nat.mul_le_mul k1 h2
  omega
theorem foldl_app {α β : Type} (f : α → List β) : ∀ (l : List α) (acc : List β), l.foldl (fun a x => a ++ f x) acc = acc ++ l.flatMap f
  | [], acc => by simp
  | x :: l, acc => by rw [List.foldl_cons, foldl_app f l]; simp
theorem mulK {i : Int} {K : Nat} (h : K ≤ 100) : pMul [.int i, .int (K : Nat)] = some (fz (.int (i * K))) := pMul_int (.inr ⟨by omega, by omega⟩)
def beE (v u : Sv) (acc : List Rw) (k : Slot × Slot × Slot) : En := [.sh (obSv v), .sh (obSv u), .ow (.lst (acc.map encRow)), k.1, k.2.1, k.2.2, .unb, .unb]
theorem be_step1 (v u : Sv) {K : Nat} (hk : K ≤ 4) (hu : pFld at_ "states" [obSv u] = some (fz (.int (K : Nat)))) (acc : List Rw) (ha : acc.length ≤ 1000) (r : Rw) :
    b0_u_beside (beE v u acc (.sh (.int r.1), .sh (.str r.2.1), .sh (.int r.2.2))) = .nx (beE v u (acc ++ besA K r) (.sh (.int r.1), .sh (.str r.2.1), .sh (.int r.2.2))) := by
  have c := sComp_map (vs := [6]) (tg := .one 6) (s := sRange [oVal (sFld at_ "states" (oName 1))]) (el := oVal (sTup [oVal (sPrim pAdd [oVal (sPrim pMul [oName 3, oVal (sFld at_ "states" (oName 1))]), oName 6]), oVal (sName 4), oVal (sPrim pAdd [oVal (sPrim pMul [oName 5, oVal (sFld at_ "states" (oName 1))]), oName 6])])) (e := beE v u acc (.sh (.int r.1), .sh (.str r.2.1), .sh (.int r.2.2))) (ck := none) (fun t : Nat => D.int (t : Nat)) (List.range K) (fun t : Nat => encRow (r.1 * K + t, r.2.1, r.2.2 * K + t))
    (range_of (e1 := beE v u acc (.sh (.int r.1), .sh (.str r.2.1), .sh (.int r.2.2))) (by
      have := oV (m := sFld at_ "states" (oName 1)) (e := beE v u acc (.sh (.int r.1), .sh (.str r.2.1), .sh (.int r.2.2))) (prim1 rfl rfl hu)
      simp only [e_args, e_ops1, e_ops0, this, Out.bind_ok, e_ress1, e_ress0, e_res0]) (by omega)) rfl trivial
    (fun t ht => ⟨_, rfl, oV (tup3 (oV (prim2 (oV (prim2 rfl (oV (prim1 rfl rfl hu)) rfl rfl (mulK (by omega)))) rfl rfl rfl pAdd_int)) (name_sh rfl) (oV (prim2 (oV (prim2 rfl (oV (prim1 rfl rfl hu)) rfl rfl (mulK (by omega)))) rfl rfl rfl pAdd_int)))⟩)
  have e1 : (List.range K).map (fun t : Nat => encRow (r.1 * K + t, r.2.1, r.2.2 * K + t)) = (besA K r).map encRow := by simp [besA, Function.comp_def]
  rw [e1] at c
  unfold b0_u_beside
  refine extend_ow (oV c) rfl rfl (smallL ?_) ?_
  · have : (besA K r).length = K := by simp [besA]
    rw [List.length_map, List.length_map, this]
    omega
  · simp [beE]
theorem be_go1 (v u : Sv) {K : Nat} (hk : K ≤ 4) (hu : pFld at_ "states" [obSv u] = some (fz (.int (K : Nat)))) : ∀ (l acc : List Rw) (k : Slot × Slot × Slot), acc.length + l.length * 4 ≤ 1000 →
    ∃ k', forGo (.many [3, 4, 5]) b0_u_beside (l.map encRow) (beE v u acc k) = .nx (beE v u (acc ++ l.flatMap (besA K)) k')
  | [], acc, k, _ => ⟨k, by simp [forGo]⟩
  | r :: l, acc, k, hl => by
    simp only [List.length_cons] at hl
    have hb : (besA K r).length = K := by simp [besA]
    obtain ⟨k', ih⟩ := be_go1 v u hk hu l (acc ++ besA K r) (.sh (.int r.1), .sh (.str r.2.1), .sh (.int r.2.2)) (by rw [List.length_append, hb]; omega)
    refine ⟨k', ?_⟩
    have e1 : forGo (.many [3, 4, 5]) b0_u_beside ((r :: l).map encRow) (beE v u acc k) = (match b0_u_beside (beE v u acc (.sh (.int r.1), .sh (.str r.2.1), .sh (.int r.2.2))) with
      | .nx e2 => forGo (.many [3, 4, 5]) b0_u_beside (l.map encRow) e2
      | .ct e2 => forGo (.many [3, 4, 5]) b0_u_beside (l.map encRow) e2
      | .bk e2 => .nx e2
      | q => q) := rfl
    rw [e1, be_step1 v u hk hu acc (by omega) r]
    show forGo (.many [3, 4, 5]) b0_u_beside (l.map encRow) (beE v u (acc ++ besA K r) _) = _
    rw [ih]
    simp
theorem be_step2 (v u : Sv) {N K : Nat} (hk : N ≤ 4) (hK : K ≤ 4) (hu : pFld at_ "states" [obSv u] = some (fz (.int (K : Nat)))) (hv : pFld at_ "states" [obSv v] = some (fz (.int (N : Nat)))) (acc : List Rw) (ha : acc.length ≤ 1000) (r : Rw) :
    b1_u_beside (beE v u acc (.sh (.int r.1), .sh (.str r.2.1), .sh (.int r.2.2))) = .nx (beE v u (acc ++ besB N K r) (.sh (.int r.1), .sh (.str r.2.1), .sh (.int r.2.2))) := by
  have c := sComp_map (vs := [7]) (tg := .one 7) (s := sRange [oVal (sFld at_ "states" (oName 0))]) (el := oVal (sTup [oVal (sPrim pAdd [oVal (sPrim pMul [oName 7, oVal (sFld at_ "states" (oName 1))]), oName 3]), oVal (sName 4), oVal (sPrim pAdd [oVal (sPrim pMul [oName 7, oVal (sFld at_ "states" (oName 1))]), oName 5])])) (e := beE v u acc (.sh (.int r.1), .sh (.str r.2.1), .sh (.int r.2.2))) (ck := none) (fun t : Nat => D.int (t : Nat)) (List.range N) (fun s : Nat => encRow ((s : Int) * K + r.1, r.2.1, (s : Int) * K + r.2.2))
    (range_of (e1 := beE v u acc (.sh (.int r.1), .sh (.str r.2.1), .sh (.int r.2.2))) (by
      have := oV (m := sFld at_ "states" (oName 0)) (e := beE v u acc (.sh (.int r.1), .sh (.str r.2.1), .sh (.int r.2.2))) (prim1 rfl rfl hv)
      simp only [e_args, e_ops1, e_ops0, this, Out.bind_ok, e_ress1, e_ress0, e_res0]) (by omega)) rfl trivial
    (fun t ht => ⟨_, rfl, oV (tup3 (oV (prim2 (oV (prim2 rfl (oV (prim1 rfl rfl hu)) rfl rfl (mulK (by omega)))) rfl rfl rfl pAdd_int)) (name_sh rfl) (oV (prim2 (oV (prim2 rfl (oV (prim1 rfl rfl hu)) rfl rfl (mulK (by omega)))) rfl rfl rfl pAdd_int)))⟩)
  have e1 : (List.range N).map (fun s : Nat => encRow ((s : Int) * K + r.1, r.2.1, (s : Int) * K + r.2.2)) = (besB N K r).map encRow := by simp [besB, Function.comp_def]
  rw [e1] at c
  unfold b1_u_beside
  refine extend_ow (oV c) rfl rfl (smallL ?_) ?_
  · have : (besB N K r).length = N := by simp [besB]
    rw [List.length_map, List.length_map, this]
    omega
  · simp [beE]
theorem be_go2 (v u : Sv) {N K : Nat} (hk : N ≤ 4) (hK : K ≤ 4) (hu : pFld at_ "states" [obSv u] = some (fz (.int (K : Nat)))) (hv : pFld at_ "states" [obSv v] = some (fz (.int (N : Nat)))) : ∀ (l acc : List Rw) (k : Slot × Slot × Slot), acc.length + l.length * 4 ≤ 1000 →
    ∃ k', forGo (.many [3, 4, 5]) b1_u_beside (l.map encRow) (beE v u acc k) = .nx (beE v u (acc ++ l.flatMap (besB N K)) k')
  | [], acc, k, _ => ⟨k, by simp [forGo]⟩
  | r :: l, acc, k, hl => by
    simp only [List.length_cons] at hl
    have hb : (besB N K r).length = N := by simp [besB]
    obtain ⟨k', ih⟩ := be_go2 v u hk hK hu hv l (acc ++ besB N K r) (.sh (.int r.1), .sh (.str r.2.1), .sh (.int r.2.2)) (by rw [List.length_append, hb]; omega)
    refine ⟨k', ?_⟩
    have e1 : forGo (.many [3, 4, 5]) b1_u_beside ((r :: l).map encRow) (beE v u acc k) = (match b1_u_beside (beE v u acc (.sh (.int r.1), .sh (.str r.2.1), .sh (.int r.2.2))) with
      | .nx e2 => forGo (.many [3, 4, 5]) b1_u_beside (l.map encRow) e2
      | .ct e2 => forGo (.many [3, 4, 5]) b1_u_beside (l.map encRow) e2
      | .bk e2 => .nx e2
      | q => q) := rfl
    rw [e1, be_step2 v u hk hK hu hv acc (by omega) r]
    show forGo (.many [3, 4, 5]) b1_u_beside (l.map encRow) (beE v u (acc ++ besB N K r) _) = _
    rw [ih]
    simp
theorem beside_ok {v u : Sv} {N K : Nat} (h : SvG v N) (k : SvG u K) : F_u_beside [obSv v, obSv u] = .ok (nw (.lst ((bes v u N K).map encRow))) := by
  have hu : pFld at_ "states" [obSv u] = some (fz (.int (K : Nat))) := by rw [f_sn, k.n]
  have hv : pFld at_ "states" [obSv v] = some (fz (.int (N : Nat))) := by rw [f_sn, h.n]
  have h1 := h.len
  have k1 := k.len
  have hbl := bes_len h k
  unfold bes at hbl
  rw [List.length_append] at hbl
  obtain ⟨k2, g1⟩ := be_go1 v u k.le hu v.rows [] (.unb, .unb, .unb) (by simp; omega)
  obtain ⟨k3, g2⟩ := be_go2 v u h.le k.le hu hv u.rows ([] ++ v.rows.flatMap (besA K)) k2 (by rw [List.nil_append]; omega)
  have q1 := sFor_of (tg := .many [3, 4, 5]) (b := b0_u_beside) (seq_of (e := beE v u [] (.unb, .unb, .unb)) (oV (prim1 (m := oName 0) rfl rfl (f_srows v)))) rfl
  have q2 := sFor_of (tg := .many [3, 4, 5]) (b := b1_u_beside) (seq_of (e := beE v u ([] ++ v.rows.flatMap (besA K)) k2) (oV (prim1 (m := oName 1) rfl rfl (f_srows u)))) rfl
  rw [show (⟨v.rows.map encRow, none⟩ : Src).items = v.rows.map encRow from rfl, g1] at q1
  rw [show (⟨u.rows.map encRow, none⟩ : Src).items = u.rows.map encRow from rfl, g2] at q2
  refine runF_of (show Rt t_u_beside [.sh (obSv v), .sh (obSv u), .unb, .unb, .unb, .unb, .unb, .unb] _ from ?_)
  unfold t_u_beside
  refine Rt.then (asg_nx (e2 := beE v u [] (.unb, .unb, .unb)) lst0) (Rt.then q1 (Rt.then q2 ⟨(beE v u (([] ++ v.rows.flatMap (besA K)) ++ u.rows.flatMap (besB N K)) k3).set 2 .unb, ?_⟩))
  rw [List.nil_append]
  rfl
end Lw
set_option Elab.async false
set_option linter.all false
set_option autoImplicit false
set_option maxRecDepth 100000
set_option maxHeartbeats 1000000
namespace Lw
open PySem Ev
/-- sorted, without doubles -/
theorem asc_sortS {l : List Str} (h : l.Nodup) : ascS (sortS l) = true := by
  refine asc_of ?_
  have h1 : (sortS l).Pairwise fun a b => leD (.str a) (.str b) = true := sortE_pw (enc := D.str) l
  have h2 : (sortS l).Nodup := sortE_nodup.mpr h
  refine (h1.and h2).imp fun {a b} q => ?_
  obtain ⟨q1, q2⟩ := q
  rw [leD_str, Bool.not_eq_true'] at q1
  have q3 := of_decide_eq_false q1
  unfold ltS
  refine decide_eq_true ?_
  refine Classical.byContradiction fun z => q2 ?_
  have e : a.cps.toList = b.cps.toList := List.le_antisymm (by simpa using q3) (by simpa using z)
  obtain ⟨⟨a⟩⟩ := a
  obtain ⟨⟨b⟩⟩ := b
  simp at e
  rw [e]
theorem asc_sortI {l : List Int} (h : l.Nodup) : ascI (sortE D.int l) = true := by
  refine asc_of ?_
  have h1 : (sortE D.int l).Pairwise fun a b => leD (.int a) (.int b) = true := sortE_pw (enc := D.int) l
  have h2 : (sortE D.int l).Nodup := sortE_nodup.mpr h
  refine (h1.and h2).imp fun {a b} q => ?_
  obtain ⟨q1, q2⟩ := q
  rw [leD_int] at q1
  have := of_decide_eq_true q1
  exact decide_eq_true (by omega)
theorem sortOk_int (l : List Int) : sortOk (l.map D.int) := by
  refine ⟨?_, .inr ?_, ?_⟩
  · rw [List.map_map]; exact PySem.W.AllAlike.of fun _ _ => rfl
  · intro d hd
    rw [List.map_map] at hd
    obtain ⟨x, _, e⟩ := List.mem_map.mp hd
    subst e
    exact ⟨PyData.noConfusion, fun _ => PyData.noConfusion⟩
  · intro d hd
    obtain ⟨x, _, e⟩ := List.mem_map.mp hd
    subst e
    exact ⟨rfl, Nat.zero_le _⟩
theorem rows_nodup_enc {l : List Rw} : (l.map encRow).Nodup ↔ l.Nodup := ⟨fun h => (List.pairwise_map.mp h).imp fun q e => q (by rw [e]), fun h => List.pairwise_map.mpr (h.imp fun q e => q (encRow_inj.mp e))⟩
theorem all_R : ∀ ds : List D, (∀ x ∈ ds, ∃ c, x = encRow c) → ∃ cs : List Rw, ds = cs.map encRow
  | [], _ => ⟨[], rfl⟩
  | d :: ds, h => by
    obtain ⟨c, rfl⟩ := h d (.head _)
    obtain ⟨cs, rfl⟩ := all_R ds fun x hx => h x (.tail _ hx)
    exact ⟨c :: cs, rfl⟩
theorem mem_R {l : List Rw} {r : Rw} : encRow r ∈ l.map encRow ↔ r ∈ l := by
  constructor
  · intro h
    obtain ⟨q, hq, e⟩ := List.mem_map.mp h
    rw [← encRow_inj.mp e]; exact hq
  · exact fun h => List.mem_map.mpr ⟨r, h, rfl⟩
theorem sortR_unique {l m : List Rw} (nl : l.Nodup) (nm : m.Nodup) (h : ∀ a, a ∈ l ↔ a ∈ m) : sortE encRow l = sortE encRow m :=
  sortE_unique (enc := encRow) (fun _ _ e => encRow_inj.mp e) (fun _ => by simp [encRow]) (fun _ _ => rfl) (sortE_nodup.mpr nl) (sortE_nodup.mpr nm) (sortE_pw l) (sortE_pw m) (fun a => by rw [sortE_mem, sortE_mem]; exact h a)
/-- the rows of a dict's keys, sorted -/
theorem keys_sorted (l : List Rw) : ∃ us : List Rw, us.Nodup ∧ (∀ r, r ∈ us ↔ r ∈ l) ∧ pSortedA [.dic (dfold (l.map fun r => (encRow r, D.bl true)) [])] = some (nw (.lst ((sortE encRow us).map encRow))) := by
  generalize hdd : dfold (l.map fun x => (encRow x, D.bl true)) [] = dd
  have hk : ∀ x, x ∈ dd.map (·.1) ↔ ∃ c ∈ l, x = encRow c := fun x => by
    rw [← hdd, dfold_keys]
    simp
    constructor
    · rintro ⟨a, b, c, h1, h2⟩; exact ⟨a, b, c, h1, h2.symm⟩
    · rintro ⟨a, b, c, h1, h2⟩; exact ⟨a, b, c, h1, h2.symm⟩
  have hnd : (dd.map (·.1)).Nodup := by rw [← hdd]; exact dfold_nodup _ _ (by simp)
  obtain ⟨us, hus⟩ := all_R (dd.map (·.1)) fun x hx => by
    obtain ⟨c, _, e⟩ := (hk x).mp hx
    exact ⟨c, e⟩
  refine ⟨us, rows_nodup_enc.mp (by rw [← hus]; exact hnd), fun r => ?_, ?_⟩
  · rw [← mem_R, ← hus, hk]
    constructor
    · rintro ⟨d, h1, h2⟩; rw [encRow_inj.mp h2]; exact h1
    · intro h; exact ⟨r, h, rfl⟩
  · have hso := sorted_dic (ds := dd) (by rw [hus]; exact sortOk_rows us)
    rw [hus, sortD_map] at hso
    exact hso
noncomputable def keysR (l : List Rw) : List Rw := Classical.choose (keys_sorted l)
theorem keysR_ok (l : List Rw) : (keysR l).Nodup ∧ (∀ r, r ∈ keysR l ↔ r ∈ l) ∧ pSortedA [.dic (dfold (l.map fun r => (encRow r, D.bl true)) [])] = some (nw (.lst ((sortE encRow (keysR l)).map encRow))) := Classical.choose_spec (keys_sorted l)
def finL (v u : Sv) (K : Nat) : List Int := v.fin.flatMap fun s => u.fin.map fun t => s * K + t
def cmn (v u : Sv) : Bool := (v.ins ++ v.outs).any fun m => decide (m ∈ u.ins ++ u.outs)
noncomputable def both (v u : Sv) (N K : Nat) : Sv := ⟨sortS (v.ins ++ u.ins), sortS (v.outs ++ u.outs), (N : Int) * K, sortE encRow (keysR (bes v u N K)), sortE D.int (finL v u K)⟩
theorem PtRaw.fin_len {ls : List Str} {N : Nat} {rows : List Rw} {fin : List Int} (h : PtRaw ls N rows fin) : fin.length ≤ N := by
  have hn : (fin.map Int.toNat).Nodup := List.pairwise_map.mpr (h.fa.imp_of_mem fun {a b} ha hb q e => by
    have := h.fr a ha
    have := h.fr b hb
    omega)
  have hs : (fin.map Int.toNat).length ≤ (List.range N).length := List.Nodup.length_le_of_subset hn fun x hx => by
    obtain ⟨f, hf, rfl⟩ := List.mem_map.mp hx
    have := h.fr f hf
    exact List.mem_range.mpr (by omega)
  simpa using hs
theorem flat_len {α β : Type} (f : α → List β) (k : Nat) (h : ∀ x, (f x).length = k) : ∀ l : List α, (l.flatMap f).length = l.length * k
  | [] => by simp
  | x :: l => by rw [List.flatMap_cons, List.length_append, flat_len f k h l, h, List.length_cons, Nat.add_mul, Nat.one_mul, Nat.add_comm]
theorem finL_len {v u : Sv} {N K : Nat} (h : SvG v N) (k : SvG u K) : (finL v u K).length ≤ 16 := by
  have h1 := h.raw.fin_len
  have k1 := k.raw.fin_len
  have := h.le
  have := k.le
  unfold finL
  rw [flat_len _ u.fin.length (fun _ => by simp)]
  have := Nat.mul_le_mul (show v.fin.length ≤ 4 by omega) (show u.fin.length ≤ 4 by omega)
  omega
def tgE (v u : Sv) (s2 s3 s4 s5 : Slot) : En := [.sh (obSv v), .sh (obSv u), s2, s3, s4, s5, .unb, .unb, .unb, .unb]
theorem tg_common {v u : Sv} {N K : Nat} (h : SvG v N) (k : SvG u K) : tVal (oVal (sPrim pAny [oVal (sComp [6] (.one 6) (sSeq (oVal (sPrim pAdd [oVal (sFld at_ "inputs" (oName 0)), oVal (sFld at_ "outputs" (oName 0))]))) tTrue (oVal (sPrim pInA [oName 6, oVal (sPrim pAdd [oVal (sFld at_ "inputs" (oName 1)), oVal (sFld at_ "outputs" (oName 1))])])))])) (tgE v u .unb .unb .unb .unb) = .ok (cmn v u) (tgE v u .unb .unb .unb .unb) := by
  have l1 := face_len _ h.f
  have l2 := face_len _ k.f
  simp only at l1 l2
  have a1 : pAdd [.lst (encS v.ins), .lst (encS v.outs)] = some (nw (.lst (encS (v.ins ++ v.outs)))) := by rw [pAdd_lst (smallL (by simp; omega))]; simp
  have a2 : pAdd [.lst (encS u.ins), .lst (encS u.outs)] = some (nw (.lst (encS (u.ins ++ u.outs)))) := by rw [pAdd_lst (smallL (by simp; omega))]; simp
  have c := sComp_map (vs := [6]) (tg := .one 6) (s := sSeq (oVal (sPrim pAdd [oVal (sFld at_ "inputs" (oName 0)), oVal (sFld at_ "outputs" (oName 0))]))) (el := oVal (sPrim pInA [oName 6, oVal (sPrim pAdd [oVal (sFld at_ "inputs" (oName 1)), oVal (sFld at_ "outputs" (oName 1))])])) (e := tgE v u .unb .unb .unb .unb) (ck := none) D.str (v.ins ++ v.outs) (fun m => .bl (decide (m ∈ u.ins ++ u.outs)))
    (seq_of (oV (prim2 (oV (prim1 rfl rfl (f_sins v))) (oV (prim1 rfl rfl (f_souts v))) rfl rfl a1))) rfl trivial (fun m hm => ⟨_, rfl, oV (w := false) (prim2 rfl (oV (prim2 (oV (prim1 rfl rfl (f_sins u))) (oV (prim1 rfl rfl (f_souts u))) rfl rfl a2)) rfl rfl (by simp [pInA_lst]))⟩)
  exact tVal_b (prim1 (oV c) rfl (pAny_map _ _))
theorem together_no {v u : Sv} {N K : Nat} (h : SvG v N) (k : SvG u K) (hc : cmn v u = true) : F_together [obSv v, obSv u] = .exc (talkE "common messages") := by
  have hg := tg_common h k
  rw [hc] at hg
  refine runFX_exc (show Xc t_together (tgE v u .unb .unb .unb .unb) _ from ?_)
  unfold t_together
  exact Xc.gt hg Xc.raise
/-- all but the end -/
theorem together_go {v u : Sv} {N K : Nat} (h : SvG v N) (k : SvG u K) (hc : cmn v u = false) :
    (∀ o, F_C_Service (.obj "Service" []) [.lst (encS (both v u N K).ins), .lst (encS (both v u N K).outs), .int (both v u N K).n, .lst ((both v u N K).rows.map encRow), .lst (encI (both v u N K).fin)] = .ok (fz .non) o → F_together [obSv v, obSv u] = .ok (nw o)) ∧
    (∀ x, F_C_Service (.obj "Service" []) [.lst (encS (both v u N K).ins), .lst (encS (both v u N K).outs), .int (both v u N K).n, .lst ((both v u N K).rows.map encRow), .lst (encI (both v u N K).fin)] = .exc x → F_together [obSv v, obSv u] = .exc x) := by
  have hg := tg_common h k
  rw [hc] at hg
  have l1 := face_len _ h.f
  have l2 := face_len _ k.f
  simp only at l1 l2
  have hu : pFld at_ "states" [obSv u] = some (fz (.int (K : Nat))) := by rw [f_sn, k.n]
  have hv : pFld at_ "states" [obSv v] = some (fz (.int (N : Nat))) := by rw [f_sn, h.n]
  have kl := k.le
  have a1 : pAdd [.lst (encS v.ins), .lst (encS u.ins)] = some (nw (.lst (encS (v.ins ++ u.ins)))) := by rw [pAdd_lst (smallL (by simp; omega))]; simp
  have a2 : pAdd [.lst (encS v.outs), .lst (encS u.outs)] = some (nw (.lst (encS (v.outs ++ u.outs)))) := by rw [pAdd_lst (smallL (by simp; omega))]; simp
  have s1 : pSortedA [.lst (encS (v.ins ++ u.ins))] = some (nw (.lst (encS (both v u N K).ins))) := sorted_enc (sortOk_str _)
  have s2 : pSortedA [.lst (encS (v.outs ++ u.outs))] = some (nw (.lst (encS (both v u N K).outs))) := sorted_enc (sortOk_str _)
  have s3 : pSortedA [.dic (dfold ((bes v u N K).map fun r => (encRow r, D.bl true)) [])] = some (nw (.lst ((both v u N K).rows.map encRow))) := (keysR_ok (bes v u N K)).2.2
  have s4 : pSortedA [.lst ((finL v u K).map D.int)] = some (nw (.lst (encI (both v u N K).fin))) := sorted_enc (sortOk_int _)
  have hb := beside_ok h k
  have hbl := bes_len h k
  have hfl := finL_len h k
  have c1 := sDComp_pure true (vs := [7]) (tg := .one 7) (s := sSeq (oVal (sCall [false, false] F_u_beside [oVal (sName 0), oVal (sName 1)]))) (t := tTrue) (mk := oVal (sName 7)) (mv := oVal (sC (.bl true))) (e := tgE v u (.ow (.lst (encS (both v u N K).ins))) (.ow (.lst (encS (both v u N K).outs))) .unb .unb) encRow (bes v u N K) (fun _ => true) encRow (fun _ => .bl true) (ck := none) (seq_of (oV (call2 (name_sh rfl) (name_sh rfl) hb))) rfl trivial (by omega) (fun r hr => ⟨_, rfl, rfl, fun _ => ⟨name_sh rfl, rfl, keyB_of (by simp [encRow])⟩⟩)
  rw [List.filter_eq_self.mpr fun _ _ => rfl] at c1
  have c2 := sComp2_map (vs := [8, 9]) (vs1 := [9]) (tg := .one 8) (tg1 := .one 9) (s := sSeq (oVal (sFld at_ "final" (oName 0)))) (s1 := sSeq (oVal (sFld at_ "final" (oName 1)))) (el := oVal (sPrim pAdd [oVal (sPrim pMul [oName 8, oVal (sFld at_ "states" (oName 1))]), oName 9])) (e := tgE v u (.ow (.lst (encS (both v u N K).ins))) (.ow (.lst (encS (both v u N K).outs))) (.ow (.lst ((both v u N K).rows.map encRow))) .unb) (ck := none) D.int v.fin (fun _ => u.fin) (fun _ => D.int) (fun s t => .int (s * K + t))
    (seq_of (oV (prim1 rfl rfl (f_sfin v)))) rfl trivial rfl (smallL (by
      have : (v.fin.flatMap fun s => u.fin.map fun t => D.int (s * K + t)).length = (finL v u K).length := by unfold finL; rw [flat_len _ u.fin.length (fun _ => by simp), flat_len _ u.fin.length (fun _ => by simp)]
      omega))
    (fun s hs => ⟨_, rfl, none, seq_of (oV (prim1 rfl rfl (f_sfin u))), rfl, trivial, rfl, fun t ht => ⟨_, rfl, oV (prim2 (oV (prim2 rfl (oV (prim1 rfl rfl hu)) rfl rfl (mulK (by omega)))) rfl rfl rfl pAdd_int), rfl⟩⟩)
  have e2 : (v.fin.flatMap fun s => u.fin.map fun t => D.int (s * K + t)) = (finL v u K).map D.int := by simp [finL, List.map_flatMap, Function.comp_def]
  rw [e2] at c2
  have hm : pMul [.int (N : Nat), .int (K : Nat)] = some (fz (.int (both v u N K).n)) := mulK (by omega)
  generalize both v u N K = B at *
  have env : ∀ (P : Fl → Prop), P (sRet (sMake "Service" (List.replicate 5 false) F_C_Service [oVal (sName 2), oVal (sName 3), oVal (sPrim pMul [oVal (sFld at_ "states" (oName 0)), oVal (sFld at_ "states" (oName 1))]), oVal (sName 4), oVal (sName 5)]) (tgE v u (.ow (.lst (encS B.ins))) (.ow (.lst (encS B.outs))) (.ow (.lst (B.rows.map encRow))) (.ow (.lst (encI B.fin))))) → P (t_together (tgE v u .unb .unb .unb .unb)) := by
    intro P hP
    have st : t_together (tgE v u .unb .unb .unb .unb) = sRet (sMake "Service" (List.replicate 5 false) F_C_Service [oVal (sName 2), oVal (sName 3), oVal (sPrim pMul [oVal (sFld at_ "states" (oName 0)), oVal (sFld at_ "states" (oName 1))]), oVal (sName 4), oVal (sName 5)]) (tgE v u (.ow (.lst (encS B.ins))) (.ow (.lst (encS B.outs))) (.ow (.lst (B.rows.map encRow))) (.ow (.lst (encI B.fin)))) := by
      unfold t_together
      refine guard_f hg ?_
      refine then_step (asg_nx (e2 := tgE v u (.ow (.lst (encS B.ins))) .unb .unb .unb) (prim1 (oV (prim2 (oV (prim1 rfl rfl (f_sins v))) (oV (prim1 rfl rfl (f_sins u))) rfl rfl a1)) rfl s1)) ?_
      refine then_step (asg_nx (e2 := tgE v u (.ow (.lst (encS B.ins))) (.ow (.lst (encS B.outs))) .unb .unb) (prim1 (oV (prim2 (oV (prim1 rfl rfl (f_souts v))) (oV (prim1 rfl rfl (f_souts u))) rfl rfl a2)) rfl s2)) ?_
      refine then_step (asg_nx (e2 := tgE v u (.ow (.lst (encS B.ins))) (.ow (.lst (encS B.outs))) (.ow (.lst (B.rows.map encRow))) .unb) (prim1 (oV c1) rfl s3)) ?_
      exact then_step (asg_nx (e2 := tgE v u (.ow (.lst (encS B.ins))) (.ow (.lst (encS B.outs))) (.ow (.lst (B.rows.map encRow))) (.ow (.lst (encI B.fin)))) (prim1 (oV c2) rfl s4)) rfl
    rw [st]
    exact hP
  refine ⟨fun o ho => ?_, fun x hx => ?_⟩
  · refine runFX_of (show Rt t_together (tgE v u .unb .unb .unb .unb) _ from ?_)
    unfold Rt
    refine env (fun r => ∃ e', r = .rt (nw o) e') ⟨_, ret_rt (make5 (name_ow rfl) (name_ow rfl) (oV (prim2 (oV (prim1 rfl rfl hv)) (oV (prim1 rfl rfl hu)) rfl rfl hm)) (name_ow rfl) (name_ow rfl) ho)⟩
  · refine runFX_exc (show Xc t_together (tgE v u .unb .unb .unb .unb) _ from ?_)
    unfold Xc
    refine env (fun r => ∃ e', r = .exc x e') ⟨_, ret_exc (make5_exc (name_ow rfl) (name_ow rfl) (oV (prim2 (oV (prim1 rfl rfl hv)) (oV (prim1 rfl rfl hu)) rfl rfl hm)) (name_ow rfl) (name_ow rfl) hx)⟩
end Lw
set_option Elab.async false
set_option linter.all false
set_option autoImplicit false
set_option maxRecDepth 100000
set_option maxHeartbeats 1000000
namespace Lw
open PySem Ev
theorem face_nd : ∀ f ∈ faces, f.1.Nodup ∧ f.2.Nodup := by decide +kernel
theorem msgsB_all {l : List Str} (h : msgsB l = true) : ∀ m ∈ l, msgB m = true := by
  unfold msgsB at h
  simp only [Bool.and_eq_true, List.all_eq_true] at h
  exact h.1.2
theorem msgs_sort {a b : List Str} (ha : msgsB a = true) (hb : msgsB b = true) (nd : (a ++ b).Nodup) : msgsB (sortS (a ++ b)) = decide ((a ++ b).length ≤ 3) := by
  unfold msgsB
  have h1 : (sortS (a ++ b)).all msgB = true := List.all_eq_true.mpr fun m hm => by
    rcases List.mem_append.mp (sortE_mem.mp hm) with z | z
    · exact msgsB_all ha m z
    · exact msgsB_all hb m z
  rw [h1, asc_sortS nd, Bool.and_true, Bool.and_true, sortE_len]
theorem cmn_no {v u : Sv} (h : cmn v u = false) : ∀ m, (m ∈ v.ins ∨ m ∈ v.outs) → m ∉ u.ins ∧ m ∉ u.outs := fun m hm => by
  have := List.any_eq_false.mp h m (List.mem_append.mpr hm)
  simp only [decide_eq_true_eq, List.mem_append, not_or] at this
  exact this
theorem bes_rng {v u : Sv} {N K : Nat} (h : SvG v N) (k : SvG u K) : ∀ r ∈ bes v u N K, (0 ≤ r.1 ∧ r.1 < (N : Int) * K) ∧ (0 ≤ r.2.2 ∧ r.2.2 < (N : Int) * K) ∧ (r.2.1 ∈ wordS v.ins v.outs ∨ r.2.1 ∈ wordS u.ins u.outs) := by
  have key : ∀ (a b : Int), 0 ≤ a → a < N → 0 ≤ b → b < K → 0 ≤ a * K + b ∧ a * K + b < (N : Int) * K := fun a b a0 a1 b0 b1 => by
    have hK : (0 : Int) ≤ K := by omega
    have h1 : 0 ≤ a * K := Int.mul_nonneg a0 hK
    have h2 : (a + 1) * K ≤ N * K := Int.mul_le_mul_of_nonneg_right (by omega) hK
    rw [Int.add_mul, Int.one_mul] at h2
    omega
  intro r hr
  unfold bes at hr
  rcases List.mem_append.mp hr with z | z
  · obtain ⟨q, hq, hr⟩ := List.mem_flatMap.mp z
    obtain ⟨t, ht, rfl⟩ := List.mem_map.mp hr
    have ht := List.mem_range.mp ht
    obtain ⟨⟨a1, a2⟩, a3, a4⟩ := h.raw.rng q hq
    exact ⟨key _ _ a1 a2 (by omega) (by omega), key _ _ a3 a4 (by omega) (by omega), .inl (h.raw.lab q hq)⟩
  · obtain ⟨q, hq, hr⟩ := List.mem_flatMap.mp z
    obtain ⟨t, ht, rfl⟩ := List.mem_map.mp hr
    have ht := List.mem_range.mp ht
    obtain ⟨⟨a1, a2⟩, a3, a4⟩ := k.raw.rng q hq
    exact ⟨key _ _ (by omega) (by omega) a1 a2, key _ _ (by omega) (by omega) a3 a4, .inr (k.raw.lab q hq)⟩
theorem finL_ok {v u : Sv} {N K : Nat} (h : SvG v N) (k : SvG u K) : (∀ f ∈ finL v u K, 0 ≤ f ∧ f < (N : Int) * K) ∧ (finL v u K).Nodup := by
  have key : ∀ (a b : Int), 0 ≤ a → a < N → 0 ≤ b → b < K → 0 ≤ a * K + b ∧ a * K + b < (N : Int) * K := fun a b a0 a1 b0 b1 => by
    have hK : (0 : Int) ≤ K := by omega
    have h1 : 0 ≤ a * K := Int.mul_nonneg a0 hK
    have h2 : (a + 1) * K ≤ N * K := Int.mul_le_mul_of_nonneg_right (by omega) hK
    rw [Int.add_mul, Int.one_mul] at h2
    omega
  refine ⟨fun f hf => ?_, ?_⟩
  · obtain ⟨s, hs, hf⟩ := List.mem_flatMap.mp hf
    obtain ⟨t, ht, rfl⟩ := List.mem_map.mp hf
    have a := h.raw.fr s hs
    have b := k.raw.fr t ht
    exact key s t a.1 a.2 b.1 b.2
  · -- ascending, so without doubles
    have asc : (finL v u K).Pairwise fun a b => a < b := by
      unfold finL
      have hu := k.raw.fa
      have hfr := k.raw.fr
      have : ∀ l : List Int, l.Pairwise (fun a b => a < b) → (l.flatMap fun (s : Int) => u.fin.map fun (t : Int) => s * (K : Int) + t).Pairwise fun a b => a < b := by
        intro l
        induction l with
        | nil => intro _; exact .nil
        | cons s l ih =>
          intro hl
          rw [List.flatMap_cons]
          refine List.pairwise_append.mpr ⟨List.pairwise_map.mpr (hu.imp fun q => by omega), ih (List.Pairwise.of_cons hl), fun x hx y hy => ?_⟩
          obtain ⟨t, ht, rfl⟩ := List.mem_map.mp hx
          obtain ⟨s2, hs2, hy⟩ := List.mem_flatMap.mp hy
          obtain ⟨t2, ht2, rfl⟩ := List.mem_map.mp hy
          have a := hfr t ht
          have b := hfr t2 ht2
          have c : s < s2 := List.rel_of_pairwise_cons hl hs2
          have h2 : (s + 1) * K ≤ s2 * K := Int.mul_le_mul_of_nonneg_right (by omega) (by omega)
          rw [Int.add_mul, Int.one_mul] at h2
          omega
      exact this v.fin h.raw.fa
    exact asc.imp fun q e => by omega
theorem svB_both {v u : Sv} {N K : Nat} (h : SvG v N) (k : SvG u K) (hc : cmn v u = false) :
    svB (both v u N K) = (decide ((v.ins ++ u.ins).length ≤ 3) && (decide ((v.outs ++ u.outs).length ≤ 3) && (decide ((N : Int) * K ≤ 12) && decide ((keysR (bes v u N K)).length ≤ 60)))) := by
  have hcm := cmn_no hc
  obtain ⟨f1, f2, f3⟩ := face_msgs _ h.f
  obtain ⟨g1, g2, g3⟩ := face_msgs _ k.f
  obtain ⟨n1, n2⟩ := face_nd _ h.f
  obtain ⟨m1, m2⟩ := face_nd _ k.f
  simp only at f1 f2 f3 g1 g2 g3 n1 n2 m1 m2
  have nd1 : (v.ins ++ u.ins).Nodup := List.nodup_append.mpr ⟨n1, m1, fun a ha b hb e => by subst e; exact (hcm a (.inl ha)).1 hb⟩
  have nd2 : (v.outs ++ u.outs).Nodup := List.nodup_append.mpr ⟨n2, m2, fun a ha b hb e => by subst e; exact (hcm a (.inr ha)).2 hb⟩
  have e1 : msgsB (both v u N K).ins = decide ((v.ins ++ u.ins).length ≤ 3) := msgs_sort f1 g1 nd1
  have e2 : msgsB (both v u N K).outs = decide ((v.outs ++ u.outs).length ≤ 3) := msgs_sort f2 g2 nd2
  have e3 : ((both v u N K).ins.any fun m => decide (m ∈ (both v u N K).outs)) = false := by
    refine List.any_eq_false.mpr fun m hm z => ?_
    have hm : m ∈ v.ins ++ u.ins := sortE_mem.mp hm
    have hz : m ∈ v.outs ++ u.outs := sortE_mem.mp (of_decide_eq_true z)
    rcases List.mem_append.mp hm with a | a <;> rcases List.mem_append.mp hz with b | b
    · exact List.any_eq_false.mp f3 m a (decide_eq_true b)
    · exact (hcm m (.inl a)).2 b
    · exact (hcm m (.inr b)).1 a
    · exact List.any_eq_false.mp g3 m a (decide_eq_true b)
  have hpos : 0 < (N : Int) * K := Int.mul_pos (by have := h.pos; omega) (by have := k.pos; omega)
  obtain ⟨k1, k2, _⟩ := keysR_ok (bes v u N K)
  have hrng := bes_rng h k
  obtain ⟨fr, fn⟩ := finL_ok h k
  have e4 : shapeB (both v u N K).n 12 (both v u N K).rows 60 (both v u N K).fin = (decide ((N : Int) * K ≤ 12) && decide ((keysR (bes v u N K)).length ≤ 60)) := by
    unfold shapeB rowsB finB inB
    have a1 : (both v u N K).n = (N : Int) * K := rfl
    have a2 : ((both v u N K).rows.all (rowB (both v u N K).n)) = true := List.all_eq_true.mpr fun r hr => by
      have hr : r ∈ bes v u N K := (k2 r).mp (sortE_mem.mp hr)
      obtain ⟨⟨b1, b2⟩, ⟨b3, b4⟩, _⟩ := hrng r hr
      unfold rowB inB
      rw [a1]
      simp only [Bool.and_eq_true, decide_eq_true_eq]
      omega
    have a3 : (both v u N K).rows.Nodup := sortE_nodup.mpr k1
    have a4 : (both v u N K).rows.length = (keysR (bes v u N K)).length := sortE_len _
    have a5 : ((both v u N K).fin.all fun i => decide (0 ≤ i) && decide (i ≤ (both v u N K).n - 1)) = true := List.all_eq_true.mpr fun f hf => by
      have := fr f (sortE_mem.mp hf)
      rw [a1]
      simp only [Bool.and_eq_true, decide_eq_true_eq]
      omega
    have a6 : ascI (both v u N K).fin = true := asc_sortI fn
    rw [a2, a5, a6, a4, a1, decide_eq_true a3, decide_eq_true (by omega : (0 : Int) ≤ (N : Int) * K), decide_eq_true (by omega : (1 : Int) ≤ (N : Int) * K)]
    have a7 : decide (((keysR (bes v u N K)).length : Int) ≤ 60) = decide ((keysR (bes v u N K)).length ≤ 60) := decide_eq_decide.mpr (by omega)
    rw [a7]
    simp
  have e5 : ((both v u N K).rows.all fun r => decide (r.2.1 ∈ labS (both v u N K).ins (both v u N K).outs)) = true := List.all_eq_true.mpr fun r hr => by
    have hr : r ∈ bes v u N K := (k2 r).mp (sortE_mem.mp hr)
    obtain ⟨_, _, hl⟩ := hrng r hr
    refine decide_eq_true ?_
    have hi : ∀ m, (m ∈ v.ins ∨ m ∈ u.ins) → m ∈ (both v u N K).ins := fun m hm => sortE_mem.mpr (List.mem_append.mpr hm)
    have ho : ∀ m, (m ∈ v.outs ∨ m ∈ u.outs) → m ∈ (both v u N K).outs := fun m hm => sortE_mem.mpr (List.mem_append.mpr hm)
    rw [← word_lab]
    unfold wordS at hl ⊢
    simp only [List.mem_append, List.mem_map, List.mem_singleton] at hl ⊢
    rcases hl with ((⟨m, hm, e⟩ | ⟨m, hm, e⟩) | e) | ((⟨m, hm, e⟩ | ⟨m, hm, e⟩) | e)
    · exact .inl (.inl ⟨m, hi m (.inl hm), e⟩)
    · exact .inl (.inr ⟨m, ho m (.inl hm), e⟩)
    · exact .inr e
    · exact .inl (.inl ⟨m, hi m (.inr hm), e⟩)
    · exact .inl (.inr ⟨m, ho m (.inr hm), e⟩)
    · exact .inr e
  unfold svB
  rw [e1, e2, e3, e4, e5]
  simp [Bool.and_assoc]
end Lw
set_option Elab.async false
set_option linter.all false
set_option autoImplicit false
set_option maxRecDepth 100000
set_option maxHeartbeats 1000000
namespace Lw
open PySem Ev
/-! ### each once, by place -/
section
variable {α : Type} [DecidableEq α] (d : α)
def ddp (l : List α) : List α := ((List.range l.length).filter fun k => decide (l.getD k d ∉ l.take k)).map fun k => l.getD k d
theorem getD_in {l : List α} {k : Nat} (h : k < l.length) : l.getD k d = l[k] := by simp [List.getD, h]
theorem take_in {l : List α} {k : Nat} {x : α} : x ∈ l.take k ↔ ∃ j, j < k ∧ j < l.length ∧ l.getD j d = x := by
  rw [List.mem_take_iff_getElem]
  constructor
  · rintro ⟨j, hj, e⟩
    have h1 : j < k ∧ j < l.length := by omega
    exact ⟨j, h1.1, h1.2, by rw [getD_in d h1.2]; exact e⟩
  · rintro ⟨j, h1, h2, e⟩
    exact ⟨j, by omega, by rw [getD_in d h2] at e; exact e⟩
theorem ddp_nodup (l : List α) : (ddp d l).Nodup := by
  unfold ddp
  refine List.pairwise_map.mpr ((List.pairwise_lt_range.filter _).imp_of_mem fun {i j} hi hj hlt e => ?_)
  obtain ⟨hi1, hi2⟩ := List.mem_filter.mp hi
  obtain ⟨hj1, hj2⟩ := List.mem_filter.mp hj
  exact of_decide_eq_true hj2 ((take_in d).mpr ⟨i, hlt, List.mem_range.mp hi1, e⟩)
theorem ddp_mem (l : List α) (x : α) : x ∈ ddp d l ↔ x ∈ l := by
  unfold ddp
  constructor
  · intro h
    obtain ⟨k, hk, rfl⟩ := List.mem_map.mp h
    have := List.mem_range.mp (List.mem_filter.mp hk).1
    rw [getD_in d this]
    exact List.getElem_mem this
  · intro h
    have hex : ∃ n, ∃ k, k < n ∧ k < l.length ∧ l.getD k d = x := by
      obtain ⟨k, hk, e⟩ := List.mem_iff_getElem.mp h
      exact ⟨k + 1, k, by omega, hk, by rw [getD_in d hk]; exact e⟩
    -- the first one
    have first : ∀ n, (∃ k, k < n ∧ k < l.length ∧ l.getD k d = x) → ∃ k, k < l.length ∧ l.getD k d = x ∧ ∀ j, j < k → ¬ (j < l.length ∧ l.getD j d = x) := by
      intro n
      induction n with
      | zero => rintro ⟨k, h, _⟩; omega
      | succ n ih =>
        rintro ⟨k, h1, h2, h3⟩
        by_cases q : ∃ k, k < n ∧ k < l.length ∧ l.getD k d = x
        · exact ih q
        · refine ⟨k, h2, h3, fun j hj z => q ⟨j, by omega, z⟩⟩
    obtain ⟨n, hn⟩ := hex
    obtain ⟨k, h1, h2, h3⟩ := first n hn
    refine List.mem_map.mpr ⟨k, List.mem_filter.mpr ⟨List.mem_range.mpr h1, decide_eq_true fun z => ?_⟩, h2⟩
    obtain ⟨j, j1, j2, j3⟩ := (take_in d).mp z
    exact h3 j j1 ⟨j2, by rw [j3, h2]⟩
end
abbrev rw0 : Rw := (0, ("" : Str), 0)
theorem ddR (l : List Rw) : sortE encRow (ddp rw0 l) = sortE encRow (keysR l) ∧ (ddp rw0 l).length = (keysR l).length := by
  obtain ⟨k1, k2, _⟩ := keysR_ok l
  have hm : ∀ a, a ∈ ddp rw0 l ↔ a ∈ keysR l := fun a => by rw [ddp_mem, k2]
  exact ⟨sortR_unique (ddp_nodup rw0 l) k1 hm, ((List.perm_ext_iff_of_nodup (ddp_nodup rw0 l) k1).mpr hm).length_eq⟩
/-! ### the law's own -/
def lbE (v u : Sv) (s2 s3 s4 s5 s6 : Slot) : En := [.sh (encSv v), .sh (encSv u), s2, s3, s4, s5, s6, .unb, .unb, .unb]
def lrE (v u : Sv) (acc : List Rw) (s3 : Slot) : En := lbE v u (.ow (.lst (acc.map encRow))) s3 .unb .unb .unb
theorem lb_step1 (v u : Sv) {K : Nat} (hk : K ≤ 4) (hu : pIxA [encSv u, .int 2] = some (fz (.int (K : Nat)))) (acc : List Rw) (ha : acc.length ≤ 1000) (r : Rw) :
    b0_u_law_both (lrE v u acc (.sh (encRow r))) = .nx (lrE v u (acc ++ besA K r) (.sh (encRow r))) := by
  have c := sComp_map (vs := [9]) (tg := .one 9) (s := sRange [oVal (sPrim pIxA [oName 1, oVal (sC (.int 2))])]) (el := oVal (sTup [oVal (sPrim pAdd [oVal (sPrim pMul [oVal (sPrim pIxA [oName 3, oVal (sC (.int 0))]), oVal (sPrim pIxA [oName 1, oVal (sC (.int 2))])]), oName 9]), oVal (sPrim pIxA [oName 3, oVal (sC (.int 1))]), oVal (sPrim pAdd [oVal (sPrim pMul [oVal (sPrim pIxA [oName 3, oVal (sC (.int 2))]), oVal (sPrim pIxA [oName 1, oVal (sC (.int 2))])]), oName 9])])) (e := lrE v u acc (.sh (encRow r))) (ck := none) (fun t : Nat => D.int (t : Nat)) (List.range K) (fun t : Nat => encRow (r.1 * K + t, r.2.1, r.2.2 * K + t))
    (range_of (e1 := lrE v u acc (.sh (encRow r))) (by
      have := ixV (m := oName 1) (n := oVal (sC (.int 2))) (e := lrE v u acc (.sh (encRow r))) rfl oc rfl rfl hu
      simp only [e_args, e_ops1, e_ops0, this, Out.bind_ok, e_ress1, e_ress0, e_res0]) (by omega)) rfl trivial
    (fun t ht => ⟨_, rfl, oV (tup3 (oV (prim2 (oV (prim2 (ixV rfl oc rfl rfl (r_0 r)) (ixV rfl oc rfl rfl hu) rfl rfl (mulK (by omega)))) rfl rfl rfl pAdd_int)) (ixV rfl oc rfl rfl (r_1 r)) (oV (prim2 (oV (prim2 (ixV rfl oc rfl rfl (r_2 r)) (ixV rfl oc rfl rfl hu) rfl rfl (mulK (by omega)))) rfl rfl rfl pAdd_int)))⟩)
  have e1 : (List.range K).map (fun t : Nat => encRow (r.1 * K + t, r.2.1, r.2.2 * K + t)) = (besA K r).map encRow := by simp [besA, Function.comp_def]
  rw [e1] at c
  unfold b0_u_law_both
  refine extend_ow (oV c) rfl rfl (smallL ?_) ?_
  · have : (besA K r).length = K := by simp [besA]
    rw [List.length_map, List.length_map, this]
    omega
  · simp [lrE, lbE]
theorem lb_go1 (v u : Sv) {K : Nat} (hk : K ≤ 4) (hu : pIxA [encSv u, .int 2] = some (fz (.int (K : Nat)))) : ∀ (l acc : List Rw) (k : Slot), acc.length + l.length * 4 ≤ 1000 →
    ∃ k', forGo (.one 3) b0_u_law_both (l.map encRow) (lrE v u acc k) = .nx (lrE v u (acc ++ l.flatMap (besA K)) k')
  | [], acc, k, _ => ⟨k, by simp [forGo]⟩
  | r :: l, acc, k, hl => by
    simp only [List.length_cons] at hl
    have hb : (besA K r).length = K := by simp [besA]
    obtain ⟨k', ih⟩ := lb_go1 v u hk hu l (acc ++ besA K r) (.sh (encRow r)) (by rw [List.length_append, hb]; omega)
    refine ⟨k', ?_⟩
    have e1 : forGo (.one 3) b0_u_law_both ((r :: l).map encRow) (lrE v u acc k) = (match b0_u_law_both (lrE v u acc (.sh (encRow r))) with
      | .nx e2 => forGo (.one 3) b0_u_law_both (l.map encRow) e2
      | .ct e2 => forGo (.one 3) b0_u_law_both (l.map encRow) e2
      | .bk e2 => .nx e2
      | q => q) := rfl
    rw [e1, lb_step1 v u hk hu acc (by omega) r]
    show forGo (.one 3) b0_u_law_both (l.map encRow) (lrE v u (acc ++ besA K r) _) = _
    rw [ih]
    simp
theorem lb_step2 (v u : Sv) {N K : Nat} (hk : N ≤ 4) (hK : K ≤ 4) (hu : pIxA [encSv u, .int 2] = some (fz (.int (K : Nat)))) (hv : pIxA [encSv v, .int 2] = some (fz (.int (N : Nat)))) (acc : List Rw) (ha : acc.length ≤ 1000) (r : Rw) :
    b1_u_law_both (lrE v u acc (.sh (encRow r))) = .nx (lbE v u (.ow (.lst ((acc ++ besB N K r).map encRow))) (.sh (encRow r)) .unb .unb .unb) := by
  have c := sComp_map (vs := [5]) (tg := .one 5) (s := sRange [oVal (sPrim pIxA [oName 0, oVal (sC (.int 2))])]) (el := oVal (sTup [oVal (sPrim pAdd [oVal (sPrim pMul [oName 5, oVal (sPrim pIxA [oName 1, oVal (sC (.int 2))])]), oVal (sPrim pIxA [oName 3, oVal (sC (.int 0))])]), oVal (sPrim pIxA [oName 3, oVal (sC (.int 1))]), oVal (sPrim pAdd [oVal (sPrim pMul [oName 5, oVal (sPrim pIxA [oName 1, oVal (sC (.int 2))])]), oVal (sPrim pIxA [oName 3, oVal (sC (.int 2))])])])) (e := lrE v u acc (.sh (encRow r))) (ck := none) (fun t : Nat => D.int (t : Nat)) (List.range N) (fun s : Nat => encRow ((s : Int) * K + r.1, r.2.1, (s : Int) * K + r.2.2))
    (range_of (e1 := lrE v u acc (.sh (encRow r))) (by
      have := ixV (m := oName 0) (n := oVal (sC (.int 2))) (e := lrE v u acc (.sh (encRow r))) rfl oc rfl rfl hv
      simp only [e_args, e_ops1, e_ops0, this, Out.bind_ok, e_ress1, e_ress0, e_res0]) (by omega)) rfl trivial
    (fun t ht => ⟨_, rfl, oV (tup3 (oV (prim2 (oV (prim2 rfl (ixV rfl oc rfl rfl hu) rfl rfl (mulK (by omega)))) (ixV rfl oc rfl rfl (r_0 r)) rfl rfl pAdd_int)) (ixV rfl oc rfl rfl (r_1 r)) (oV (prim2 (oV (prim2 rfl (ixV rfl oc rfl rfl hu) rfl rfl (mulK (by omega)))) (ixV rfl oc rfl rfl (r_2 r)) rfl rfl pAdd_int)))⟩)
  have e1 : (List.range N).map (fun s : Nat => encRow ((s : Int) * K + r.1, r.2.1, (s : Int) * K + r.2.2)) = (besB N K r).map encRow := by simp [besB, Function.comp_def]
  rw [e1] at c
  unfold b1_u_law_both
  refine extend_ow (oV c) rfl rfl (smallL ?_) ?_
  · have : (besB N K r).length = N := by simp [besB]
    rw [List.length_map, List.length_map, this]
    omega
  · simp [lrE, lbE]
theorem lb_go2 (v u : Sv) {N K : Nat} (hk : N ≤ 4) (hK : K ≤ 4) (hu : pIxA [encSv u, .int 2] = some (fz (.int (K : Nat)))) (hv : pIxA [encSv v, .int 2] = some (fz (.int (N : Nat)))) : ∀ (l acc : List Rw) (k : Slot), acc.length + l.length * 4 ≤ 1000 →
    ∃ k', forGo (.one 3) b1_u_law_both (l.map encRow) (lrE v u acc k) = .nx (lrE v u (acc ++ l.flatMap (besB N K)) k')
  | [], acc, k, _ => ⟨k, by simp [forGo]⟩
  | r :: l, acc, k, hl => by
    simp only [List.length_cons] at hl
    have hb : (besB N K r).length = N := by simp [besB]
    obtain ⟨k', ih⟩ := lb_go2 v u hk hK hu hv l (acc ++ besB N K r) (.sh (encRow r)) (by rw [List.length_append, hb]; omega)
    refine ⟨k', ?_⟩
    have e1 : forGo (.one 3) b1_u_law_both ((r :: l).map encRow) (lrE v u acc k) = (match b1_u_law_both (lrE v u acc (.sh (encRow r))) with
      | .nx e2 => forGo (.one 3) b1_u_law_both (l.map encRow) e2
      | .ct e2 => forGo (.one 3) b1_u_law_both (l.map encRow) e2
      | .bk e2 => .nx e2
      | q => q) := rfl
    rw [e1, lb_step2 v u hk hK hu hv acc (by omega) r]
    show forGo (.one 3) b1_u_law_both (l.map encRow) (lrE v u (acc ++ besB N K r) _) = _
    rw [ih]
    simp
end Lw
set_option Elab.async false
set_option linter.all false
set_option autoImplicit false
set_option maxRecDepth 100000
set_option maxHeartbeats 1000000
namespace Lw
open PySem Ev
theorem take_slice (ds : List D) (k : Nat) (h : k ≤ ds.length) : pSlice none (some (k : Int)) (.lst ds) = some (nw (.lst (ds.take k))) := by
  show some (nw (.lst ((ds.drop (HT.sIx ds.length 0 none)).take (HT.sIx ds.length ds.length (some (k : Int)) - HT.sIx ds.length 0 none)))) = _
  have h1 : HT.sIx ds.length 0 none = 0 := rfl
  have h2 : HT.sIx ds.length ds.length (some (k : Int)) = min k ds.length := HT.sIx_nat _ _ k
  rw [h1, h2, Nat.min_eq_left h]
  rfl
theorem dd_comp (v u : Sv) (l : List Rw) (hl : l.length ≤ 1000) (s3 : Slot) : sComp [7] (.one 7) (sRange [oVal (sPrim pLenA [oName 2])]) (tBool (sPrim pNotInA [oVal (sPrim pIxA [oName 2, oName 7]), oVal (sSlice (oName 2) none (some (oName 7)))])) (oVal (sPrim pIxA [oName 2, oName 7])) (lrE v u l s3) = .ok (nw (.lst ((ddp rw0 l).map encRow))) (lrE v u l s3) := by
  have hlen : pLenA [.lst (l.map encRow)] = some (fz (.int (l.length : Nat))) := by rw [pLenA_lst, List.length_map]
  have c := sComp_pure (vs := [7]) (tg := .one 7) (s := sRange [oVal (sPrim pLenA [oName 2])]) (t := tBool (sPrim pNotInA [oVal (sPrim pIxA [oName 2, oName 7]), oVal (sSlice (oName 2) none (some (oName 7)))])) (el := oVal (sPrim pIxA [oName 2, oName 7])) (e := lrE v u l s3) (ck := none) (fun k : Nat => D.int (k : Nat)) (List.range l.length) (fun k => decide (l.getD k rw0 ∉ l.take k)) (fun k => encRow (l.getD k rw0))
    (range_of (e1 := lrE v u l s3) (by
      have := oV (m := sPrim pLenA [oName 2]) (e := lrE v u l s3) (prim1 rfl rfl hlen)
      simp only [e_args, e_ops1, e_ops0, this, Out.bind_ok, e_ress1, e_ress0, e_res0]) (by omega)) rfl trivial
    (fun k hk => by
      have hk := List.mem_range.mp hk
      have hix : pIxA [.lst (l.map encRow), .int (k : Nat)] = some (fz (encRow (l.getD k rw0))) := by
        refine ixL ?_
        rw [atI_map, atI_nat (n := k) rfl hk, getD_in rw0 hk]; rfl
      have hsl : sSlice (oName 2) none (some (oName 7)) (lbE v u (.ow (.lst (l.map encRow))) s3 .unb .unb .unb |>.set 7 (.sh (.int (k : Nat)))) = .ok (nw (.lst ((l.take k).map encRow))) (lbE v u (.ow (.lst (l.map encRow))) s3 .unb .unb .unb |>.set 7 (.sh (.int (k : Nat)))) := by
        have := take_slice (l.map encRow) k (by rw [List.length_map]; omega)
        rw [← List.map_take] at this
        simp [e_slice, e_oPart0, e_oPart1, lbE, this]
      refine ⟨lbE v u (.ow (.lst (l.map encRow))) s3 .unb .unb .unb |>.set 7 (.sh (.int (k : Nat))), rfl, tBool_of (prim2 (oV (prim2 rfl rfl rfl rfl hix)) (oV hsl) rfl rfl ?_), fun _ => oV (prim2 rfl rfl rfl rfl hix)⟩
      exact nin_R (l.take k) (l.getD k rw0))
  have e1 : ((List.range l.length).filter fun k => decide (l.getD k rw0 ∉ l.take k)).map (fun k => encRow (l.getD k rw0)) = (ddp rw0 l).map encRow := by simp [ddp, Function.comp_def]
  rw [e1] at c
  exact c
def lfE (v u : Sv) (rows : List Rw) (s3 : Slot) (acc : List Int) (s5 : Slot) : En := lbE v u (.ow (.lst (rows.map encRow))) s3 (.ow (.lst (encI acc))) s5 .unb
theorem lf_step (v u : Sv) {K : Nat} (hK : K ≤ 4) (hu : pIxA [encSv u, .int 2] = some (fz (.int (K : Nat)))) (hf : u.fin.length ≤ 4) (rows : List Rw) (s3 : Slot) (acc : List Int) (ha : acc.length ≤ 1000) (s : Int) :
    b2_u_law_both (lfE v u rows s3 acc (.sh (.int s))) = .nx (lfE v u rows s3 (acc ++ u.fin.map fun t => s * K + t) (.sh (.int s))) := by
  have c := sComp_map (vs := [9]) (tg := .one 9) (s := sSeq (oVal (sPrim pIxA [oName 1, oVal (sC (.int 4))]))) (el := oVal (sPrim pAdd [oVal (sPrim pMul [oName 5, oVal (sPrim pIxA [oName 1, oVal (sC (.int 2))])]), oName 9])) (e := lfE v u rows s3 acc (.sh (.int s))) (ck := none) D.int u.fin (fun t => .int (s * K + t))
    (seq_of (ixV rfl oc rfl rfl (v_4 u))) rfl trivial
    (fun t ht => ⟨_, rfl, oV (prim2 (oV (prim2 rfl (ixV rfl oc rfl rfl hu) rfl rfl (mulK (by omega)))) rfl rfl rfl pAdd_int)⟩)
  have e1 : u.fin.map (fun t => D.int (s * K + t)) = encI (u.fin.map fun t => s * K + t) := by simp [encI, Function.comp_def]
  rw [e1] at c
  unfold b2_u_law_both
  refine extend_ow (oV c) rfl rfl (smallL ?_) ?_
  · simp
    omega
  · simp [lfE, lbE, encI]
theorem lf_go (v u : Sv) {K : Nat} (hK : K ≤ 4) (hu : pIxA [encSv u, .int 2] = some (fz (.int (K : Nat)))) (hf : u.fin.length ≤ 4) (rows : List Rw) (s3 : Slot) : ∀ (l acc : List Int) (k : Slot), acc.length + l.length * 4 ≤ 1000 →
    ∃ k', forGo (.one 5) b2_u_law_both (encI l) (lfE v u rows s3 acc k) = .nx (lfE v u rows s3 (acc ++ l.flatMap fun (s : Int) => u.fin.map fun (t : Int) => s * (K : Int) + t) k')
  | [], acc, k, _ => ⟨k, by simp [forGo, encI]⟩
  | s :: l, acc, k, hl => by
    simp only [List.length_cons] at hl
    obtain ⟨k', ih⟩ := lf_go v u hK hu hf rows s3 l (acc ++ u.fin.map fun t => s * K + t) (.sh (.int s)) (by rw [List.length_append, List.length_map]; omega)
    refine ⟨k', ?_⟩
    have e1 : forGo (.one 5) b2_u_law_both (encI (s :: l)) (lfE v u rows s3 acc k) = (match b2_u_law_both (lfE v u rows s3 acc (.sh (.int s))) with
      | .nx e2 => forGo (.one 5) b2_u_law_both (encI l) e2
      | .ct e2 => forGo (.one 5) b2_u_law_both (encI l) e2
      | .bk e2 => .nx e2
      | q => q) := rfl
    rw [e1, lf_step v u hK hu hf rows s3 acc (by omega) s]
    show forGo (.one 5) b2_u_law_both (encI l) (lfE v u rows s3 (acc ++ u.fin.map fun t => s * K + t) _) = _
    rw [ih]
    simp
theorem lb_common {v u : Sv} {N K : Nat} (h : SvG v N) (k : SvG u K) : tBool (sPrim pGt [oVal (sPrim pLenA [oVal (sComp [8] (.one 8) (sSeq (oVal (sPrim pAdd [oVal (sPrim pIxA [oName 0, oVal (sC (.int 0))]), oVal (sPrim pIxA [oName 0, oVal (sC (.int 1))])]))) (tBool (sPrim pInA [oName 8, oVal (sPrim pAdd [oVal (sPrim pIxA [oName 1, oVal (sC (.int 0))]), oVal (sPrim pIxA [oName 1, oVal (sC (.int 1))])])])) (oVal (sName 8)))]), oVal (sC (.int 0))]) (lbE v u .unb .unb .unb .unb .unb) = .ok (cmn v u) (lbE v u .unb .unb .unb .unb .unb) := by
  have l1 := face_len _ h.f
  have l2 := face_len _ k.f
  simp only at l1 l2
  have a1 : pAdd [.lst (encS v.ins), .lst (encS v.outs)] = some (nw (.lst (encS (v.ins ++ v.outs)))) := by rw [pAdd_lst (smallL (by simp; omega))]; simp
  have a2 : pAdd [.lst (encS u.ins), .lst (encS u.outs)] = some (nw (.lst (encS (u.ins ++ u.outs)))) := by rw [pAdd_lst (smallL (by simp; omega))]; simp
  have c := sComp_pure (vs := [8]) (tg := .one 8) (s := sSeq (oVal (sPrim pAdd [oVal (sPrim pIxA [oName 0, oVal (sC (.int 0))]), oVal (sPrim pIxA [oName 0, oVal (sC (.int 1))])]))) (t := tBool (sPrim pInA [oName 8, oVal (sPrim pAdd [oVal (sPrim pIxA [oName 1, oVal (sC (.int 0))]), oVal (sPrim pIxA [oName 1, oVal (sC (.int 1))])])])) (el := oVal (sName 8)) (e := lbE v u .unb .unb .unb .unb .unb) (ck := none) D.str (v.ins ++ v.outs) (fun m => decide (m ∈ u.ins ++ u.outs)) D.str
    (seq_of (oV (prim2 (ixV rfl oc rfl rfl (v_0 v)) (ixV rfl oc rfl rfl (v_1 v)) rfl rfl a1))) rfl trivial
    (fun m hm => ⟨_, rfl, tBool_of (prim2 rfl (oV (prim2 (ixV rfl oc rfl rfl (v_0 u)) (ixV rfl oc rfl rfl (v_1 u)) rfl rfl a2)) rfl rfl (by simp [pInA_lst])), fun _ => name_sh rfl⟩)
  refine tBool_of (prim2 (oV (prim1 (oV c) rfl pLenA_lst)) oc rfl rfl ?_)
  have e1 : pGt [.int ((((v.ins ++ v.outs).filter fun m => decide (m ∈ u.ins ++ u.outs)).map D.str).length : Nat), .int 0] = some (fz (.bl (decide ((0 : Int) < ((((v.ins ++ v.outs).filter fun m => decide (m ∈ u.ins ++ u.outs)).map D.str).length : Nat))))) := pGt_int
  rw [e1]
  have e2 : decide ((0 : Int) < ((((v.ins ++ v.outs).filter fun m => decide (m ∈ u.ins ++ u.outs)).map D.str).length : Nat)) = cmn v u := by
    rw [List.length_map]
    unfold cmn
    rw [Bool.eq_iff_iff, decide_eq_true_eq, List.any_eq_true]
    constructor
    · intro z
      obtain ⟨m, hm⟩ := List.exists_mem_of_length_pos (by omega : 0 < ((v.ins ++ v.outs).filter fun m => decide (m ∈ u.ins ++ u.outs)).length)
      exact ⟨m, (List.mem_filter.mp hm).1, (List.mem_filter.mp hm).2⟩
    · rintro ⟨m, h1, h2⟩
      have := List.length_pos_of_mem (List.mem_filter (p := fun m => decide (m ∈ u.ins ++ u.outs)).mpr ⟨h1, h2⟩)
      omega
  rw [e2]
end Lw
set_option Elab.async false
set_option linter.all false
set_option autoImplicit false
set_option maxRecDepth 100000
set_option maxHeartbeats 1000000
namespace Lw
open PySem Ev
theorem retName_ow {i : Nat} {d : D} {e : En} (h : e[i]? = some (.ow d)) : Rt (sRetName i) e (nw d) := ⟨e.set i .unb, by unfold sRetName; rw [h]⟩
theorem ddp_len (l : List Rw) : (ddp rw0 l).length ≤ l.length := by
  unfold ddp
  rw [List.length_map]
  have := List.length_filter_le (fun k => decide (l.getD k rw0 ∉ l.take k)) (List.range l.length)
  simpa using this
theorem law_both_common {v u : Sv} {N K : Nat} (h : SvG v N) (k : SvG u K) (hc : cmn v u = true) : F_u_law_both [encSv v, encSv u] = .ok (fz (.str "common messages")) := by
  have hg := lb_common h k
  rw [hc] at hg
  refine runF_of (show Rt t_u_law_both (lbE v u .unb .unb .unb .unb .unb) _ from ?_)
  unfold t_u_law_both
  exact Rt.gt hg Rt.c
theorem law_both_go {v u : Sv} {N K : Nat} (h : SvG v N) (k : SvG u K) (hc : cmn v u = false) : F_u_law_both [encSv v, encSv u] = .ok (if svB (both v u N K) = true then nw (encSv (both v u N K)) else fz (.str "no service")) := by
  have hg := lb_common h k
  rw [hc] at hg
  have hs := svB_both h k hc
  have l1 := face_len _ h.f
  have l2 := face_len _ k.f
  simp only at l1 l2
  have hu : pIxA [encSv u, .int 2] = some (fz (.int (K : Nat))) := by rw [v_2, k.n]
  have hv : pIxA [encSv v, .int 2] = some (fz (.int (N : Nat))) := by rw [v_2, h.n]
  have h1 := h.len
  have k1 := k.len
  have hbl := bes_len h k
  have hbl2 := hbl
  unfold bes at hbl2
  rw [List.length_append] at hbl2
  have ff := h.raw.fin_len
  have kf := k.raw.fin_len
  have hle := h.le
  have kle := k.le
  obtain ⟨s3, g1⟩ := lb_go1 v u k.le hu v.rows [] .unb (by simp; omega)
  obtain ⟨s3', g2⟩ := lb_go2 v u h.le k.le hu hv u.rows ([] ++ v.rows.flatMap (besA K)) s3 (by rw [List.nil_append]; omega)
  have eb : ([] ++ v.rows.flatMap (besA K)) ++ u.rows.flatMap (besB N K) = bes v u N K := rfl
  rw [eb] at g2
  have q1 := sFor_of (tg := .one 3) (b := b0_u_law_both) (seq_of (ixV (e := lrE v u [] .unb) (m := oName 0) (n := oVal (sC (.int 3))) rfl oc rfl rfl (v_3 v))) rfl
  have q2 := sFor_of (tg := .one 3) (b := b1_u_law_both) (seq_of (ixV (e := lrE v u ([] ++ v.rows.flatMap (besA K)) s3) (m := oName 1) (n := oVal (sC (.int 3))) rfl oc rfl rfl (v_3 u))) rfl
  rw [show (⟨v.rows.map encRow, none⟩ : Src).items = v.rows.map encRow from rfl, g1] at q1
  rw [show (⟨u.rows.map encRow, none⟩ : Src).items = u.rows.map encRow from rfl, g2] at q2
  have dc := dd_comp v u (bes v u N K) (by omega) s3'
  obtain ⟨d1, d2⟩ := ddR (bes v u N K)
  have d3 := ddp_len (bes v u N K)
  obtain ⟨s5, g3⟩ := lf_go v u k.le hu (by omega) (ddp rw0 (bes v u N K)) s3' v.fin [] .unb (by simp; omega)
  have ef : ([] : List Int) ++ (v.fin.flatMap fun (s : Int) => u.fin.map fun (t : Int) => s * (K : Int) + t) = finL v u K := rfl
  rw [ef] at g3
  have q3 := sFor_of (tg := .one 5) (b := b2_u_law_both) (seq_of (ixV (e := lfE v u (ddp rw0 (bes v u N K)) s3' [] .unb) (m := oName 0) (n := oVal (sC (.int 4))) rfl oc rfl rfl (v_4 v))) rfl
  rw [show (⟨encI v.fin, none⟩ : Src).items = encI v.fin from rfl, g3] at q3
  have a1 : pAdd [.lst (encS v.ins), .lst (encS u.ins)] = some (nw (.lst (encS (v.ins ++ u.ins)))) := by rw [pAdd_lst (smallL (by simp; omega))]; simp
  have a2 : pAdd [.lst (encS v.outs), .lst (encS u.outs)] = some (nw (.lst (encS (v.outs ++ u.outs)))) := by rw [pAdd_lst (smallL (by simp; omega))]; simp
  have s1 : pSortedA [.lst (encS (v.ins ++ u.ins))] = some (nw (.lst (encS (both v u N K).ins))) := sorted_enc (sortOk_str _)
  have s2 : pSortedA [.lst (encS (v.outs ++ u.outs))] = some (nw (.lst (encS (both v u N K).outs))) := sorted_enc (sortOk_str _)
  have so : pSortedA [.lst ((ddp rw0 (bes v u N K)).map encRow)] = some (nw (.lst ((both v u N K).rows.map encRow))) := by
    have : (both v u N K).rows = sortE encRow (ddp rw0 (bes v u N K)) := d1.symm
    rw [this]; exact sorted_enc (sortOk_rows _)
  have s4 : pSortedA [.lst ((finL v u K).map D.int)] = some (nw (.lst (encI (both v u N K).fin))) := sorted_enc (sortOk_int _)
  have hm : pMul [.int (N : Nat), .int (K : Nat)] = some (fz (.int (both v u N K).n)) := mulK (by omega)
  have b1 : ((both v u N K).ins).length = (v.ins ++ u.ins).length := sortE_len _
  have b2 : ((both v u N K).outs).length = (v.outs ++ u.outs).length := sortE_len _
  have b3 : (both v u N K).n = (N : Int) * K := rfl
  generalize both v u N K = B at *
  generalize ddp rw0 (bes v u N K) = R at *
  let E6 : Slot → En := fun s6 => lbE v u (.ow (.lst (R.map encRow))) s3' (.ow (.lst (encI (finL v u K)))) s5 s6
  have c1 : tBool (sPrim pGt [oVal (sPrim pLenA [oVal (sPrim pIxA [oName 6, oVal (sC (.int 0))])]), oVal (sC (.int 3))]) (E6 (.ow (encSv B))) = .ok (decide ((3 : Int) < ((encS B.ins).length : Nat))) (E6 (.ow (encSv B))) := tBool_of (prim2 (oV (prim1 (ixV rfl oc rfl rfl (v_0 B)) rfl pLenA_lst)) oc rfl rfl pGt_int)
  have c2 : tBool (sPrim pGt [oVal (sPrim pLenA [oVal (sPrim pIxA [oName 6, oVal (sC (.int 1))])]), oVal (sC (.int 3))]) (E6 (.ow (encSv B))) = .ok (decide ((3 : Int) < ((encS B.outs).length : Nat))) (E6 (.ow (encSv B))) := tBool_of (prim2 (oV (prim1 (ixV rfl oc rfl rfl (v_1 B)) rfl pLenA_lst)) oc rfl rfl pGt_int)
  have c3 : tBool (sPrim pGt [oVal (sPrim pIxA [oName 6, oVal (sC (.int 2))]), oVal (sC (.int 12))]) (E6 (.ow (encSv B))) = .ok (decide ((12 : Int) < B.n)) (E6 (.ow (encSv B))) := tBool_of (prim2 (ixV rfl oc rfl rfl (v_2 B)) oc rfl rfl pGt_int)
  have c4 : tBool (sPrim pGt [oVal (sPrim pLenA [oName 2]), oVal (sC (.int 60))]) (E6 (.ow (encSv B))) = .ok (decide ((60 : Int) < ((R.map encRow).length : Nat))) (E6 (.ow (encSv B))) := tBool_of (prim2 (oV (prim1 rfl rfl pLenA_lst)) oc rfl rfl pGt_int)
  have cc := tOr_b c1 fun _ => tOr_b c2 fun _ => tOr_b c3 fun _ => c4
  have hb : (decide ((3 : Int) < ((encS B.ins).length : Nat)) || (decide ((3 : Int) < ((encS B.outs).length : Nat)) || (decide ((12 : Int) < B.n) || decide ((60 : Int) < ((R.map encRow).length : Nat))))) = !svB B := by
    rw [hs, List.length_map, List.length_map, List.length_map, b1, b2, b3, d2]
    generalize (v.ins ++ u.ins).length = x1
    generalize (v.outs ++ u.outs).length = x2
    generalize (N : Int) * K = x3
    generalize (keysR (bes v u N K)).length = x4
    rw [Bool.eq_iff_iff]
    simp only [Bool.or_eq_true, Bool.not_eq_true', Bool.and_eq_false_iff, decide_eq_true_eq, decide_eq_false_iff_not]
    omega
  rw [hb] at cc
  refine runF_of (show Rt t_u_law_both (lbE v u .unb .unb .unb .unb .unb) _ from ?_)
  unfold t_u_law_both
  refine Rt.gf hg (Rt.then (asg_nx (e2 := lrE v u [] .unb) lst0) (Rt.then q1 (Rt.then q2 (Rt.then (asg_nx (e2 := lrE v u R s3') dc) (Rt.then (asg_nx (e2 := lfE v u R s3' [] .unb) lst0) (Rt.then q3 ?_))))))
  refine Rt.then (asg_nx (e2 := E6 (.ow (encSv B))) (lst5 (oV (prim1 (oV (prim2 (ixV rfl oc rfl rfl (v_0 v)) (ixV rfl oc rfl rfl (v_0 u)) rfl rfl a1)) rfl s1)) (oV (prim1 (oV (prim2 (ixV rfl oc rfl rfl (v_1 v)) (ixV rfl oc rfl rfl (v_1 u)) rfl rfl a2)) rfl s2)) (oV (prim2 (ixV rfl oc rfl rfl hv) (ixV rfl oc rfl rfl hu) rfl rfl hm)) (oV (prim1 rfl rfl so)) (oV (prim1 rfl rfl s4)))) ?_
  cases q : svB B with
  | true =>
    rw [q, Bool.not_true] at cc
    rw [if_pos rfl]
    have fin : Rt (sRetName 6) (E6 (.ow (encSv B))) (nw (encSv B)) := retName_ow rfl
    exact Rt.gf cc fin
  | false =>
    rw [q, Bool.not_false] at cc
    rw [if_neg Bool.false_ne_true]
    exact Rt.gt cc Rt.c
theorem told_common {v u : Sv} {N K : Nat} (h : SvG v N) (k : SvG u K) (hc : cmn v u = true) : F_u_law_told [encSv v, encSv u] = .ok (fz (.str "common messages")) := by
  refine runF_of (show Rt t_u_law_told [.sh (encSv v), .sh (encSv u), .unb, .unb] _ from ?_)
  unfold t_u_law_told
  exact Rt.stop (Rt.reason (asg_exc (call2_exc (oV (call1 (name_sh rfl) (made_ok h))) (oV (call1 (name_sh rfl) (made_ok k))) (together_no h k hc))) rfl)
theorem told_go {v u : Sv} {N K : Nat} (h : SvG v N) (k : SvG u K) (hc : cmn v u = false) : F_u_law_told [encSv v, encSv u] = .ok (if svB (both v u N K) = true then nw (encSv (both v u N K)) else fz (.str "no service")) := by
  obtain ⟨t1, t2⟩ := together_go h k hc
  refine runF_of (show Rt t_u_law_told [.sh (encSv v), .sh (encSv u), .unb, .unb] _ from ?_)
  unfold t_u_law_told
  cases q : svB (both v u N K) with
  | true =>
    have hs := service_ok (both v u N K) q
    have e : sortE encRow (both v u N K).rows = (both v u N K).rows := sortE_self _
    rw [e] at hs
    have ht := t1 _ hs
    rw [if_pos rfl]
    refine Rt.then (try_nx (asg_nx (e2 := [.sh (encSv v), .sh (encSv u), .unb, .ow (obSv (both v u N K))]) (call2 (oV (call1 (name_sh rfl) (made_ok h))) (oV (call1 (name_sh rfl) (made_ok k))) ht))) (Rt.ret (Vo.of (e1 := [.sh (encSv v), .sh (encSv u), .unb, .ow (obSv (both v u N K))]) ?_))
    exact lst5 (oV (prim1 rfl rfl (f_sins _))) (oV (prim1 rfl rfl (f_souts _))) (oV (prim1 rfl rfl (f_sn _))) (oV (prim1 rfl rfl (f_srows _))) (oV (prim1 rfl rfl (f_sfin _)))
  | false =>
    have hl : (both v u N K).rows.length ≤ 5000 := by
      have e : (both v u N K).rows.length = (keysR (bes v u N K)).length := sortE_len _
      have := (ddR (bes v u N K)).2
      have := ddp_len (bes v u N K)
      have := bes_len h k
      omega
    have ht := t2 _ (service_no (both v u N K) q hl)
    rw [if_neg Bool.false_ne_true]
    exact Rt.stop (Rt.reason (asg_exc (call2_exc (oV (call1 (name_sh rfl) (made_ok h))) (oV (call1 (name_sh rfl) (made_ok k))) ht)) rfl)
theorem pl_sv (v : Sv) : plainN 8 (encSv v) = true := by simp [encSv, encI, encRow]
theorem both_same {v u : Sv} {N K : Nat} (h : SvG v N) (k : SvG u K) : ∃ d w, F_u_law_told [encSv v, encSv u] = .ok ⟨d, w⟩ ∧ (∃ w', F_u_law_both [encSv v, encSv u] = .ok ⟨d, w'⟩) ∧ plainN 8 d = true := by
  cases hc : cmn v u with
  | true => exact ⟨_, _, told_common h k hc, ⟨_, law_both_common h k hc⟩, by simp⟩
  | false =>
    refine ⟨_, _, told_go h k hc, ⟨_, law_both_go h k hc⟩, ?_⟩
    cases svB (both v u N K) with
    | true => exact pl_sv _
    | false => rfl
end Lw
set_option Elab.async false
set_option linter.all false
set_option autoImplicit false
set_option maxRecDepth 100000
set_option maxHeartbeats 1000000
namespace Lw
open PySem Ev
theorem ne_same {d : D} (h : plainN 8 d = true) : pNe [d, d] = some (fz (.bl false)) := by
  rw [pNe_pl _ _ h h]
  simp
theorem svg_drawn (row : List Int) (ins outs : List Str) (hf : (ins, outs) ∈ faces) (a : Int) (ha : 0 ≤ a) : ∃ v N b, v.ins = ins ∧ v.outs = outs ∧ SvG v N ∧ 0 ≤ b ∧ F_u_law_service (boxD row a) [faceD ins outs, .int 4] = .ok (nw (encSv v)) (boxD row b) := by
  obtain ⟨f1, f2, f3⟩ := face_msgs _ hf
  obtain ⟨i1, i2⟩ := msgsB_len f1
  obtain ⟨o1, o2⟩ := msgsB_len f2
  obtain ⟨N, rows, fin, b, hb, hF, n1, n2, hr, hl⟩ := drawn_service_ok row ins outs 4 ⟨by decide, by decide⟩ (fun x hx => by have := i2 x hx; omega) (fun x hx => by have := o2 x hx; omega) (by simp only at i1; omega) (by simp only at o1; omega) a ha
  exact ⟨⟨ins, outs, N, sortE encRow rows, fin⟩, N, b, rfl, rfl, ⟨hf, rfl, n1, by omega, hr.sort, sortE_self _, by show (sortE encRow rows).length ≤ 12; rw [sortE_len]; omega⟩, hb, hF⟩
def oth : List (List Str × List Str) := [([("x" : Str)], [("y" : Str)]), ([("x" : Str), "y"], []), ([("e" : Str)], [("c" : Str)]), ([("g" : Str), "h"], [("e" : Str)])]
theorem oth_faces : ∀ f ∈ oth, f ∈ faces := by decide +kernel
def q02 (ns row : List Int) (s2 s3 s4 s5 s6 : Slot) (a : Int) : En := [.sh (.scr ns), .ow (boxD row a), s2, s3, s4, s5, s6, .unb]
theorem q02_step (ns row : List Int) (t : Int) (s3 s4 s5 s6 : Slot) (a : Int) (ha : 0 ≤ a) : ∃ s3' s4' s5' s6' b, 0 ≤ b ∧ b0_law (q02 ns row (.sh (.int t)) s3 s4 s5 s6 a) = .nx (q02 ns row (.sh (.int t)) s3' s4' s5' s6' b) := by
  obtain ⟨ins, outs, a1, hi, ho, ha1, hface⟩ := face_is row a ha
  obtain ⟨v, N, a2, v1, v2, V, ha2, hv⟩ := svg_drawn row ins outs (face_mem hi ho) a1 ha1
  obtain ⟨d, d1, d2, hd⟩ := draw_ok row a2 4 ha2 (by decide)
  obtain ⟨x, hx, kx⟩ := ix_pick (ds := oth.map fun f => faceD f.1 f.2) (d := d) ⟨d1, by simp [oth]; omega⟩
  obtain ⟨f, hf, rfl⟩ := List.mem_map.mp hx
  obtain ⟨u, K, a3, u1, u2, U, ha3, hu⟩ := svg_drawn row f.1 f.2 (oth_faces f hf) (a2 + 1) (by omega)
  have VP := V.filter fun r => decide (r.2.1 ≠ ("tau" : Str))
  generalize hp : ({ v with rows := v.rows.filter fun r => decide (r.2.1 ≠ ("tau" : Str)) } : Sv) = p at VP
  obtain ⟨e1, w1, k1, ⟨w1', k1'⟩, p1⟩ := dual_same V
  obtain ⟨e2, w2, k2, ⟨w2', k2'⟩, p2⟩ := dual_same VP
  obtain ⟨e3, w3, k3, ⟨w3', k3'⟩, p3⟩ := both_same V U
  obtain ⟨e4, w4, k4, ⟨w4', k4'⟩, p4⟩ := both_same U V
  refine ⟨.sh (encSv v), .sh (encSv p), .sh (faceD f.1 f.2), .sh (encSv u), a3, ha3, ?_⟩
  let E : Slot → Slot → Slot → Slot → Int → En := fun s3 s4 s5 s6 a => q02 ns row (.sh (.int t)) s3 s4 s5 s6 a
  have c := sComp_pure (vs := [7]) (tg := .one 7) (s := sSeq (oVal (sPrim pIxA [oName 3, oVal (sC (.int 3))]))) (t := tBool (sPrim pNe [oVal (sPrim pIxA [oName 7, oVal (sC (.int 1))]), oVal (sC (.str "tau"))])) (el := oVal (sName 7)) (e := E (.ow (encSv v)) s4 s5 s6 a2) (ck := none) encRow v.rows (fun r => decide (r.2.1 ≠ ("tau" : Str))) encRow
    (seq_of (ixV rfl oc rfl rfl (v_3 v))) rfl trivial (fun r hr => ⟨_, rfl, tBool_of (prim2 (ixV rfl oc rfl rfl (r_1 r)) oc rfl rfl pNe_str), fun _ => name_sh rfl⟩)
  have hpe : sLst [oVal (sPrim pIxA [oName 3, oVal (sC (.int 0))]), oVal (sPrim pIxA [oName 3, oVal (sC (.int 1))]), oVal (sPrim pIxA [oName 3, oVal (sC (.int 2))]), oVal (sComp [7] (.one 7) (sSeq (oVal (sPrim pIxA [oName 3, oVal (sC (.int 3))]))) (tBool (sPrim pNe [oVal (sPrim pIxA [oName 7, oVal (sC (.int 1))]), oVal (sC (.str "tau"))])) (oVal (sName 7))), oVal (sPrim pIxA [oName 3, oVal (sC (.int 4))])] (E (.ow (encSv v)) s4 s5 s6 a2) = .ok (nw (encSv p)) (E (.ow (encSv v)) s4 s5 s6 a2) := by
    subst hp
    exact lst5 (ixV rfl oc rfl rfl (v_0 v)) (ixV rfl oc rfl rfl (v_1 v)) (ixV rfl oc rfl rfl (v_2 v)) (oV c) (ixV rfl oc rfl rfl (v_4 v))
  unfold b0_law
  refine then_step (asg_nx (e2 := E (.ow (encSv v)) s4 s5 s6 a2) (callB2 (x := boxD row a1) (e1 := E s3 s4 s5 s6 a1) rfl (oV (callB0 rfl hface)) oc rfl hv)) ?_
  refine then_step (asg_nx (e2 := E (.ow (encSv v)) (.ow (encSv p)) s5 s6 a2) hpe) ?_
  refine guard_f (e1 := E (.sh (encSv v)) (.sh (encSv p)) s5 s6 a2) (tOr_f (e1 := E (.sh (encSv v)) (.ow (encSv p)) s5 s6 a2) (tBool_of (prim2 (oV (call1 (name_ow rfl) k1)) (oV (call1 (name_sh rfl) k1')) rfl rfl (ne_same p1))) (tBool_of (prim2 (oV (call1 (name_ow rfl) k2)) (oV (call1 (name_sh rfl) k2')) rfl rfl (ne_same p2)))) ?_
  have kx' : pIxA [.lst [faceD [("x" : Str)] [("y" : Str)], faceD [("x" : Str), "y"] [], faceD [("e" : Str)] [("c" : Str)], faceD [("g" : Str), "h"] [("e" : Str)]], .int d] = some (fz (faceD f.1 f.2)) := kx
  refine then_step (asg_nx (e2 := E (.sh (encSv v)) (.sh (encSv p)) (.sh (faceD f.1 f.2)) s6 (a2 + 1)) (prim2 (oV (lst4 (oV (lst2 (oV (lst1 oc)) (oV (lst1 oc)))) (oV (lst2 (oV (lst2 oc oc)) lst0')) (oV (lst2 (oV (lst1 oc)) (oV (lst1 oc)))) (oV (lst2 (oV (lst2 oc oc)) (oV (lst1 oc)))))) (oV (callB1 rfl oc rfl hd)) rfl rfl kx')) ?_
  refine then_step (asg_nx (e2 := E (.sh (encSv v)) (.sh (encSv p)) (.sh (faceD f.1 f.2)) (.ow (encSv u)) a3) (callB2 (x := boxD row (a2 + 1)) rfl (name_sh rfl) oc rfl hu)) ?_
  refine if_f (e1 := E (.sh (encSv v)) (.sh (encSv p)) (.sh (faceD f.1 f.2)) (.sh (encSv u)) a3) (tOr_f (e1 := E (.sh (encSv v)) (.sh (encSv p)) (.sh (faceD f.1 f.2)) (.sh (encSv u)) a3) (tBool_of (prim2 (oV (call2 (name_sh rfl) (name_ow rfl) k3)) (oV (call2 (name_sh rfl) (name_sh rfl) k3')) rfl rfl (ne_same p3))) (tBool_of (prim2 (oV (call2 (name_sh rfl) (name_sh rfl) k4)) (oV (call2 (name_sh rfl) (name_sh rfl) k4')) rfl rfl (ne_same p4)))) rfl
theorem law_true (ns : List Int) (h : ns.length ≤ 63) : F_law [.scr ns] = .ok (fz (.bl true)) := by
  obtain ⟨row, hrow⟩ := row_ok ns 50 ⟨by decide, by decide⟩
  have hr : sRange [oVal (sC (.int 4))] (q02 ns row .unb .unb .unb .unb .unb 0) = .ok ⟨(List.range 4).map fun (k : Nat) => D.int (k : Nat), none⟩ (q02 ns row .unb .unb .unb .unb .unb 0) := range_of rfl (by omega)
  obtain ⟨e', k1, s2, s3, s4, s5, s6, b, hb, rfl⟩ := forGo_run (tg := .one 2) (b := b0_law) (fun j e => ∃ s2 s3 s4 s5 s6 b, 0 ≤ b ∧ e = q02 ns row s2 s3 s4 s5 s6 b) ((List.range 4).map fun (k : Nat) => D.int (k : Nat)) (q02 ns row .unb .unb .unb .unb .unb 0) ⟨_, _, _, _, _, 0, by decide, rfl⟩ (fun i hi e he => by
    obtain ⟨s2, s3, s4, s5, s6, b, hb, rfl⟩ := he
    rw [List.getElem_map]
    generalize ((List.range 4)[i]'(by simpa using hi)) = t
    obtain ⟨s3', s4', s5', s6', b', hb', k⟩ := q02_step ns row (t : Nat) s3 s4 s5 s6 b hb
    exact ⟨_, rfl, _, k, _, _, _, _, _, b', hb', rfl⟩)
  have h0 := sFor_of (tg := .one 2) (b := b0_law) hr rfl
  rw [k1] at h0
  refine runF_of (show Rt t_law [.sh (.scr ns), .unb, .unb, .unb, .unb, .unb, .unb, .unb] _ from ?_)
  unfold t_law
  exact Rt.then (asg_nx (e2 := q02 ns row .unb .unb .unb .unb .unb 0) (lst2 (oV (call3 (name_sh rfl) oc oc hrow)) oc)) (Rt.then h0 Rt.c)
end Lw
set_option maxHeartbeats 0
open PySem PySem.W PySem.Calls PyProof.Rows
theorem PySem.Challenge.cw_allwhotalk_k02_dual_and_together_holds : PySem.Challenge.rw_allwhotalk_k02_dual_and_together.Holds := by
  w_on; o_law
  refine HandSHeadRun.head_any (r := OpenLaw.row PySem.Challenge.rw_allwhotalk_k02_dual_and_together) (q := view (OpenLaw.row PySem.Challenge.rw_allwhotalk_k02_dual_and_together).prog [42]) (H := Lw.hk) (ob := Lw.ob) (M := 4000) (loose := Lw.names) (d := HandSHeadRun.topDef (OpenLaw.row PySem.Challenge.rw_allwhotalk_k02_dual_and_together).prog 42) (kwd := []) Lw.ob_eq
    (by kernel_rfl) (fun s => by kernel_rfl) Lw.run (by kernel_rfl) (by kernel_rfl) (by kernel_rfl) (by rfl) (by first | assumption | decide +kernel) (by decide +kernel) ⟨rfl, rfl, rfl, rfl, rfl, by decide +kernel⟩ ?hw ?hc
  case hw => w_witness2
  case hc =>
    refine L2.walk_ofE (l := PySem.Challenge.rw_allwhotalk_k02_dual_and_together) (n := 63) (k := 8) (x := "_law_script") (CX := Ev.CX0') rfl (by decide) (by kernel_rfl) ⟨rfl, by decide, by decide⟩ ?F (fun _ _ _ _ z => z)
    intro w mg fa h Y G hmg0
    obtain ⟨K, KX, c⟩ := Y
    have hmg : mg ("law" : PySem.Str) = some (.ref fa) := by
      have e : (HandSHeadRun.topDef (OpenLaw.row PySem.Challenge.rw_allwhotalk_k02_dual_and_together).prog 42).name = ("law" : PySem.Str) := by kernel_rfl
      rw [← e]
      exact hmg0
    obtain ⟨fd, hb, hF⟩ := Lw.facts (P := (PySem.Challenge.rw_allwhotalk_k02_dual_and_together).prog) (w := w) KX G hmg c (by kernel_rfl) (by kernel_rfl)
    refine ⟨K, fd, _, KX, hb, fun H a ns hl _ hS => ?_, hF⟩
    refine ⟨H, [.scr ns], Ev.Sub.refl, .held (.scr hS) .nil, ?_⟩
    rw [Lw.law_true ns hl]
    intro z M' H' _ px _
    cases px
    rfl
