import PyProof.Rows.All
import Wide.All
import OpenK.AllK
import Wide.FinOn
import HandS.ForMost
import HandS.Deep
import HandS.TupAny
import HandS.Strs
import HandS.Style
import HandS.Flow
import KE.SortData
import KE.KDictKeyed
import KE.KeyNested
import HandS.Exc
import HandS.CallSlots
import HandS.RaiseMore
import HandS.IsInst
import HandS.Dict
import HandS.DictComp
import KE.KDictSum
import KE.KDictCopyH
import HandS.Iter
import HandS.Zip
import KE.KDictDisplayH
import HandS.Words
import HandS.Defaults
import HandS.Codes
import HandS.Head0
import HandS.Head1
import HandS.Head2
import HandS.HeadEnd
import HandS.HeadHook1
import HandS.HeadHook2
import HandS.ExcCtx
import HandS.HotCalls
import HandS.SuiteRaise
import HandS.WordsExc
import HandS.TryOnly
import HandS.ExcOwn
import KE.KExcSuper
import HandS.Conv
import HandS.NoneIn
import KE.GoesEnum
import KE.DataAny
import PyProof.DictUpdate
import HandS.Remove
import HandS.MapSum
import KE.KExcIs
import KE.KStateDown
import HandS.Ends
import HandS.More
import PySem.Challenge.RW_allwhotalk_k01_machines_are_checked
set_option Elab.async false
set_option linter.all false
set_option autoImplicit false
set_option maxRecDepth 100000
namespace Ev
open PySem L2 PySem.Spec PyProof.Rows
inductive D where
  | non | bl (b : Bool) | int (i : Int) | str (x : Str)
  | tup (l : List D) | lst (l : List D) | dic (l : List (D × D)) | obj (c : Str) (fs : List (Str × D)) | scr (l : List Int) | adr (a : Addr)
deriving Inhabited
noncomputable instance : DecidableEq D := fun a b => Classical.propDecidable (a = b)
mutual
def D.py : D → PyData
  | .non => .none
  | .bl b => .bool b
  | .int i => .int i
  | .str x => .str x
  | .tup l => .tuple (D.pys l)
  | .lst l => .list (D.pys l)
  | .dic _ => .dict []
  | .obj _ _ => .dict []
  | .scr _ => .dict []
  | .adr _ => .dict []
def D.pys : List D → List PyData
  | [] => []
  | d :: ds => D.py d :: D.pys ds
end
mutual
def D.dat : D → Bool
  | .tup l => D.dats l
  | .lst l => D.dats l
  | .dic _ => false
  | .obj _ _ => false
  | .scr _ => false
  | .adr _ => false
  | _ => true
def D.dats : List D → Bool
  | [] => true
  | d :: ds => D.dat d && D.dats ds
end
mutual
def D.key : D → Option NestedKey
  | .non => some .none
  | .int i => some (.num i)
  | .str x => some (.text x)
  | .tup l => (D.keys l).map .tup
  | _ => none
def D.keys : List D → Option (List NestedKey)
  | [] => some []
  | d :: ds => match D.key d, D.keys ds with
    | some k, some ks => some (k :: ks)
    | _, _ => none
end
def dtO (P : Program) (w : World) (a : Addr) (xs : List (NestedKey × Addr × V)) : HO := .ext fun h =>
  (a == sysModules) = false ∧ xs.length ≤ sizeLine ∧ ∃ ys : List (NestedKey × Addr × Value), Paired (fun (p : NestedKey × Addr × V) (q : NestedKey × Addr × Value) => p.1 = q.1 ∧ p.2.1 = q.2.1 ∧ RelV p.2.2 q.2.2) xs ys ∧
    ∃ o es ep, h.get? a = some o ∧ o.ExactDict ∧ o.data = .dict es ep ∧ es.toList = ys.map (entryOfKey (nestedKind P w)) ∧ (ys.map (·.1)).Nodup
structure Gl0 where
  P : Program
  w : World
  K : PySem.W.Frag
  cl : Str → Option Addr
def DkAt (M : Hp) (a : Addr) (kvs : List (Key × V)) : Prop := M a = some (.dK kvs) ∨ ∃ o, M a = some (.frz o (.dK kvs))
def D.isStr : D → Bool
  | .str _ => true
  | _ => false
def NoD (M : Hp) (a : Addr) : Prop := ∃ o vs, M a = some (.frz o (.tup vs)) ∧ o.dict = none
mutual
inductive Rep (g : Gl0) (M : Hp) : V → D → Prop
  | non : Rep g M .non .non
  | bl (b : Bool) : Rep g M (.bl b) (.bl b)
  | int (i : Int) : Rep g M (.int i) (.int i)
  | str (x : Str) : PyData.strOk x = true ∧ x.length ≤ sizeLine → Rep g M (.str x) (.str x)
  | tup {a : Addr} {vs : List V} {ds : List D} : SqT g.K M a vs → Reps g M vs ds → ds.length ≤ sizeLine → (ds.all D.isStr = true → NoD M a) → Rep g M (.ref a) (.tup ds)
  | lst {a : Addr} {vs : List V} {ds : List D} : M a = some (.lst vs) → Reps g M vs ds → ds.length ≤ sizeLine → Rep g M (.ref a) (.lst ds)
  | scr {a : Addr} {ns : List Int} : SqL g.K M a (ns.map V.int) → Rep g M (.ref a) (.scr ns)
  | dik {a : Addr} {kvs : List (Key × V)} {ds : List (D × D)} : DkAt M a kvs → RepK g M kvs ds → Rep g M (.ref a) (.dic ds)
  | dit {a : Addr} {xs : List (NestedKey × Addr × V)} {ds : List (D × D)} : M a = some (dtO g.P g.w a xs) → RepT g M xs ds → ds ≠ [] → Rep g M (.ref a) (.dic ds)
  | obj {a C dx : Addr} {c : Str} {fs : List (Str × V)} {ds : List (Str × D)} : M a = some (.ins C dx fs) → g.cl c = some C → RepF g M fs ds → Rep g M (.ref a) (.obj c ds)
  | adr {a : Addr} : Rep g M (.ref a) (.adr a)
inductive Reps (g : Gl0) (M : Hp) : List V → List D → Prop
  | nil : Reps g M [] []
  | cons {v : V} {vs : List V} {d : D} {ds : List D} : Rep g M v d → Reps g M vs ds → Reps g M (v :: vs) (d :: ds)
inductive RepK (g : Gl0) (M : Hp) : List (Key × V) → List (D × D) → Prop
  | nil : RepK g M [] []
  | cons {k : Key} {v : V} {kd d : D} {kvs : List (Key × V)} {ds : List (D × D)} : Rep g M (kV k) kd → Rep g M v d → RepK g M kvs ds → RepK g M ((k, v) :: kvs) ((kd, d) :: ds)
inductive RepT (g : Gl0) (M : Hp) : List (NestedKey × Addr × V) → List (D × D) → Prop
  | nil : RepT g M [] []
  | cons {k : NestedKey} {b : Addr} {v : V} {kd d : D} {xs : List (NestedKey × Addr × V)} {ds : List (D × D)} : kd.key = some k → k.depth ≤ 8 → Rep g M (.ref b) kd → Rep g M v d → RepT g M xs ds → RepT g M ((k, b, v) :: xs) ((kd, d) :: ds)
inductive RepF (g : Gl0) (M : Hp) : List (Str × V) → List (Str × D) → Prop
  | nil : RepF g M [] []
  | cons {f : Str} {v : V} {d : D} {fs : List (Str × V)} {ds : List (Str × D)} : Rep g M v d → RepF g M fs ds → RepF g M ((f, v) :: fs) ((f, d) :: ds)
end
def Sub (M H : Hp) : Prop := ∀ a o, M a = some o → H a = some o
theorem Sub.refl {M : Hp} : Sub M M := fun _ _ e => e
theorem DkAt.mono {M N : Hp} (s : Sub M N) {a : Addr} {kvs : List (Key × V)} (h : DkAt M a kvs) : DkAt N a kvs := h.imp (s _ _) fun ⟨o, e⟩ => ⟨o, s _ _ e⟩
theorem Sub.trans {M N H : Hp} (a : Sub M N) (b : Sub N H) : Sub M H := fun x o e => b x o (a x o e)
theorem Sub.upd {M : Hp} {p : Addr} {o : HO} (h : M p = none) : Sub M (upd M p o) := fun a u e => by
  rw [upd_ne (ne_of_none e h)]; exact e
theorem Sub.sqL {K : PySem.W.Frag} {M H : Hp} (s : Sub M H) {a : Addr} {vs : List V} (h : SqL K M a vs) : SqL K H a vs := by
  rcases h with (h | ⟨o, h⟩) | h
  · exact .inl (.inl (s _ _ h))
  · exact .inl (.inr ⟨o, s _ _ h⟩)
  · exact .inr h
theorem Sub.sqT {K : PySem.W.Frag} {M H : Hp} (s : Sub M H) {a : Addr} {vs : List V} (h : SqT K M a vs) : SqT K H a vs := by
  rcases h with (h | ⟨o, h⟩) | h
  · exact .inl (.inl (s _ _ h))
  · exact .inl (.inr ⟨o, s _ _ h⟩)
  · exact .inr h
theorem NoD.mono {M N : Hp} (s : Sub M N) {a : Addr} (h : NoD M a) : NoD N a := h.imp fun _ ⟨u, e, d⟩ => ⟨u, s _ _ e, d⟩
mutual
theorem Rep.mono {g : Gl0} {M N : Hp} (s : Sub M N) : ∀ {v : V} {d : D}, Rep g M v d → Rep g N v d
  | _, _, .non => .non
  | _, _, .bl b => .bl b
  | _, _, .int i => .int i
  | _, _, .str x h => .str x h
  | _, _, .tup h r z n => .tup (s.sqT h) (Reps.mono s r) z fun e => (n e).mono s
  | _, _, .lst h r z => .lst (s _ _ h) (Reps.mono s r) z
  | _, _, .scr h => .scr (s.sqL h)
  | _, _, .dik h r => .dik (h.mono s) (RepK.mono s r)
  | _, _, .dit h r z => .dit (s _ _ h) (RepT.mono s r) z
  | _, _, .obj h c r => .obj (s _ _ h) c (RepF.mono s r)
  | _, _, .adr => .adr
theorem Reps.mono {g : Gl0} {M N : Hp} (s : Sub M N) : ∀ {v : List V} {d : List D}, Reps g M v d → Reps g N v d
  | _, _, .nil => .nil
  | _, _, .cons a b => .cons (Rep.mono s a) (Reps.mono s b)
theorem RepK.mono {g : Gl0} {M N : Hp} (s : Sub M N) : ∀ {v : List (Key × V)} {d : List (D × D)}, RepK g M v d → RepK g N v d
  | _, _, .nil => .nil
  | _, _, .cons a b c => .cons (Rep.mono s a) (Rep.mono s b) (RepK.mono s c)
theorem RepT.mono {g : Gl0} {M N : Hp} (s : Sub M N) : ∀ {v : List (NestedKey × Addr × V)} {d : List (D × D)}, RepT g M v d → RepT g N v d
  | _, _, .nil => .nil
  | _, _, .cons k l a b c => .cons k l (Rep.mono s a) (Rep.mono s b) (RepT.mono s c)
theorem RepF.mono {g : Gl0} {M N : Hp} (s : Sub M N) : ∀ {v : List (Str × V)} {d : List (Str × D)}, RepF g M v d → RepF g N v d
  | _, _, .nil => .nil
  | _, _, .cons a b => .cons (Rep.mono s a) (RepF.mono s b)
end
inductive RepO (g : Gl0) (M : Hp) : Addr → HO → D → Prop
  | lst {a : Addr} {vs : List V} {ds : List D} : Reps g M vs ds → ds.length ≤ sizeLine → RepO g M a (.lst vs) (.lst ds)
  | dik {a : Addr} {kvs : List (Key × V)} {ds : List (D × D)} : RepK g M kvs ds → RepO g M a (.dK kvs) (.dic ds)
  | dit {a : Addr} {xs : List (NestedKey × Addr × V)} {ds : List (D × D)} : RepT g M xs ds → ds ≠ [] → RepO g M a (dtO g.P g.w a xs) (.dic ds)
  | obj {a C dx : Addr} {c : Str} {fs : List (Str × V)} {ds : List (Str × D)} : g.cl c = some C → RepF g M fs ds → RepO g M a (.ins C dx fs) (.obj c ds)
theorem RepO.mono {g : Gl0} {M N : Hp} (s : Sub M N) {a : Addr} {o : HO} {d : D} (h : RepO g M a o d) : RepO g N a o d := by
  cases h with
  | lst r z => exact .lst (r.mono s) z
  | dik r => exact .dik (r.mono s)
  | dit r z => exact .dit (r.mono s) z
  | obj c r => exact .obj c (r.mono s)
theorem RepO.rep {g : Gl0} {M : Hp} {a : Addr} {o : HO} {d : D} (h : RepO g M a o d) (e : M a = some o) : Rep g M (.ref a) d := by
  cases h with
  | lst r z => exact .lst e r z
  | dik r => exact .dik (.inl e) r
  | dit r z => exact .dit e r z
  | obj c r => exact .obj e c r
def PRep (g : Gl0) (M H : Hp) (x : V) (d : D) : Prop := Rep g M x d ∨ ∃ a o, x = .ref a ∧ H a = some o ∧ RepO g M a o d
inductive PReps (g : Gl0) (M H : Hp) : List V → List D → Prop
  | nil : PReps g M H [] []
  | cons {v : V} {vs : List V} {d : D} {ds : List D} : PRep g M H v d → PReps g M H vs ds → PReps g M H (v :: vs) (d :: ds)
theorem PRep.rep {g : Gl0} {M H : Hp} (s : Sub M H) {x : V} {d : D} (h : PRep g M H x d) : Rep g H x d := by
  rcases h with h | ⟨a, o, rfl, e, r⟩
  · exact h.mono s
  · exact (r.mono s).rep e
theorem PRep.lst {g : Gl0} {M H : Hp} (s : Sub M H) {x : V} {ds : List D} (h : PRep g M H x (.lst ds)) : ∃ a vs, x = .ref a ∧ H a = some (.lst vs) ∧ Reps g M vs ds ∧ ds.length ≤ sizeLine := by
  rcases h with h | ⟨a, o, rfl, e, r⟩
  · cases h with
    | lst h r z => exact ⟨_, _, rfl, s _ _ h, r, z⟩
  · cases r with
    | lst r z => exact ⟨_, _, rfl, e, r, z⟩
theorem PRep.tup {g : Gl0} {M H : Hp} (s : Sub M H) {x : V} {ds : List D} (h : PRep g M H x (.tup ds)) : ∃ a vs, x = .ref a ∧ SqT g.K H a vs ∧ Reps g M vs ds ∧ Rep g M x (.tup ds) ∧ ds.length ≤ sizeLine := by
  rcases h with h | ⟨a, o, rfl, e, r⟩
  · cases h with
    | tup h r z n => exact ⟨_, _, rfl, s.sqT h, r, .tup h r z n, z⟩
  · cases r
theorem PRep.scr {g : Gl0} {M H : Hp} (s : Sub M H) {x : V} {ns : List Int} (h : PRep g M H x (.scr ns)) : ∃ a, x = .ref a ∧ SqL g.K H a (ns.map V.int) := by
  rcases h with h | ⟨a, o, rfl, e, r⟩
  · cases h with
    | scr h => exact ⟨_, rfl, s.sqL h⟩
  · cases r
theorem PRep.int {g : Gl0} {M H : Hp} {x : V} {i : Int} (h : PRep g M H x (.int i)) : x = .int i := by
  rcases h with h | ⟨a, o, rfl, e, r⟩
  · cases h; rfl
  · cases r
theorem PRep.str {g : Gl0} {M H : Hp} {x : V} {i : Str} (h : PRep g M H x (.str i)) : x = .str i ∧ PyData.strOk i = true ∧ i.length ≤ sizeLine := by
  rcases h with h | ⟨a, o, rfl, e, r⟩
  · cases h; exact ⟨rfl, by assumption⟩
  · cases r
theorem PRep.bl {g : Gl0} {M H : Hp} {x : V} {i : Bool} (h : PRep g M H x (.bl i)) : x = .bl i := by
  rcases h with h | ⟨a, o, rfl, e, r⟩
  · cases h; rfl
  · cases r
theorem PRep.non {g : Gl0} {M H : Hp} {x : V} (h : PRep g M H x .non) : x = .non := by
  rcases h with h | ⟨a, o, rfl, e, r⟩
  · cases h; rfl
  · cases r
theorem PRep.obj {g : Gl0} {M H : Hp} (s : Sub M H) {x : V} {c : Str} {ds : List (Str × D)} (h : PRep g M H x (.obj c ds)) : ∃ a C dx fs, x = .ref a ∧ H a = some (.ins C dx fs) ∧ g.cl c = some C ∧ RepF g M fs ds := by
  rcases h with h | ⟨a, o, rfl, e, r⟩
  · cases h with
    | obj h c r => exact ⟨_, _, _, _, rfl, s _ _ h, c, r⟩
  · cases r with
    | obj c r => exact ⟨_, _, _, _, rfl, e, c, r⟩
theorem Reps.length {g : Gl0} {M : Hp} : ∀ {vs : List V} {ds : List D}, Reps g M vs ds → vs.length = ds.length
  | _, _, .nil => rfl
  | _, _, .cons _ t => congrArg (· + 1) (Reps.length t)
theorem Reps.get {g : Gl0} {M : Hp} : ∀ {vs : List V} {ds : List D} {i : Nat} {d : D}, Reps g M vs ds → ds[i]? = some d → ∃ v, vs[i]? = some v ∧ Rep g M v d
  | _, _, _, _, .nil, e => by simp at e
  | _, _, 0, _, .cons r _, e => by simp at e; subst e; exact ⟨_, rfl, r⟩
  | _, _, i + 1, d, .cons _ t, e => by
    obtain ⟨u, h1, h2⟩ := Reps.get (i := i) (d := d) t (by simpa using e)
    exact ⟨u, by simpa using h1, h2⟩
theorem Reps.append {g : Gl0} {M : Hp} : ∀ {vs ws : List V} {ds es : List D}, Reps g M vs ds → Reps g M ws es → Reps g M (vs ++ ws) (ds ++ es)
  | _, _, _, _, .nil, s => s
  | _, _, _, _, .cons r t, s => .cons r (Reps.append t s)
theorem Reps.take {g : Gl0} {M : Hp} : ∀ {vs : List V} {ds : List D} (n : Nat), Reps g M vs ds → Reps g M (vs.take n) (ds.take n)
  | _, _, 0, _ => .nil
  | _, _, _ + 1, .nil => .nil
  | _, _, n + 1, .cons r t => .cons r (Reps.take n t)
theorem Reps.drop {g : Gl0} {M : Hp} : ∀ {vs : List V} {ds : List D} (n : Nat), Reps g M vs ds → Reps g M (vs.drop n) (ds.drop n)
  | _, _, 0, r => r
  | _, _, _ + 1, .nil => .nil
  | _, _, n + 1, .cons _ t => Reps.drop n t
theorem Reps.set {g : Gl0} {M : Hp} {v : V} {d : D} (q : Rep g M v d) : ∀ {vs : List V} {ds : List D} (n : Nat), Reps g M vs ds → Reps g M (vs.set n v) (ds.set n d)
  | _, _, _, .nil => .nil
  | _, _, 0, .cons _ t => .cons q t
  | _, _, n + 1, .cons r t => .cons r (Reps.set q n t)
theorem Reps.reverse {g : Gl0} {M : Hp} : ∀ {vs : List V} {ds : List D}, Reps g M vs ds → Reps g M vs.reverse ds.reverse
  | _, _, .nil => .nil
  | _, _, .cons r t => by
    rw [List.reverse_cons, List.reverse_cons]
    exact (Reps.reverse t).append (.cons r .nil)
theorem Reps.eraseIdx {g : Gl0} {M : Hp} : ∀ {vs : List V} {ds : List D} (n : Nat), Reps g M vs ds → Reps g M (vs.eraseIdx n) (ds.eraseIdx n)
  | _, _, _, .nil => .nil
  | _, _, 0, .cons _ t => t
  | _, _, n + 1, .cons r t => .cons r (Reps.eraseIdx n t)
theorem Reps.ints {g : Gl0} {M : Hp} : ∀ (ns : List Int), Reps g M (ns.map V.int) (ns.map D.int)
  | [] => .nil
  | n :: ns => .cons (.int n) (Reps.ints ns)
theorem Reps.bls_inv {g : Gl0} {M : Hp} : ∀ {ns : List Bool} {vs : List V}, Reps g M vs (ns.map D.bl) → vs = ns.map V.bl
  | [], _, h => by cases h; rfl
  | n :: ns, _, h => by
    have h' : Reps g M _ (D.bl n :: ns.map D.bl) := h
    cases h' with
    | cons r t => cases r; rw [Reps.bls_inv t]; rfl
theorem RepF.get {g : Gl0} {M : Hp} {f : Str} {d : D} : ∀ {fs : List (Str × V)} {ds : List (Str × D)}, RepF g M fs ds → ds.lookup f = some d → ∃ v, fs.lookup f = some v ∧ Rep g M v d
  | _, _, .nil, e => by simp at e
  | (f', v') :: fs, (_, d') :: ds, .cons r t, e => by
    rw [List.lookup_cons] at e ⊢
    cases h : f == f' with
    | true => rw [h] at e; cases e; exact ⟨_, rfl, r⟩
    | false => rw [h] at e; exact RepF.get t e
theorem RepF.keys {g : Gl0} {M : Hp} : ∀ {fs : List (Str × V)} {ds : List (Str × D)}, RepF g M fs ds → fs.map (·.1) = ds.map (·.1)
  | _, _, .nil => rfl
  | _, _, .cons _ t => by simp [RepF.keys t]
theorem RepF.none {g : Gl0} {M : Hp} {f : Str} : ∀ {fs : List (Str × V)} {ds : List (Str × D)}, RepF g M fs ds → ds.lookup f = none → fs.lookup f = none
  | _, _, .nil, _ => rfl
  | (f', v') :: fs, (_, d') :: ds, .cons r t, e => by
    rw [List.lookup_cons] at e ⊢
    cases h : f == f' with
    | true => rw [h] at e; cases e
    | false => rw [h] at e; exact RepF.none t e
mutual
theorem Rep.dp {g : Gl0} {M : Hp} : ∀ {v : V} {d : D}, Rep g M v d → d.dat = true → Dp g.K M v d.py
  | _, _, .non, _ => .non
  | _, _, .bl b, _ => .bl b
  | _, _, .int i, _ => .int i
  | _, _, .str x _, _ => .str x
  | _, _, .tup h r _ _, e => by rw [D.py]; exact .tup h (Reps.dp r (by simpa [D.dat] using e))
  | _, _, .lst h r _, e => by rw [D.py]; exact .lst (.of h) (Reps.dp r (by simpa [D.dat] using e))
  | _, _, .scr _, e => by simp [D.dat] at e
  | _, _, .dik _ _, e => by simp [D.dat] at e
  | _, _, .dit _ _ _, e => by simp [D.dat] at e
  | _, _, .obj _ _ _, e => by simp [D.dat] at e
theorem Reps.dp {g : Gl0} {M : Hp} : ∀ {v : List V} {d : List D}, Reps g M v d → D.dats d = true → DpAll g.K M v (D.pys d)
  | _, _, .nil, _ => .nil
  | _, _, .cons a b, e => by
    rw [D.dats, Bool.and_eq_true] at e
    rw [D.pys]
    exact .cons (Rep.dp a e.1) (Reps.dp b e.2)
end
mutual
theorem Rep.lay {g : Gl0} {M : Hp} : ∀ {v : V} {d : D}, Rep g M v d → d.dat = true → d.py.canLay0 = true
  | _, _, .non, _ => by simp [D.py, PyData.canLay0]
  | _, _, .bl b, _ => by simp [D.py, PyData.canLay0]
  | _, _, .int i, _ => by simp [D.py, PyData.canLay0]
  | _, _, .str x h, _ => by rw [D.py, PyData.canLay0]; exact h.1
  | _, _, .tup h r _ _, e => by rw [D.py, PyData.canLay0]; exact Reps.lay r (by simpa [D.dat] using e)
  | _, _, .lst h r _, e => by rw [D.py, PyData.canLay0]; exact Reps.lay r (by simpa [D.dat] using e)
  | _, _, .scr _, e => by simp [D.dat] at e
  | _, _, .dik _ _, e => by simp [D.dat] at e
  | _, _, .dit _ _ _, e => by simp [D.dat] at e
  | _, _, .obj _ _ _, e => by simp [D.dat] at e
theorem Reps.lay {g : Gl0} {M : Hp} : ∀ {v : List V} {d : List D}, Reps g M v d → D.dats d = true → PyData.canLayAll0 (D.pys d) = true
  | _, _, .nil, _ => by simp [D.pys, PyData.canLayAll0]
  | _, _, .cons a b, e => by
    rw [D.dats, Bool.and_eq_true] at e
    rw [D.pys, PyData.canLayAll0, Rep.lay a e.1, Reps.lay b e.2]
    rfl
end
end Ev
set_option Elab.async false
set_option linter.all false
set_option autoImplicit false
set_option maxRecDepth 100000
namespace Ev
open PySem L2 PySem.Spec PyProof.Rows
def NewT (vs : List V) (H : Hp) (Q : VK) : Prop := ∀ p ob, ob.dict = none → H p = none → Q (.ref p) (upd H p (.frz ob (.tup vs)))
section
variable {X : Cx} {pins : List (Addr × Obj)} {σ : L2.St} {H : Hp} {s : Shared} {Q : VK}
theorem new_tup {vs : List V} {us : List Value} {h' : Heap} (I : Inv X pins σ H { s with heap := h' }) (r : Vals vs us) (hz : vs.length ≤ sizeLine) (q : NewT vs H Q) :
    EP X pins σ Q (.ref h'.objs.size) { s with heap := h'.push { cls := .type "tuple", data := .seq us.toArray } } := by
  have hx : (h'.push { cls := .type "tuple", data := .seq us.toArray }).get? h'.objs.size = some ({ cls := .type "tuple", data := .seq us.toArray } : Obj) := Heap.get?_push_size _ rfl
  have hn : H h'.objs.size = none := I.hok.fresh (Nat.le_refl _)
  refine ⟨.ref h'.objs.size, _, I.laid (t' := s.toks) (o := .frz ({ cls := .type "tuple", data := .seq us.toArray } : Obj) (.tup vs)) (fun b o e => Heap.get?_push_of_some _ e) (Nat.le_refl _) ?_, rfl, q _ _ rfl hn⟩
  exact And.intro hx (And.intro hz ⟨us, r, ⟨_, hx, rfl, _, rfl⟩⟩)
end
section
variable {X : Cx} {t : TA} {es : List Expr} {pos : Pos}
def tTupN (t : TA) : TE := fun σ H Q => t σ H fun xs H1 => xs.length ≤ sizeLine ∧ NewT xs H1 Q
theorem pe_tupN {x1} (h : PA X es t) : PE X (.Tuple es x1 pos) (tTupN t) :=
  ⟨fun pins s σ H Q I hq => wpAny_Tuple_spliced (thn (h.run pos pins s σ H _ I hq) fun us s1 ⟨xs, H1, I1, r, z, q⟩ => ⟨by have := r.length; omega, new_tup (h' := s1.heap) I1 r z q⟩)⟩
def rCatN (K : PySem.W.Frag) : R2 := fun x y H Q => ∃ a b xs ys, x = .ref a ∧ y = .ref b ∧ SqT K H a xs ∧ SqT K H b ys ∧ xs.length + ys.length ≤ sizeLine ∧
  (xs = [] → Q (.ref b) H) ∧ (xs ≠ [] → ys = [] → Q (.ref a) H) ∧ (xs ≠ [] → ys ≠ [] → NewT (xs ++ ys) H Q)
theorem op_catN : OpR X (binaryOp .Add) (rCatN X.K) := by
  intro pins s σ H x y v u Q I rx ry ⟨a, b, xs, ys, ex, ey, ha, hb, hz, q0, q1, q2⟩
  subst ex ey
  by_cases hx : xs = []
  · exact op_catA pins s σ H _ _ v u Q I rx ry ⟨a, b, xs, ys, rfl, rfl, ha, hb, hz, q0, q1, fun z => absurd hx z⟩
  by_cases hy : ys = []
  · exact op_catA pins s σ H _ _ v u Q I rx ry ⟨a, b, xs, ys, rfl, rfl, ha, hb, hz, q0, q1, fun _ z => absurd hy z⟩
  obtain rfl : v = Value.ref a := rx
  obtain rfl : u = Value.ref b := ry
  obtain ⟨us, r1, p1, _⟩ := I.tuple ha
  obtain ⟨ws, r2, p2, _⟩ := I.tuple hb
  have l1 := r1.length
  have l2 := r2.length
  have nx : us ≠ [] := fun z => hx (List.eq_nil_of_length_eq_zero (by rw [l1, z]; rfl))
  refine HT.cat_tup p1 p2 nx (fun z => absurd (List.eq_nil_of_length_eq_zero (by rw [l2, z]; rfl)) hy) (fun _ => ?_) (by omega)
  exact new_tup (h' := s.heap) I (r1.append r2) (by rw [List.length_append]; exact hz) (q2 hx hy)
def rSlN (K : PySem.W.Frag) : V → Option Int → Option Int → Hp → VK → Prop := fun x lo hi H Q => ∃ a xs, x = .ref a ∧ SqT K H a xs ∧
  (HT.sIx xs.length 0 lo = 0 ∧ HT.sIx xs.length xs.length hi = xs.length → Q (.ref a) H) ∧ (¬ (HT.sIx xs.length 0 lo = 0 ∧ HT.sIx xs.length xs.length hi = xs.length) → NewT (cutV xs lo hi) H Q)
theorem sl_tupN : SlR X (rSlN X.K) := by
  intro pins s σ H x v vl vu lo hi sl Q I rx hs pl pu ⟨a, xs, ex, hx, q1, q2⟩
  by_cases hw : HT.sIx xs.length 0 lo = 0 ∧ HT.sIx xs.length xs.length hi = xs.length
  · exact sl_tupA pins s σ H x v vl vu lo hi sl Q I rx hs pl pu ⟨a, xs, ex, hx, q1, fun z => absurd hw z⟩
  subst ex
  obtain rfl : v = Value.ref a := rx
  obtain ⟨us, r, p, hz⟩ := I.tuple hx
  have hl : us.toArray.size = xs.length := by have := r.length; simp; omega
  refine ⟨"tuple", _, slot_tuple_getitem.lookup, p.typeIs, ?_⟩
  refine HT.getItem_tuple_cut p hs pl pu (by rw [hl]; exact hw) ?_ (by omega)
  rw [hl]
  exact new_tup (h' := s.heap) I (Vals.take _ (Vals.drop _ r)) (Nat.le_trans (cutV_length xs lo hi) hz) (q2 hw)
end
def ItzN (K : PySem.W.Frag) (a b : Addr) : It :=
  { Itz K a b with yld := fun i H v H' => ∃ T x y ob, ob.dict = none ∧ v = .ref T ∧ H T = none ∧ H' = upd H T (.frz ob (.tup [x, y])) ∧ (∀ xs, SqL K H a xs → xs[i]? = some x) ∧ ∀ ys, SqL K H b ys → ys[i]? = some y }
theorem turn_zipN {P : Program} {w : World} {K : PySem.W.Frag} {elts : List Expr} {kk : Nat} {tpos : Pos} {a b z TI TO i1 i2 : Addr} (D : ZipApart z TI TO i1 i2 a b) :
    Turn P w K (.Tuple elts kk tpos) (ItzN K a b) [z, TI, TO, i1, i2] z (fun i h => IsZip h z TI TO .none ∧ IsPair h TI (.ref i1) (.ref i2) ∧ (∃ x y, IsPair h TO x y) ∧ h.IsListIter i1 a i ∧ h.IsListIter i2 b i) :=
  have old := turn_zip (P := P) (w := w) (K := K) (elts := elts) (kk := kk) (tpos := tpos) D
  { mem := old.mem, obj := old.obj, keep := old.keep, done := old.done, self := old.self
    item := fun X hP hw hK hc i pins s σ H E I hf st hg => by
      subst hP hw hK
      obtain ⟨sz, sTI, ⟨_, _, sTO⟩, s1, s2⟩ := st
      obtain ⟨xs, ys, x, y, qx, qy, gx, gy⟩ := hg
      obtain ⟨us, rx, px, _⟩ := I.list qx
      obtain ⟨vs, ry, py, _⟩ := I.list qy
      obtain ⟨u, hu, ru⟩ := rx.get gx
      obtain ⟨v, hv, rv⟩ := ry.get gy
      have lz := Heap.lt_size sz
      have lTI := Heap.lt_size sTI
      have lTO := Heap.lt_size sTO
      have l1 : i1 < s.heap.objs.size := let ⟨_, e, _⟩ := s1; Heap.lt_size e
      have l2 : i2 < s.heap.objs.size := let ⟨_, e, _⟩ := s2; Heap.lt_size e
      have all : ∀ (p : Addr → Prop), p z → p TI → p TO → p i1 → p i2 → ∀ c ∈ [z, TI, TO, i1, i2], p c := fun p a1 a2 a3 a4 a5 c hc => by
        simp only [List.mem_cons, List.not_mem_nil, or_false] at hc
        rcases hc with rfl | rfl | rfl | rfl | rfl <;> assumption
      refine wpAny_pyNext_zip_item D sz sTI sTO s1 s2 px.isList py.isList (x := u) (y := v) (by simpa using hu) (by simpa using hv) fun h1 z1 O1 t1 t2 hT _ hk => ⟨_, rfl, ?_⟩
      refine wpAny_letOwnedTupleGo_zip (s := { s with heap := h1 }) z1 fun h2 z2 sb => ?_
      have ho : h2.get? s.heap.objs.size = some ({ cls := .type "tuple", data := .seq #[u, v] } : Obj) := by rw [sb.2 _ (Nat.ne_of_gt lz)]; exact hT
      have J := I.turnedNew (h' := h2) (t' := s.toks) (ch := [z, TI, TO, i1, i2]) (T := s.heap.objs.size) (ob := .frz ({ cls := .type "tuple", data := .seq #[u, v] } : Obj) (.tup [x, y]))
        (fun c o hb q => by
          simp only [List.mem_cons, List.not_mem_nil, or_false, not_or] at hb
          rw [sb.2 c hb.1]
          exact hk c o hb.1 hb.2.2.1 hb.2.2.2.1 hb.2.2.2.2 q) hf (Nat.le_refl _)
        ⟨ho, by show 2 ≤ sizeLine; decide, [u, v], .cons ru (.cons rv .nil), _, ho, rfl, _, rfl⟩
      refine ⟨.ref s.heap.objs.size, _, J, rfl, ⟨_, x, y, _, rfl, rfl, I.hok.fresh (Nat.le_refl _), rfl, fun l hl => ?_, fun l hl => ?_⟩, ⟨z2, ?_, ⟨u, v, ?_⟩, ?_, ?_⟩, ?_⟩
      · rw [I.list_inj hl qx]; exact gx
      · rw [I.list_inj hl qy]; exact gy
      · show h2.get? TI = _
        rw [sb.2 _ D.TIz]; exact hk _ _ D.TIz D.TITO D.TIi1 D.TIi2 sTI
      · show h2.get? TO = _
        rw [sb.2 _ D.TOz]; exact O1
      · exact t1.at fun o q => by rw [sb.2 _ D.i1z]; exact q
      · exact t2.at fun o q => by rw [sb.2 _ D.i2z]; exact q
      · exact all _ (by rw [upd_ne (Nat.ne_of_lt lz)]; exact (hf _ (by simp)).1) (by rw [upd_ne (Nat.ne_of_lt lTI)]; exact (hf _ (by simp)).1) (by rw [upd_ne (Nat.ne_of_lt lTO)]; exact (hf _ (by simp)).1)
          (by rw [upd_ne (Nat.ne_of_lt l1)]; exact (hf _ (by simp)).1) (by rw [upd_ne (Nat.ne_of_lt l2)]; exact (hf _ (by simp)).1) }
def iZipN (K : PySem.W.Frag) (ta : TA) : TI := fun σ H R => ta σ H fun vs H1 => ∃ a b xs ys, vs = [.ref a, .ref b] ∧ SqL K H1 a xs ∧ SqL K H1 b ys ∧ R (ItzN K a b) H1
theorem pi_zipN {X : Cx} {e e2 : Expr} {ta : TA} {p pos tpos : Pos} {elts : List Expr} {kk : Nat} (hg : Gl X "zip") (hm : X.mg "zip" = none) (ha : PA X [e, e2] ta)
    (hs : starEach [e, e2] X.env = (false, eval e X.env) :: starEach [e2] X.env) (hpl : (backTo pos (starEach [e2] X.env)).any (·.1) = false) :
    PI X (.Tuple elts kk tpos) (.Call (.Name "zip" p) [e, e2] [] pos) (iZipN X.K ta) :=
  ⟨fun pins s σ H R I h => Call_ (ld_blt I hg hm boot_zip (callWith_type1 (thn (ha.run pos pins s σ H _ I h) fun us s1 ⟨vs, H1, I1, r1, a, b, xs, ys, ex, qx, qy, q⟩ => by
    subst ex
    cases r1 with
    | cons r rr =>
      cases rr with
      | cons r' rr =>
        cases rr
        obtain rfl := r
        obtain rfl := r'
        obtain ⟨_, _, px, _⟩ := I1.list qx
        obtain ⟨_, _, py, _⟩ := I1.list qy
        refine call_zip_2 px.isList py.isList fun h1 sz sTI sTO t1 t2 hsz hk => wpAny_pyIter_zip sz ?_
        refine ⟨s1.heap.objs.size + 4, [s1.heap.objs.size + 4, s1.heap.objs.size + 2, s1.heap.objs.size + 3, s1.heap.objs.size, s1.heap.objs.size + 1], _, _, H1, rfl, I1.kept (t' := s1.toks) hk, turn_zipN (PySem.W.ktu_apart s1.heap.objs.size a b px.lt py.lt), ⟨sz, sTI, ⟨_, _, sTO⟩, t1, t2⟩, fun c hc => ?_, q⟩
        have hle : s1.heap.objs.size ≤ c := by
          simp only [List.mem_cons, List.not_mem_nil, or_false] at hc
          rcases hc with z | z | z | z | z <;> rw [z] <;> first | exact Nat.le_add_right _ _ | exact Nat.le_refl _
        exact I1.fpOk hle (I1.hok.fresh hle)) hs hpl))⟩
end Ev
set_option Elab.async false
set_option linter.all false
set_option autoImplicit false
set_option maxRecDepth 100000
namespace Ev
open PySem L2
structure Vl where
  d : D
  nw : Bool
abbrev fz (d : D) : Vl := ⟨d, false⟩
abbrev nw (d : D) : Vl := ⟨d, true⟩
structure Exn where
  cls : Str
  fs : List (Str × D)
inductive Slot where
  | unb | sh (d : D) | ow (d : D) | bx (d : D) | ro (d : D)
abbrev En := List Slot
inductive Out (α : Type) where
  | ok (a : α) (e : En) | exc (x : Exn) (e : En) | stuck
inductive Res (α : Type) where
  | ok (a : α) | exc (x : Exn) | stuck
def Out.bind {α β : Type} (o : Out α) (f : α → En → Out β) : Out β := match o with
  | .ok a e => f a e
  | .exc x e => .exc x e
  | .stuck => .stuck
abbrev Sx (α : Type) := En → Out α
@[simp] theorem Out.bind_ok {α β : Type} (a : α) (e : En) (f : α → En → Out β) : (Out.ok a e).bind f = f a e := rfl
@[simp] theorem Out.bind_exc {α β : Type} (x : Exn) (e : En) (f : α → En → Out β) : (Out.exc x e : Out α).bind f = .exc x e := rfl
@[simp] theorem Out.bind_stuck {α β : Type} (f : α → En → Out β) : (Out.stuck : Out α).bind f = .stuck := rfl
inductive Opd where
  | sl (i : Nat) | dt (d : D)
def Slot.look : Slot → Option D
  | .unb => none
  | .sh d => some d
  | .ow d => some d
  | .bx d => some d
  | .ro d => some d
def res (e : En) : Opd → Option D
  | .dt d => some d
  | .sl i => match e[i]? with
    | some s => s.look
    | none => none
def ress (e : En) : List Opd → Option (List D)
  | [] => some []
  | o :: os => match res e o, ress e os with
    | some d, some ds => some (d :: ds)
    | _, _ => none
def sC (d : D) : Sx Vl := fun e => .ok (fz d) e
def sName (i : Nat) : Sx Vl := fun e => match e[i]? with
  | some (.sh d) => .ok (fz d) e
  | some (.ow d) => .ok (fz d) (e.set i (.sh d))
  | _ => .stuck
def oName (i : Nat) : Sx Opd := fun e => match e[i]? with
  | some s => (match s.look with
    | some _ => .ok (.sl i) e
    | none => .stuck)
  | none => .stuck
def oVal (m : Sx Vl) : Sx Opd := fun e => (m e).bind fun v e => .ok (.dt v.d) e
def sOps : List (Sx Opd) → Sx (List Opd)
  | [] => fun e => .ok [] e
  | m :: ms => fun e => (m e).bind fun o e => (sOps ms e).bind fun os e => .ok (o :: os) e
def sArgs (ms : List (Sx Opd)) : Sx (List D) := fun e => (sOps ms e).bind fun os e => match ress e os with
  | some ds => .ok ds e
  | none => .stuck
def sPrim (p : List D → Option Vl) (ms : List (Sx Opd)) : Sx Vl := fun e => (sArgs ms e).bind fun ds e => match p ds with
  | some v => .ok v e
  | none => .stuck
def truth : D → Option Bool
  | .non => some false
  | .bl b => some b
  | .int i => some (i != 0)
  | .str x => some (x.length != 0)
  | .tup l => some (!l.isEmpty)
  | .lst l => some (!l.isEmpty)
  | .dic _ => none
  | _ => none
def tVal (m : Sx Opd) : Sx Bool := fun e => (sArgs [m] e).bind fun ds e => match ds with
  | [d] => (match truth d with
    | some b => .ok b e
    | none => .stuck)
  | _ => .stuck
def tNot (m : Sx Bool) : Sx Bool := fun e => (m e).bind fun b e => .ok (!b) e
def tAnd (m n : Sx Bool) : Sx Bool := fun e => (m e).bind fun b e => if b = true then n e else .ok false e
def tOr (m n : Sx Bool) : Sx Bool := fun e => (m e).bind fun b e => if b = true then .ok true e else n e
def sIf {α : Type} (t : Sx Bool) (a b : Sx α) : Sx α := fun e => (t e).bind fun k e => if k = true then a e else b e
def sAnd (m n : Sx Vl) : Sx Vl := fun e => (m e).bind fun v e => match v.d with
  | .bl true => n e
  | .bl false => .ok (fz (.bl false)) e
  | _ => .stuck
def sOr (m n : Sx Vl) : Sx Vl := fun e => (m e).bind fun v e => match v.d with
  | .bl true => .ok (fz (.bl true)) e
  | .bl false => n e
  | _ => .stuck
structure Gh where
  H0 : Hp
  M0 : Hp
  bx : Option Addr
  ex : Addr → Prop
  ro : Addr → Prop
def Gh.B (G : Gh) (a : Addr) : Prop := G.bx = some a ∨ G.ex a
def Slot.own : Slot → Prop
  | .ow _ => True
  | .bx _ => True
  | _ => False
def SlotR (g : Gl0) (G : Gh) (M H : Hp) (x : Option V) : Slot → Prop
  | .unb => True
  | .sh d => ∃ v, x = some v ∧ Rep g M v d
  | .ow d => ∃ a o, x = some (.ref a) ∧ H a = some o ∧ RepO g M a o d ∧ M a = none ∧ (G.H0 a = none ∨ G.ex a)
  | .bx d => ∃ a o, x = some (.ref a) ∧ H a = some o ∧ RepO g M a o d ∧ M a = none ∧ G.bx = some a
  | .ro d => ∃ v, x = some v ∧ (Rep g M v d ∨ ∃ a o, v = .ref a ∧ H a = some o ∧ G.ro a ∧ RepO g M a o d)
def Owns (e : En) (σ : L2.St) (i : Nat) (a : Addr) : Prop := ∃ s, e[i]? = some s ∧ s.own ∧ σ[i]? = some (some (.ref a))
def OwnsW (e : En) (σ : L2.St) (i : Nat) (a : Addr) : Prop := ∃ d, e[i]? = some (Slot.ow d) ∧ σ[i]? = some (some (.ref a))
structure Rel (g : Gl0) (G : Gh) (e : En) (M : Hp) (σ : L2.St) (H : Hp) : Prop where
  sub : Sub M H
  keep : ∀ a o, G.H0 a = some o → ¬ G.B a → H a = some o
  live : ∀ a, G.H0 a ≠ none → H a ≠ none
  fresh : ∀ a, M a ≠ none → G.M0 a ≠ none ∨ G.H0 a = none ∨ G.ex a
  base : Sub G.M0 M
  slot : ∀ (i : Nat) (s : Slot) (x : Option V), e[i]? = some s → σ[i]? = some x → SlotR g G M H x s
  len : e.length = σ.length
  dist : ∀ (i j : Nat) (a : Addr), i ≠ j → Owns e σ i a → Owns e σ j a → False
  lent : ∀ a, G.ro a → H a ≠ none ∧ ¬ G.B a ∧ ∀ j, ¬ Owns e σ j a
  bl : ∀ a, G.B a → H a ≠ none
structure Ext (M H M' H' : Hp) : Prop where
  keep : Sub H H'
  mono : Sub M M'
  sub : Sub M' H'
  fresh : ∀ a, M' a ≠ none → M a ≠ none ∨ H a = none
theorem Ext.refl {M H : Hp} (s : Sub M H) : Ext M H M H := ⟨.refl, .refl, s, fun _ h => .inl h⟩
theorem Ext.trans {M H M1 H1 M2 H2 : Hp} (a : Ext M H M1 H1) (b : Ext M1 H1 M2 H2) : Ext M H M2 H2 :=
  ⟨a.keep.trans b.keep, a.mono.trans b.mono, b.sub, fun x h => by
    rcases b.fresh x h with h | h
    · exact a.fresh x h
    · right
      cases q : H x with
      | none => rfl
      | some o => rw [a.keep _ _ q] at h; cases h⟩
theorem Ext.new {M H : Hp} (s : Sub M H) {p : Addr} {o : HO} (h : H p = none) : Ext M H M (upd H p o) := ⟨.upd h, .refl, s.trans (.upd h), fun _ h => .inl h⟩
theorem Sub.none {M H : Hp} (s : Sub M H) {p : Addr} (h : H p = none) : M p = none := by
  cases q : M p with
  | none => rfl
  | some o => rw [s _ _ q] at h; cases h
theorem Ext.newM {M H : Hp} (s : Sub M H) {p : Addr} {o : HO} (h : H p = none) : Ext M H (upd M p o) (upd H p o) :=
  ⟨.upd h, .upd (s.none h), fun a u e => by
    by_cases q : a = p
    · subst q; rw [upd_same] at e ⊢; exact e
    · rw [upd_ne q] at e ⊢; exact s _ _ e, fun a e => by
    by_cases q : a = p
    · subst q; exact .inr h
    · rw [upd_ne q] at e; exact .inl e⟩
section
variable {g : Gl0} {G : Gh} {e e' : En} {M M' H H' : Hp} {σ σ' : L2.St}
theorem Ext.none (x : Ext M H M' H') {a : Addr} {o : HO} (h : H a = some o) (n : M a = none) : M' a = none := by
  cases w : M' a with
  | none => rfl
  | some u =>
    rcases x.fresh a (by rw [w]; exact Option.some_ne_none u) with y | y
    · exact absurd n y
    · rw [h] at y; cases y
theorem SlotR.ext (x : Ext M H M' H') {v : Option V} {s : Slot} (h : SlotR g G M H v s) : SlotR g G M' H' v s := by
  cases s with
  | unb => trivial
  | sh d => obtain ⟨u, e, r⟩ := h; exact ⟨u, e, r.mono x.mono⟩
  | ow d =>
    obtain ⟨a, o, e, q, r, n, z⟩ := h
    exact ⟨a, o, e, x.keep _ _ q, r.mono x.mono, x.none q n, z⟩
  | bx d =>
    obtain ⟨a, o, e, q, r, n, z⟩ := h
    exact ⟨a, o, e, x.keep _ _ q, r.mono x.mono, x.none q n, z⟩
  | ro d =>
    obtain ⟨u, e, r⟩ := h
    refine ⟨u, e, ?_⟩
    rcases r with r | ⟨a, o, z, q, b, r⟩
    · exact .inl (r.mono x.mono)
    · exact .inr ⟨a, o, z, x.keep _ _ q, b, r.mono x.mono⟩
theorem Rel.h0none (r : Rel g G e M σ H) {p : Addr} (h : H p = none) : G.H0 p = none := by
  cases q : G.H0 p with
  | none => rfl
  | some o => exact absurd h (r.live p (by rw [q]; exact Option.some_ne_none o))
theorem Rel.ext (r : Rel g G e M σ H) (x : Ext M H M' H') : Rel g G e M' σ H' where
  sub := x.sub
  keep := fun a o h b => x.keep _ _ (r.keep a o h b)
  live := fun a h => by
    cases q : H a with
    | none => exact absurd q (r.live a h)
    | some o => rw [x.keep _ _ q]; exact Option.some_ne_none o
  fresh := fun a h => by
    rcases x.fresh a h with h | h
    · exact r.fresh a h
    · exact .inr (.inl (r.h0none h))
  base := r.base.trans x.mono
  slot := fun i s v h1 h2 => (r.slot i s v h1 h2).ext x
  len := r.len
  dist := r.dist
  lent := fun a h => by
    refine ⟨fun q => ?_, (r.lent a h).2⟩
    cases q2 : H a with
    | none => exact (r.lent a h).1 q2
    | some o => rw [x.keep _ _ q2] at q; cases q
  bl := fun a h => by
    cases q : H a with
    | none => exact absurd q (r.bl a h)
    | some o => rw [x.keep _ _ q]; exact Option.some_ne_none o
theorem Rel.at (r : Rel g G e M σ H) {i : Nat} {s : Slot} (h : e[i]? = some s) : ∃ x, σ[i]? = some x ∧ SlotR g G M H x s := by
  have hl : i < σ.length := by rw [← r.len]; exact (List.getElem?_eq_some_iff.mp h).1
  exact ⟨_, List.getElem?_eq_getElem hl, r.slot i s _ h (List.getElem?_eq_getElem hl)⟩
theorem Rel.owned (r : Rel g G e M σ H) {i : Nat} {a : Addr} (h : Owns e σ i a) : M a = none ∧ (G.H0 a = none ∨ G.ex a ∨ G.bx = some a) ∧ ∃ o, H a = some o := by
  obtain ⟨s, h1, h2, h3⟩ := h
  have q := r.slot i s _ h1 h3
  cases s with
  | ow d =>
    obtain ⟨a', o', e', q', _, n', z'⟩ := q
    cases e'
    exact ⟨n', z'.imp id .inl, o', q'⟩
  | bx d =>
    obtain ⟨a', o', e', q', _, n', z'⟩ := q
    cases e'
    exact ⟨n', .inr (.inr z'), o', q'⟩
  | _ => exact h2.elim
def VR (g : Gl0) (G : Gh) (e : En) (M : Hp) (σ : L2.St) (H : Hp) (x : V) (v : Vl) : Prop :=
  match v.nw with
  | false => Rep g M x v.d
  | true => ∃ p o, x = .ref p ∧ H p = some o ∧ RepO g M p o v.d ∧ M p = none ∧ G.H0 p = none ∧ ¬ G.B p ∧ ¬ G.ro p ∧ ∀ i, ¬ Owns e σ i p
theorem Rel.upM (r : Rel g G e M σ H) {p : Addr} {o : HO} (hp : H p = some o) (mp : M p = none) (h0 : G.H0 p = none) (ne : ∀ i, ¬ Owns e σ i p) : Rel g G e (upd M p o) σ H := by
  have sM : Sub M (upd M p o) := .upd mp
  have sH : Sub (upd M p o) H := fun a u q => by
    by_cases z : a = p
    · subst z; rw [upd_same] at q; cases q; exact hp
    · rw [upd_ne z] at q; exact r.sub _ _ q
  refine ⟨sH, r.keep, r.live, fun a q => ?_, r.base.trans sM, fun i s v h1 h2 => ?_, r.len, r.dist, r.lent, r.bl⟩
  · by_cases z : a = p
    · subst z; exact .inr (.inl h0)
    · rw [upd_ne z] at q; exact r.fresh a q
  · have q := r.slot i s v h1 h2
    cases s with
    | unb => trivial
    | sh d => obtain ⟨u, e, r⟩ := q; exact ⟨u, e, r.mono sM⟩
    | ow d =>
      obtain ⟨a, o', e1, q, r, n, z⟩ := q
      refine ⟨a, o', e1, q, r.mono sM, ?_, z⟩
      rw [upd_ne]
      · exact n
      · rintro rfl
        exact ne i ⟨_, h1, trivial, by rw [h2, e1]⟩
    | bx d =>
      obtain ⟨a, o', e1, q, r, n, z⟩ := q
      refine ⟨a, o', e1, q, r.mono sM, ?_, z⟩
      rw [upd_ne]
      · exact n
      · rintro rfl
        exact ne i ⟨_, h1, trivial, by rw [h2, e1]⟩
    | ro d =>
      obtain ⟨u, e1, r⟩ := q
      refine ⟨u, e1, ?_⟩
      rcases r with r | ⟨a, o, z, q, b, r⟩
      · exact .inl (r.mono sM)
      · exact .inr ⟨a, o, z, q, b, r.mono sM⟩
theorem Rel.freeze (r : Rel g G e M σ H) {x : V} {v : Vl} (h : VR g G e M σ H x v) : ∃ M', Sub M M' ∧ Rel g G e M' σ H ∧ Rep g M' x v.d := by
  obtain ⟨d, b⟩ := v
  cases b with
  | false => exact ⟨M, .refl, r, h⟩
  | true =>
    obtain ⟨p, o, rfl, hp, ro, mp, h0, nb, nr, ne⟩ := h
    have sM : Sub M (upd M p o) := .upd mp
    exact ⟨upd M p o, sM, r.upM hp mp h0 ne, (ro.mono sM).rep upd_same⟩
def Gh.here (G : Gh) (e : En) (M : Hp) (σ : L2.St) (H : Hp) : Gh := ⟨H, M, G.bx, fun a => G.ex a ∨ ∃ i, OwnsW e σ i a, G.ro⟩
theorem Rel.ownsW (r : Rel g G e M σ H) {i : Nat} {a : Addr} (h : Owns e σ i a) : OwnsW e σ i a ∨ G.bx = some a := by
  obtain ⟨s, h1, h2, h3⟩ := h
  have q := r.slot i s _ h1 h3
  cases s with
  | ow d => exact .inl ⟨d, h1, h3⟩
  | bx d =>
    obtain ⟨a', o', e', q', _, n', z'⟩ := q
    cases e'
    exact .inr z'
  | _ => exact h2.elim
theorem OwnsW.owns {i : Nat} {a : Addr} (h : OwnsW e σ i a) : Owns e σ i a := let ⟨d, h1, h2⟩ := h; ⟨_, h1, trivial, h2⟩
theorem Rel.hereB (r : Rel g G e M σ H) {a : Addr} : (G.here e M σ H).B a ↔ G.B a ∨ ∃ i, Owns e σ i a := by
  constructor
  · rintro (h | h | ⟨i, h⟩)
    · exact .inl (.inl h)
    · exact .inl (.inr h)
    · exact .inr ⟨i, h.owns⟩
  · rintro ((h | h) | ⟨i, h⟩)
    · exact .inl h
    · exact .inr (.inl h)
    · rcases r.ownsW h with h | h
      · exact .inr (.inr ⟨i, h⟩)
      · exact .inl h
theorem Rel.here (r : Rel g G e M σ H) : Rel g (G.here e M σ H) e M σ H where
  sub := r.sub
  keep := fun a o h _ => h
  live := fun a h => h
  fresh := fun a h => .inl h
  base := .refl
  slot := fun i s x h1 h2 => by
    have q := r.slot i s x h1 h2
    cases s with
    | unb => trivial
    | sh d => exact q
    | ow d =>
      obtain ⟨a, o, e1, q, rr, n, z⟩ := q
      exact ⟨a, o, e1, q, rr, n, .inr (.inr ⟨i, _, h1, by rw [h2, e1]⟩)⟩
    | bx d => exact q
    | ro d => exact q
  len := r.len
  dist := r.dist
  lent := fun a h => by
    refine ⟨(r.lent a h).1, fun y => ?_, (r.lent a h).2.2⟩
    rcases r.hereB.mp y with y | ⟨j, y⟩
    · exact (r.lent a h).2.1 y
    · exact (r.lent a h).2.2 j y
  bl := fun a h => by
    rcases r.hereB.mp h with y | ⟨j, y⟩
    · exact r.bl a y
    · obtain ⟨_, _, o, h⟩ := r.owned y
      rw [h]; exact Option.some_ne_none o
theorem Rel.back (r : Rel g G e M σ H) (r' : Rel g (G.here e M σ H) e' M' σ' H') : Rel g G e' M' σ' H' where
  sub := r'.sub
  keep := fun a o h b => r'.keep a o (r.keep a o h b) fun z => by
    rcases r.hereB.mp z with z | ⟨j, z⟩
    · exact b z
    · obtain ⟨_, w, _⟩ := r.owned z
      rcases w with w | w | w
      · rw [h] at w; cases w
      · exact b (.inr w)
      · exact b (.inl w)
  live := fun a h => r'.live a (r.live a h)
  fresh := fun a h => by
    rcases r'.fresh a h with h | h | h | ⟨i, d, h1, h2⟩
    · exact r.fresh a h
    · exact .inr (.inl (r.h0none h))
    · exact .inr (.inr h)
    · obtain ⟨a', o', e', q', _, n', z'⟩ := r.slot i _ _ h1 h2
      cases e'
      exact .inr z'
  base := r.base.trans r'.base
  slot := fun i s x h1 h2 => by
    have q := r'.slot i s x h1 h2
    cases s with
    | unb => trivial
    | sh d => exact q
    | ow d =>
      obtain ⟨a, o, e1, q, rr, n, z⟩ := q
      refine ⟨a, o, e1, q, rr, n, ?_⟩
      rcases z with z | z | ⟨j, d', h1, h2⟩
      · exact .inl (r.h0none z)
      · exact .inr z
      · obtain ⟨a', o', e', q', _, n', z'⟩ := r.slot j _ _ h1 h2
        cases e'
        exact z'
    | bx d => exact q
    | ro d => exact q
  len := r'.len
  dist := r'.dist
  lent := fun a h => ⟨(r'.lent a h).1, fun y => (r'.lent a h).2.1 (r.hereB.mpr (.inl y)), (r'.lent a h).2.2⟩
  bl := fun a h => r'.bl a (r.hereB.mpr (.inl h))
theorem VR.back (r : Rel g G e M σ H) {x : V} {v : Vl} (h : VR g (G.here e M σ H) e' M' σ' H' x v) : VR g G e' M' σ' H' x v := by
  obtain ⟨d, b⟩ := v
  cases b with
  | false => exact h
  | true =>
    obtain ⟨p, o, rfl, hp, ro, mp, h0, nb, nr, ne⟩ := h
    exact ⟨p, o, rfl, hp, ro, mp, r.h0none h0, fun y => nb (r.hereB.mpr (.inl y)), nr, ne⟩
theorem VR.stay (r : Rel g G e M σ H) {p : Addr} {d : D} (h : VR g G e M σ H (.ref p) (nw d)) (r' : Rel g (G.here e M σ H) e' M' σ' H') (sM : Sub M M') : VR g G e' M' σ' H' (.ref p) (nw d) := by
  obtain ⟨q, o, e1, hp, ro, mp, h0, nb, nr, ne⟩ := h
  cases e1
  have nB : ¬ (G.here e M σ H).B p := fun y => by
    rcases r.hereB.mp y with y | ⟨j, y⟩
    · exact nb y
    · exact ne j y
  have hp' : H' p = some o := r'.keep p o hp nB
  refine ⟨p, o, rfl, hp', ro.mono sM, ?_, h0, nb, nr, fun i y => ?_⟩
  · cases w : M' p with
    | none => rfl
    | some u =>
      rcases r'.fresh p (by rw [w]; exact Option.some_ne_none u) with y | y | y
      · exact absurd mp y
      · have y' : H p = none := y
        rw [hp] at y'; cases y'
      · exact absurd (.inr y) nB
  · rcases (r'.owned y).2.1 with z | z | z
    · have z' : H p = none := z
      rw [hp] at z'; cases z'
    · exact nB (.inr z)
    · exact nB (.inl z)
def OpdR (g : Gl0) (M : Hp) (σ : L2.St) (x : V) : Opd → Prop
  | .sl i => σ[i]? = some (some x)
  | .dt d => Rep g M x d
theorem Rel.res (r : Rel g G e M σ H) {o : Opd} {d : D} {x : V} (h : res e o = some d) (q : OpdR g M σ x o) : PRep g M H x d := by
  cases o with
  | dt d' => cases h; exact .inl q
  | sl i =>
    have h' : (match e[i]? with | some s => s.look | none => none) = some d := h
    cases hs : e[i]? with
    | none => rw [hs] at h'; cases h'
    | some s =>
      rw [hs] at h'
      have w := r.slot i s _ hs q
      cases s with
      | unb => cases h'
      | sh d' => cases h'; obtain ⟨v, e1, rr⟩ := w; cases e1; exact .inl rr
      | ow d' => cases h'; obtain ⟨a, o, e1, q1, rr, _⟩ := w; cases e1; exact .inr ⟨a, o, rfl, q1, rr⟩
      | bx d' => cases h'; obtain ⟨a, o, e1, q1, rr, _⟩ := w; cases e1; exact .inr ⟨a, o, rfl, q1, rr⟩
      | ro d' =>
        cases h'
        obtain ⟨v, e1, rr⟩ := w
        cases e1
        rcases rr with rr | ⟨a, o, z, q1, _, rr⟩
        · exact .inl rr
        · exact .inr ⟨a, o, z, q1, rr⟩
inductive OpdRs (g : Gl0) (M : Hp) (σ : L2.St) : List V → List Opd → Prop
  | nil : OpdRs g M σ [] []
  | cons {x : V} {xs : List V} {o : Opd} {os : List Opd} : OpdR g M σ x o → OpdRs g M σ xs os → OpdRs g M σ (x :: xs) (o :: os)
theorem OpdR.mono {x : V} {o : Opd} (s : Sub M M') (h : OpdR g M σ x o) : OpdR g M' σ x o := by
  cases o with
  | sl i => exact h
  | dt d => exact Rep.mono s h
theorem OpdRs.mono (s : Sub M M') : ∀ {xs : List V} {os : List Opd}, OpdRs g M σ xs os → OpdRs g M' σ xs os
  | _, _, .nil => .nil
  | _, _, .cons a b => .cons (a.mono s) (OpdRs.mono s b)
theorem Rel.ress (r : Rel g G e M σ H) : ∀ {xs : List V} {os : List Opd} {ds : List D}, Ev.ress e os = some ds → OpdRs g M σ xs os → PReps g M H xs ds
  | _, [], ds, h, q => by
    cases q
    cases h
    exact .nil
  | _, o :: os, ds, h, q => by
    cases q with
    | cons q1 q2 =>
      have h' : (match Ev.res e o, Ev.ress e os with | some d, some ds => some (d :: ds) | _, _ => none) = some ds := h
      cases h1 : Ev.res e o with
      | none => rw [h1] at h'; cases h'
      | some d =>
        cases h2 : Ev.ress e os with
        | none => rw [h1, h2] at h'; cases h'
        | some ds' =>
          rw [h1, h2] at h'
          cases h'
          exact .cons (r.res h1 q1) (r.ress h2 q2)
end
end Ev
set_option Elab.async false
set_option linter.all false
set_option autoImplicit false
set_option maxRecDepth 100000
namespace Ev
open PySem L2
section
variable {g : Gl0} {G : Gh} {e e' : En} {M M' H H' : Hp} {σ σ' : L2.St}
theorem owns_set {i j : Nat} {s' : Slot} {x' : Option V} {a : Addr} (hl : e.length = σ.length) (h : Owns (e.set i s') (σ.set i x') j a) : (j = i ∧ s'.own ∧ x' = some (.ref a)) ∨ (j ≠ i ∧ Owns e σ j a) := by
  obtain ⟨s, h1, h2, h3⟩ := h
  by_cases hj : j = i
  · subst hj
    have hlt : j < e.length := by
      have := (List.getElem?_eq_some_iff.mp h1).1
      simpa using this
    rw [List.getElem?_set_self hlt] at h1
    rw [List.getElem?_set_self (by omega)] at h3
    cases h1; cases h3
    exact .inl ⟨rfl, h2, rfl⟩
  · rw [List.getElem?_set_ne (fun z => hj z.symm)] at h1 h3
    exact .inr ⟨hj, s, h1, h2, h3⟩
theorem owns_setE {i j : Nat} {s s' : Slot} {a : Addr} (hs : e[i]? = some s) (h : Owns (e.set i s') σ j a) (ho : s'.own → s.own) : Owns e σ j a := by
  obtain ⟨t, h1, h2, h3⟩ := h
  by_cases hj : j = i
  · subst hj
    have hlt : j < e.length := (List.getElem?_eq_some_iff.mp hs).1
    rw [List.getElem?_set_self hlt] at h1
    cases h1
    exact ⟨s, hs, ho h2, h3⟩
  · rw [List.getElem?_set_ne (fun z => hj z.symm)] at h1
    exact ⟨t, h1, h2, h3⟩
def Vl.slot (v : Vl) : Slot := if v.nw = true then .ow v.d else .sh v.d
theorem Rel.put (r : Rel g G e M σ H) (i : Nat) (s' : Slot) (x' : Option V) (h1 : SlotR g G M H x' s')
    (h2 : s'.own → ∀ a, x' = some (.ref a) → ¬ G.ro a ∧ ∀ j, j ≠ i → ¬ Owns e σ j a) : Rel g G (e.set i s') M (σ.set i x') H where
  sub := r.sub
  keep := r.keep
  live := r.live
  fresh := r.fresh
  base := r.base
  slot := fun j s x q1 q2 => by
    by_cases hj : j = i
    · subst hj
      have hlt : j < e.length := by
        have := (List.getElem?_eq_some_iff.mp q1).1
        simpa using this
      rw [List.getElem?_set_self hlt] at q1
      rw [List.getElem?_set_self (by have := r.len; omega)] at q2
      cases q1; cases q2
      exact h1
    · rw [List.getElem?_set_ne (fun z => hj z.symm)] at q1 q2
      exact r.slot j s x q1 q2
  len := by simp [r.len]
  dist := fun j k a hjk q1 q2 => by
    rcases owns_set r.len q1 with ⟨rfl, o1, e1⟩ | ⟨n1, o1⟩ <;> rcases owns_set r.len q2 with ⟨rfl, o2, e2⟩ | ⟨n2, o2⟩
    · exact hjk rfl
    · exact (h2 o1 a e1).2 k n2 o2
    · exact (h2 o2 a e2).2 j n1 o1
    · exact r.dist j k a hjk o1 o2
  lent := fun a h => ⟨(r.lent a h).1, (r.lent a h).2.1, fun j q => by
    rcases owns_set r.len q with ⟨rfl, o1, e1⟩ | ⟨n1, o1⟩
    · exact (h2 o1 a e1).1 h
    · exact (r.lent a h).2.2 j o1⟩
  bl := r.bl
theorem Rel.setV (r : Rel g G e M σ H) {i : Nat} {x : V} {v : Vl} (h : VR g G e M σ H x v) : Rel g G (e.set i v.slot) M (σ.set i (some x)) H := by
  obtain ⟨d, b⟩ := v
  cases b with
  | false => exact r.put i (.sh d) (some x) ⟨x, rfl, h⟩ (fun z => z.elim)
  | true =>
    obtain ⟨p, o, rfl, hp, ro, mp, h0, nb, nr, ne⟩ := h
    exact r.put i (.ow d) _ ⟨p, o, rfl, hp, ro, mp, .inl h0⟩ (fun _ a z => by cases z; exact ⟨nr, fun j _ => ne j⟩)
theorem Rel.setSh (r : Rel g G e M σ H) {i : Nat} {x : V} {d : D} (h : Rep g M x d) : Rel g G (e.set i (.sh d)) M (σ.set i (some x)) H :=
  r.setV (v := fz d) h
theorem Rel.setUnb (r : Rel g G e M σ H) (i : Nat) (x : Option V) : Rel g G (e.set i .unb) M (σ.set i x) H :=
  r.put i .unb x trivial (fun z => z.elim)
theorem set_get {α : Type} {l : List α} {i : Nat} {a : α} (h : l[i]? = some a) : l.set i a = l := by
  apply List.ext_getElem?
  intro j
  by_cases hj : i = j
  · subst hj; rw [List.getElem?_set_self (List.getElem?_eq_some_iff.mp h).1, h]
  · rw [List.getElem?_set_ne hj]
theorem Rel.share (r : Rel g G e M σ H) {i : Nat} {d : D} (h : e[i]? = some (.ow d)) : ∃ M' x, Sub M M' ∧ σ[i]? = some (some x) ∧ Rel g G (e.set i (.sh d)) M' σ H ∧ Rep g M' x d := by
  obtain ⟨x, h1, a, o, rfl, ha, ro, ma, z⟩ := r.at h
  have own : Owns e σ i a := ⟨_, h, trivial, h1⟩
  have sM : Sub M (upd M a o) := .upd ma
  have sH : Sub (upd M a o) H := fun b u q => by
    by_cases w : b = a
    · subst w; rw [upd_same] at q; cases q; exact ha
    · rw [upd_ne w] at q; exact r.sub _ _ q
  have rep : Rep g (upd M a o) (.ref a) d := (ro.mono sM).rep upd_same
  have hlt : i < e.length := (List.getElem?_eq_some_iff.mp h).1
  have r1 : Rel g G (e.set i (.sh d)) M (σ.set i (some (.ref a))) H → True := fun _ => trivial
  have old : ∀ {j : Nat} {b : Addr}, Owns (e.set i (.sh d)) σ j b → j ≠ i ∧ Owns e σ j b := fun {j b} q => by
    have q' : Owns (e.set i (.sh d)) (σ.set i (some (.ref a))) j b := by rw [set_get h1]; exact q
    rcases owns_set r.len q' with ⟨_, z, _⟩ | z
    · exact z.elim
    · exact z
  refine ⟨upd M a o, .ref a, sM, h1, ⟨sH, r.keep, r.live, fun b q => ?_, r.base.trans sM, fun j s x q1 q2 => ?_, by simp [r.len], fun j k b hjk o1 o2 => r.dist j k b hjk (old o1).2 (old o2).2, fun b h => ⟨(r.lent b h).1, (r.lent b h).2.1, fun j q => (r.lent b h).2.2 j (old q).2⟩, r.bl⟩, rep⟩
  · by_cases w : b = a
    · subst w; exact .inr z
    · rw [upd_ne w] at q; exact r.fresh b q
  · by_cases hj : j = i
    · subst hj
      rw [List.getElem?_set_self hlt] at q1
      cases q1
      rw [h1] at q2; cases q2
      exact ⟨_, rfl, rep⟩
    · rw [List.getElem?_set_ne (fun z => hj z.symm)] at q1
      have q := r.slot j s x q1 q2
      have na : ∀ b, s.own → x = some (.ref b) → b ≠ a := fun b so xe w => by
        subst w
        exact r.dist j i b hj ⟨s, q1, so, by rw [q2, xe]⟩ own
      cases s with
      | unb => trivial
      | sh d => obtain ⟨u, e, r⟩ := q; exact ⟨u, e, r.mono sM⟩
      | ow d =>
        obtain ⟨b, o', e1, q, r, n, z⟩ := q
        exact ⟨b, o', e1, q, r.mono sM, by rw [upd_ne (na b trivial e1)]; exact n, z⟩
      | bx d =>
        obtain ⟨b, o', e1, q, r, n, z⟩ := q
        exact ⟨b, o', e1, q, r.mono sM, by rw [upd_ne (na b trivial e1)]; exact n, z⟩
      | ro d =>
        obtain ⟨u, e1, r⟩ := q
        refine ⟨u, e1, ?_⟩
        rcases r with r | ⟨a, o, z, q, b, r⟩
        · exact .inl (r.mono sM)
        · exact .inr ⟨a, o, z, q, b, r.mono sM⟩
theorem Rel.mut (r : Rel g G e M σ H) {i : Nat} {s s' : Slot} {a : Addr} {o' : HO} {d' : D} (h : e[i]? = some s) (ha : σ[i]? = some (some (.ref a))) (hs : (∃ d, s = .ow d ∧ s' = .ow d') ∨ (∃ d, s = .bx d ∧ s' = .bx d')) (ro : RepO g M a o' d') :
    Rel g G (e.set i s') M σ (upd H a o') := by
  have so : s.own := by rcases hs with ⟨d, rfl, _⟩ | ⟨d, rfl, _⟩ <;> trivial
  have own : Owns e σ i a := ⟨s, h, so, ha⟩
  have hlt : i < e.length := (List.getElem?_eq_some_iff.mp h).1
  obtain ⟨ma, za, o0, h0⟩ := r.owned own
  have old : ∀ {j : Nat} {b : Addr}, Owns (e.set i s') σ j b → Owns e σ j b := fun {j b} q => owns_setE h q fun _ => so
  have ne : ∀ b o, M b = some o → b ≠ a := fun b o q z => by subst z; rw [ma] at q; cases q
  refine ⟨fun b o q => by rw [upd_ne (ne b o q)]; exact r.sub b o q, fun b o q nb => ?_, fun b q => ?_, r.fresh, r.base, fun j t x q1 q2 => ?_, by simp [r.len], fun j k b hjk o1 o2 => r.dist j k b hjk (old o1) (old o2), fun b h => ⟨?_, (r.lent b h).2.1, fun j q => (r.lent b h).2.2 j (old q)⟩, fun b q => ?_⟩
  · rw [upd_ne]
    · exact r.keep b o q nb
    · rintro rfl
      rcases za with z | z | z
      · rw [q] at z; cases z
      · exact nb (.inr z)
      · exact nb (.inl z)
  · by_cases w : b = a
    · subst w; rw [upd_same]; exact Option.some_ne_none _
    · rw [upd_ne w]; exact r.live b q
  · by_cases hj : j = i
    · subst hj
      rw [List.getElem?_set_self hlt] at q1
      cases q1
      rw [ha] at q2; cases q2
      have q := r.slot j s _ h ha
      rcases hs with ⟨d, rfl, rfl⟩ | ⟨d, rfl, rfl⟩
      · obtain ⟨b, o, e1, _, _, n, z⟩ := q
        cases e1
        exact ⟨a, o', rfl, upd_same, ro, n, z⟩
      · obtain ⟨b, o, e1, _, _, n, z⟩ := q
        cases e1
        exact ⟨a, o', rfl, upd_same, ro, n, z⟩
    · rw [List.getElem?_set_ne (fun z => hj z.symm)] at q1
      have q := r.slot j t x q1 q2
      cases t with
      | unb => trivial
      | sh d => exact q
      | ow d =>
        obtain ⟨b, o, e1, q, rr, n, z⟩ := q
        refine ⟨b, o, e1, ?_, rr, n, z⟩
        rw [upd_ne]
        · exact q
        · rintro rfl; exact r.dist j i b hj ⟨_, q1, trivial, by rw [q2, e1]⟩ own
      | bx d =>
        obtain ⟨b, o, e1, q, rr, n, z⟩ := q
        refine ⟨b, o, e1, ?_, rr, n, z⟩
        rw [upd_ne]
        · exact q
        · rintro rfl; exact r.dist j i b hj ⟨_, q1, trivial, by rw [q2, e1]⟩ own
      | ro d =>
        obtain ⟨u, e1, q⟩ := q
        refine ⟨u, e1, ?_⟩
        rcases q with q | ⟨b, o, z, q, nb, rr⟩
        · exact .inl q
        · refine .inr ⟨b, o, z, ?_, nb, rr⟩
          rw [upd_ne]
          · exact q
          · rintro rfl
            exact (r.lent b nb).2.2 i own
  · by_cases w : b = a
    · subst w; exact absurd own ((r.lent b h).2.2 i)
    · rw [upd_ne w]; exact (r.lent b h).1
  · by_cases w : b = a
    · subst w; rw [upd_same]; exact Option.some_ne_none _
    · rw [upd_ne w]; exact r.bl b q
end
def ExR (g : Gl0) (M : Hp) (cls : Value) (d : Option Addr) (x : Exn) : Prop := ∃ C dd fs, cls = .ref C ∧ g.cl x.cls = some C ∧ d = some dd ∧ M dd = some (.xd fs) ∧ RepF g M fs x.fs
section
variable {α β γ δ : Type}
abbrev RR (α β : Type) := Gh → En → Hp → L2.St → Hp → β → α → Prop
def tPost (g : Gl0) (W : WX) (R : RR α β) (G : Gh) (σ : L2.St) (Q : β → Hp → Prop) : Out α → Prop
  | .ok a e' => ∀ b M' H', Rel g G e' M' σ H' → R G e' M' σ H' b a → Q b H'
  | .exc x e' => ∀ cls d M' H', Rel g G e' M' σ H' → ExR g M' cls d x → W cls d σ H'
  | .stuck => False
def tG (g : Gl0) (W : WX) (R : RR α β) (f : Sx α) : L2.St → Hp → (β → Hp → Prop) → Prop := fun σ H Q => ∃ G e M, Rel g G e M σ H ∧ tPost g W R G σ Q (f e)
def tE (g : Gl0) (W : WX) (f : Sx Vl) : TE := tG g W (VR g) f
def tO (g : Gl0) (W : WX) (f : Sx Opd) : TE := tG g W (fun _ _ M σ _ x o => OpdR g M σ x o) f
def tT (g : Gl0) (W : WX) (f : Sx Bool) : TT := tG g W (fun _ _ _ _ _ b a => b = a) f
def tAs (g : Gl0) (W : WX) (f : Sx (List Opd)) : TA := tG g W (fun _ _ M σ _ x o => OpdRs g M σ x o) f
variable {g : Gl0} {W : WX} {G : Gh} {e : En} {M H : Hp} {σ : L2.St} {R1 : RR α β} {R2 : RR γ δ} {Q : δ → Hp → Prop} {Q1 : β → Hp → Prop}
theorem tG_bind {m : Sx α} {f : α → En → Out γ} (r : Rel g G e M σ H) (h : tPost g W R2 G σ Q ((m e).bind f))
    (k : ∀ a e1 b1 M1 H1, m e = .ok a e1 → Rel g (G.here e M σ H) e1 M1 σ H1 → R1 (G.here e M σ H) e1 M1 σ H1 b1 a → tPost g W R2 G σ Q (f a e1) → Q1 b1 H1) : tG g W R1 m σ H Q1 := by
  refine ⟨G.here e M σ H, e, M, r.here, ?_⟩
  cases q : m e with
  | ok a e1 =>
    rw [q] at h
    exact fun b M1 H1 r1 x1 => k a e1 b M1 H1 q r1 x1 h
  | exc x e1 =>
    rw [q] at h
    exact fun cls d M1 H1 r1 x1 => h cls d M1 H1 (r.back r1) x1
  | stuck => rw [q] at h; exact h
theorem tG_last {m : Sx α} {f : α → En → Out γ} (r : Rel g G e M σ H) (h : tPost g W R2 G σ Q ((m e).bind f))
    (k : ∀ a e1 b1 M1 H1, m e = .ok a e1 → Rel g G e1 M1 σ H1 → Sub M M1 → R1 (G.here e M σ H) e1 M1 σ H1 b1 a → tPost g W R2 G σ Q (f a e1) → Q1 b1 H1) : tG g W R1 m σ H Q1 :=
  tG_bind r h fun a e1 b1 M1 H1 q r1 x1 h1 => k a e1 b1 M1 H1 q (r.back r1) r1.base x1 h1
end
section
variable {X : Cx}
theorem PE_imp {e : Expr} {t t' : TE} (h : PE X e t) (k : ∀ σ H Q, t' σ H Q → t σ H Q) : PE X e t' := ⟨fun pins s σ H Q I w => h.run pins s σ H Q I (k σ H Q w)⟩
theorem PT_imp {e : Expr} {t t' : TT} (h : PT X e t) (k : ∀ σ H Q, t' σ H Q → t σ H Q) : PT X e t' := ⟨fun pins s σ H Q I w => h.run pins s σ H Q I (k σ H Q w)⟩
theorem PW_imp {e : Expr} {t t' : TT} (h : PW X e t) (k : ∀ σ H Q, t' σ H Q → t σ H Q) : PW X e t' := ⟨fun wh pins s σ H Q I w => h.run wh pins s σ H Q I (k σ H Q w)⟩
theorem PA_imp {e : List Expr} {t t' : TA} (h : PA X e t) (k : ∀ σ H Q, t' σ H Q → t σ H Q) : PA X e t' := ⟨fun pos pins s σ H Q I w => h.run pos pins s σ H Q I (k σ H Q w)⟩
theorem PS_imp {e : Stmt} {t t' : TS} (h : PS X e t) (k : ∀ D σ H, t' D σ H → t D σ H) : PS X e t' := ⟨fun pins s σ H D I w => h.run pins s σ H D I (k D σ H w)⟩
theorem PSs_imp {e : List Stmt} {t t' : TS} (h : PSs X e t) (k : ∀ D σ H, t' D σ H → t D σ H) : PSs X e t' := ⟨fun pins s σ H D I w => h.run pins s σ H D I (k D σ H w)⟩
variable {g : Gl0} {W : WX}
theorem ve_name {i : Nat} {x : Str} {pos : Pos} (hN : X.N[i]? = some x) (hv : Vis X.env.scope x) (hd : (x == ("__debug__" : Str)) = false) (hcd : (x == ("__classdict__" : Str)) = false) : PE X (.Name x pos) (tE g W (sName i)) := by
  refine PE_imp (pe_var hN hv hd hcd) fun σ H Q ⟨G, e, M, r, h⟩ => ?_
  unfold sName at h
  cases hs : e[i]? with
  | none => rw [hs] at h; exact h.elim
  | some s =>
    rw [hs] at h
    cases s with
    | sh d =>
      obtain ⟨x, h1, v, rfl, q⟩ := r.at hs
      exact ⟨v, h1, h v M H r q⟩
    | ow d =>
      obtain ⟨M', x, sM, h1, r1, q⟩ := r.share hs
      exact ⟨x, h1, h x M' H r1 q⟩
    | _ => exact h.elim
theorem vo_name {i : Nat} {x : Str} {pos : Pos} (hN : X.N[i]? = some x) (hv : Vis X.env.scope x) (hd : (x == ("__debug__" : Str)) = false) (hcd : (x == ("__classdict__" : Str)) = false) : PE X (.Name x pos) (tO g W (oName i)) := by
  refine PE_imp (pe_var hN hv hd hcd) fun σ H Q ⟨G, e, M, r, h⟩ => ?_
  unfold oName at h
  cases hs : e[i]? with
  | none => rw [hs] at h; exact h.elim
  | some s =>
    rw [hs] at h
    obtain ⟨x, h1, q⟩ := r.at hs
    cases s with
    | unb => exact h.elim
    | sh d => obtain ⟨v, rfl, _⟩ := q; exact ⟨v, h1, h v M H r h1⟩
    | ow d => obtain ⟨a, o, rfl, _⟩ := q; exact ⟨_, h1, h _ M H r h1⟩
    | bx d => obtain ⟨a, o, rfl, _⟩ := q; exact ⟨_, h1, h _ M H r h1⟩
    | ro d => obtain ⟨v, rfl, _⟩ := q; exact ⟨v, h1, h v M H r h1⟩
theorem vo_val {e : Expr} {m : Sx Vl} (h : PE X e (tE g W m)) : PE X e (tO g W (oVal m)) := by
  refine PE_imp h fun σ H Q ⟨G, e, M, r, h⟩ => ?_
  refine tG_last r h fun v e1 x M1 H1 _ r1 _ x1 h1 => ?_
  obtain ⟨M2, s2, r2, q⟩ := r1.freeze (x1.back r)
  exact h1 x M2 H1 r2 q
theorem va_nil : PA X [] (tAs g W (sOps [])) := PA_imp pa_nil fun σ H Q ⟨G, e, M, r, h⟩ => h [] M H r .nil
theorem va_cons {e : Expr} {es : List Expr} {m : Sx Opd} {ms : List (Sx Opd)} (h : PE X e (tO g W m)) (hs : PA X es (tAs g W (sOps ms))) (hst : starEach (e :: es) X.env = (false, eval e X.env) :: starEach es X.env) : PA X (e :: es) (tAs g W (sOps (m :: ms))) := by
  refine PA_imp (pa_cons h hs hst) fun σ H Q ⟨G, e, M, r, h⟩ => ?_
  refine tG_last r h fun o e1 x M1 H1 _ r1 _ x1 h1 => ?_
  refine tG_bind r1 h1 fun os e2 xs M2 H2 _ r2 x2 h2 => ?_
  exact h2 (x :: xs) M2 H2 (r1.back r2) (.cons (x1.mono r2.base) x2)
end
end Ev
set_option Elab.async false
set_option linter.all false
set_option autoImplicit false
set_option maxRecDepth 100000
namespace Ev
open PySem L2
abbrev gl (X : Cx) (cl : Str → Option Addr) : Gl0 := ⟨X.prog, X.w, X.K, cl⟩
def PX (g : Gl0) (M H M' H' : Hp) (x : V) (v : Vl) : Prop :=
  match v.nw with
  | false => Rep g M' x v.d
  | true => ∃ p o, x = .ref p ∧ H p = none ∧ H' p = some o ∧ RepO g M' p o v.d
theorem Rel.px {g : Gl0} {G : Gh} {e : En} {M M' H H' : Hp} {σ : L2.St} {x : V} {v : Vl} (r : Rel g G e M σ H) (w : Ext M H M' H') (h : PX g M H M' H' x v) (hm : v.nw = true → ∀ p, x = .ref p → M' p = none) : Rel g G e M' σ H' ∧ VR g G e M' σ H' x v := by
  refine ⟨r.ext w, ?_⟩
  obtain ⟨d, b⟩ := v
  cases b with
  | false => exact h
  | true =>
    obtain ⟨p, o, rfl, hp, hp', ro⟩ := h
    refine ⟨p, o, rfl, hp', ro, hm rfl p rfl, r.h0none hp, fun z => r.bl p z hp, fun z => (r.lent p z).1 hp, fun i q => ?_⟩
    · obtain ⟨_, _, o', h'⟩ := r.owned q
      rw [hp] at h'; cases h'
def rPs (g : Gl0) (p : List D → Option Vl) : List V → Hp → VK → Prop := fun xs H Q => ∃ M ds v, Sub M H ∧ PReps g M H xs ds ∧ p ds = some v ∧
  ∀ z M' H', Ext M H M' H' → PX g M H M' H' z v → (v.nw = true → ∀ q, z = .ref q → M' q = none) → Q z H'
def rP2 (g : Gl0) (p : List D → Option Vl) : R2 := fun x y H Q => rPs g p [x, y] H Q
section
variable {g : Gl0} {p : List D → Option Vl} {H : Hp} {Q : VK}
theorem rPs.fz {M : Hp} {d : D} {z : V} (k : ∀ z M' H', Ext M H M' H' → PX g M H M' H' z (fz d) → ((fz d).nw = true → ∀ q, z = .ref q → M' q = none) → Q z H') (s : Sub M H) (r : Rep g M z d) : Q z H :=
  k z M H (.refl s) r (fun z => by cases z)
theorem rPs.nwl {M : Hp} {ds : List D} {vs : List V} (k : ∀ z M' H', Ext M H M' H' → PX g M H M' H' z (nw (.lst ds)) → ((nw (.lst ds)).nw = true → ∀ q, z = .ref q → M' q = none) → Q z H') (s : Sub M H) (r : Reps g M vs ds) (hz : ds.length ≤ sizeLine) :
    ∀ p, H p = none → Q (.ref p) (upd H p (.lst vs)) := fun p hp => k _ M _ (.new s hp) ⟨p, _, rfl, hp, upd_same, .lst r hz⟩ (fun _ q e => by cases e; exact s.none hp)
theorem rPs.tup {M : Hp} {ds : List D} {vs : List V} (k : ∀ z M' H', Ext M H M' H' → PX g M H M' H' z (Ev.fz (.tup ds)) → ((Ev.fz (.tup ds)).nw = true → ∀ q, z = .ref q → M' q = none) → Q z H') (s : Sub M H) (r : Reps g M vs ds) (hz : ds.length ≤ sizeLine) :
    NewT vs H Q := fun p ob ho hp => k _ (upd M p (.frz ob (.tup vs))) _ (.newM s hp) (show Rep g (upd M p (.frz ob (.tup vs))) (.ref p) (.tup ds) from .tup (.inl (.inr ⟨_, upd_same⟩)) (r.mono (.upd (s.none hp))) hz fun _ => ⟨_, _, upd_same, ho⟩) (fun e => by cases e)
end
theorem preps1 {g : Gl0} {M H : Hp} {xs : List V} {d : D} (h : PReps g M H xs [d]) : ∃ x, xs = [x] ∧ PRep g M H x d := by
  cases h with
  | cons a b => cases b; exact ⟨_, rfl, a⟩
theorem preps2 {g : Gl0} {M H : Hp} {x y : V} {d e : D} (h : PReps g M H [x, y] [d, e]) : PRep g M H x d ∧ PRep g M H y e := by
  cases h with
  | cons a b =>
    cases b with
    | cons b c => exact ⟨a, b⟩
theorem preps_len {g : Gl0} {M H : Hp} : ∀ {xs : List V} {ds : List D}, PReps g M H xs ds → xs.length = ds.length
  | _, _, .nil => rfl
  | _, _, .cons _ t => congrArg (· + 1) (preps_len t)
theorem strOk_append {a b : Str} (ha : PyData.strOk a = true) (hb : PyData.strOk b = true) : PyData.strOk (a ++ b) = true := by
  show ((a.cps ++ b.cps).all _) = true
  rw [Array.all_append]
  have ha' : a.cps.all (fun x => decide (x < 0x110000)) = true := ha
  have hb' : b.cps.all (fun x => decide (x < 0x110000)) = true := hb
  rw [ha', hb']; rfl
theorem len_append (a b : Str) : (a ++ b).length = a.length + b.length := by
  show (a.cps ++ b.cps).size = _
  rw [Array.size_append]; rfl
noncomputable def pAdd : List D → Option Vl
  | [.int i, .int j] => some (fz (.int (i + j)))
  | [.str a, .str b] => if a.length + b.length ≤ sizeLine then some (fz (.str (a ++ b))) else none
  | [.lst a, .lst b] => if a.length + b.length ≤ sizeLine then some (nw (.lst (a ++ b))) else none
  | [.tup a, .tup b] => if a.length + b.length ≤ sizeLine then some (fz (.tup (a ++ b))) else none
  | _ => none
section
variable {X : Cx} {cl : Str → Option Addr}
theorem op_addP : OpR X (binaryOp .Add) (rP2 (gl X cl) pAdd) := by
  intro pins s σ H x y v u Q I rx ry h
  obtain ⟨M, ds, w, sm, pr, hp, k⟩ := h
  unfold pAdd at hp
  split at hp
  · cases hp
    obtain ⟨a, b⟩ := preps2 pr
    exact op_add pins s σ H x y v u Q I rx ry ⟨_, _, a.int, b.int, rPs.fz k sm (.int _)⟩
  · split at hp
    · cases hp
      obtain ⟨a, b⟩ := preps2 pr
      obtain ⟨a, oa, _⟩ := a.str
      obtain ⟨b, ob, _⟩ := b.str
      exact op_add_str pins s σ H x y v u Q I rx ry ⟨_, _, a, b, by assumption, rPs.fz k sm (.str _ ⟨strOk_append oa ob, by rw [len_append]; assumption⟩)⟩
    · cases hp
  · split at hp
    · rename_i hl
      cases hp
      obtain ⟨a, b⟩ := preps2 pr
      obtain ⟨p, vs, rfl, hs, hr, _⟩ := a.lst sm
      obtain ⟨q, ws, rfl, hs', hr', _⟩ := b.lst sm
      exact op_cat pins s σ H _ _ v u Q I rx ry ⟨_, _, _, _, rfl, rfl, hs, hs', by rw [hr.length, hr'.length]; exact hl, rPs.nwl k sm (hr.append hr') (by rw [List.length_append]; exact hl)⟩
    · cases hp
  · split at hp
    · rename_i hl
      cases hp
      obtain ⟨a, b⟩ := preps2 pr
      obtain ⟨p, vs, rfl, hs, hr, ha, _⟩ := a.tup sm
      obtain ⟨q, ws, rfl, hs', hr', hb, _⟩ := b.tup sm
      refine op_catN pins s σ H _ _ v u Q I rx ry ⟨_, _, _, _, rfl, rfl, hs, hs', by rw [hr.length, hr'.length]; exact hl, fun z => ?_, fun _ z => ?_, fun _ _ => rPs.tup k sm (hr.append hr') (by rw [List.length_append]; exact hl)⟩
      · subst z
        cases hr
        exact rPs.fz k sm hb
      · subst z
        cases hr'
        rw [List.append_nil] at k
        exact rPs.fz k sm ha
    · cases hp
  · cases hp
end
def orP (p q : List D → Option Vl) : List D → Option Vl := fun ds => match p ds with
  | some v => some v
  | none => q ds
theorem orP_some {p q : List D → Option Vl} {ds : List D} {v : Vl} (h : orP p q ds = some v) : p ds = some v ∨ q ds = some v := by
  unfold orP at h
  cases hp : p ds with
  | none => rw [hp] at h; exact .inr h
  | some w => rw [hp] at h; exact .inl h
section
variable {X : Cx} {g : Gl0} {p q : List D → Option Vl}
theorem rPs_or {xs : List V} {H : Hp} {Q : VK} (h : rPs g (orP p q) xs H Q) : rPs g p xs H Q ∨ rPs g q xs H Q := by
  obtain ⟨M, ds, v, sm, pr, hp, k⟩ := h
  rcases orP_some hp with hp | hp
  · exact .inl ⟨M, ds, v, sm, pr, hp, k⟩
  · exact .inr ⟨M, ds, v, sm, pr, hp, k⟩
theorem opP_or {f : Value → Value → Sem Value} (a : OpR X f (rP2 g p)) (b : OpR X f (rP2 g q)) : OpR X f (rP2 g (orP p q)) := by
  intro pins s σ H x y v u Q I rx ry h
  rcases rPs_or h with h | h
  · exact a pins s σ H x y v u Q I rx ry h
  · exact b pins s σ H x y v u Q I rx ry h
theorem callP_or {f : Value} (a : CallR X f (rPs g p)) (b : CallR X f (rPs g q)) : CallR X f (rPs g (orP p q)) := by
  intro pins s σ H xs us Q I r h
  rcases rPs_or h with h | h
  · exact a pins s σ H xs us Q I r h
  · exact b pins s σ H xs us Q I r h
theorem ixP_or (a : IxR X (rP2 g p)) (b : IxR X (rP2 g q)) : IxR X (rP2 g (orP p q)) := by
  intro value slice pins s σ H x y v u Q I rx ry h hs
  rcases rPs_or h with h | h
  · exact a value slice pins s σ H x y v u Q I rx ry h hs
  · exact b value slice pins s σ H x y v u Q I rx ry h hs
end
def pInt2 (f : Int → Int → Int) : List D → Option Vl
  | [.int i, .int j] => some (fz (.int (f i j)))
  | _ => none
open Classical in
noncomputable def pInt2C (C : Int → Int → Prop) (f : Int → Int → Int) : List D → Option Vl
  | [.int i, .int j] => if C i j then some (fz (.int (f i j))) else none
  | _ => none
noncomputable def pSub := pInt2 (fun i j => i - j)
noncomputable def pMul := pInt2C CMul (fun i j => i * j)
noncomputable def pFdiv := pInt2C CDivN (fun i j => i.fdiv j)
noncomputable def pMod := pInt2C (fun _ j => j ≠ 0) (fun i j => i.fmod j)
noncomputable def pPow := pInt2C CPow (fun i j => i ^ j.toNat)
section
variable {X : Cx} {cl : Str → Option Addr}
theorem opP_int {f : Value → Value → Sem Value} {h : Int → Int → Int} (a : OpR X f (rI0 fun i j => .int (h i j))) : OpR X f (rP2 (gl X cl) (pInt2 h)) := by
  intro pins s σ H x y v u Q I rx ry q
  obtain ⟨M, ds, w, sm, pr, hp, k⟩ := q
  unfold pInt2 at hp
  split at hp
  · cases hp
    obtain ⟨q1, q2⟩ := preps2 pr
    exact a pins s σ H x y v u Q I rx ry ⟨_, _, q1.int, q2.int, rPs.fz k sm (.int _)⟩
  · cases hp
theorem opP_intC {f : Value → Value → Sem Value} {C : Int → Int → Prop} {h : Int → Int → Int} (a : OpR X f (rI C fun i j => .int (h i j))) : OpR X f (rP2 (gl X cl) (pInt2C C h)) := by
  intro pins s σ H x y v u Q I rx ry q
  obtain ⟨M, ds, w, sm, pr, hp, k⟩ := q
  unfold pInt2C at hp
  split at hp
  · split at hp
    · cases hp
      obtain ⟨q1, q2⟩ := preps2 pr
      exact a pins s σ H x y v u Q I rx ry ⟨_, _, q1.int, q2.int, by assumption, rPs.fz k sm (.int _)⟩
    · cases hp
  · cases hp
theorem op_subP : OpR X (binaryOp .Sub) (rP2 (gl X cl) pSub) := opP_int op_sub
theorem op_mulP : OpR X (binaryOp .Mult) (rP2 (gl X cl) pMul) := opP_intC op_mul
theorem op_fdivP : OpR X (binaryOp .FloorDiv) (rP2 (gl X cl) pFdiv) := opP_intC op_fdivN
theorem op_modP : OpR X (binaryOp .Mod) (rP2 (gl X cl) pMod) := opP_intC op_modN
theorem op_powP : OpR X (binaryOp .Pow) (rP2 (gl X cl) pPow) := opP_intC op_pow
end
def pCmp (f : Int → Int → Bool) (h : List Nat → List Nat → Bool) : List D → Option Vl
  | [.int i, .int j] => some (fz (.bl (f i j)))
  | [.str a, .str b] => some (fz (.bl (h a.cps.toList b.cps.toList)))
  | _ => none
def pLt := pCmp (fun i j => decide (i < j)) (fun a b => decide (a < b))
def pLe := pCmp (fun i j => decide (i ≤ j)) (fun a b => !decide (b < a))
def pGt := pCmp (fun i j => decide (j < i)) (fun a b => decide (b < a))
def pGe := pCmp (fun i j => decide (j ≤ i)) (fun a b => !decide (a < b))
section
variable {X : Cx} {cl : Str → Option Addr}
theorem opP_cmp {f : Value → Value → Sem Value} {h : Int → Int → Bool} {t : List Nat → List Nat → Bool} (a : OpR X f (rI0 fun i j => .bl (h i j))) (b : OpR X f (fun x y H Q => ∃ i j, x = .str i ∧ y = .str j ∧ Q (.bl (t i.cps.toList j.cps.toList)) H)) : OpR X f (rP2 (gl X cl) (pCmp h t)) := by
  intro pins s σ H x y v u Q I rx ry q
  obtain ⟨M, ds, w, sm, pr, hp, k⟩ := q
  unfold pCmp at hp
  split at hp
  · cases hp
    obtain ⟨q1, q2⟩ := preps2 pr
    exact a pins s σ H x y v u Q I rx ry ⟨_, _, q1.int, q2.int, rPs.fz k sm (.bl _)⟩
  · cases hp
    obtain ⟨q1, q2⟩ := preps2 pr
    exact b pins s σ H x y v u Q I rx ry ⟨_, _, q1.str.1, q2.str.1, rPs.fz k sm (.bl _)⟩
  · cases hp
theorem op_ltP : OpR X (compareOp .Lt) (rP2 (gl X cl) pLt) := opP_cmp op_lt op_lt_str
theorem op_leP : OpR X (compareOp .LtE) (rP2 (gl X cl) pLe) := opP_cmp op_le op_le_str
theorem op_gtP : OpR X (compareOp .Gt) (rP2 (gl X cl) pGt) := opP_cmp op_gt op_gt_str
end
def D.cmp (d : D) : Bool := d.dat && decide (d.py.depth ≤ 60)
def pyEq (a b : D) : Bool := PyData.eqv a.py b.py
def pEq : List D → Option Vl
  | [a, b] => if (a.cmp && b.cmp) = true then some (fz (.bl (pyEq a b))) else none
  | _ => none
def pNe : List D → Option Vl
  | [a, b] => if (a.cmp && b.cmp) = true then some (fz (.bl (!pyEq a b))) else none
  | _ => none
def D.flat : D → Bool
  | .non => true
  | .bl _ => true
  | .int _ => true
  | .str _ => true
  | _ => false
def pIn : List D → Option Vl
  | [x, .lst ds] => if (x.cmp && (D.lst ds).cmp) = true then some (fz (.bl (ds.any fun z => pyEq z x))) else none
  | [x, .tup ds] => if (x.flat && ds.all D.flat) = true then some (fz (.bl (ds.any fun z => pyEq z x))) else none
  | [.str x, .str z] => (match x.cps.toList with
    | [c] => some (fz (.bl (decide (c ∈ z.cps.toList))))
    | _ => none)
  | _ => none
def notV (v : Vl) : Option Vl := match v.d with
  | .bl b => some (fz (.bl (!b)))
  | _ => none
def pNotIn : List D → Option Vl := fun ds => (pIn ds).bind notV
theorem shaped_of {g : Gl0} {M : Hp} {x : V} {d : D} (r : Rep g M x d) (h : d.cmp = true) : SeqAt.shaped d.py = true := by
  unfold D.cmp at h
  rw [Bool.and_eq_true] at h
  unfold SeqAt.shaped
  rw [r.lay h.1, Bool.true_and]
  have := of_decide_eq_true h.2
  exact decide_eq_true (by omega)
theorem any_pys (x : D) : ∀ ds : List D, (D.pys ds).any (fun z => PyData.eqv z x.py) = ds.any fun z => pyEq z x
  | [] => rfl
  | d :: ds => by rw [D.pys, List.any_cons, List.any_cons, any_pys x ds]; rfl
theorem flat_V {g : Gl0} {M : Hp} {x : V} {d : D} (r : Rep g M x d) (h : d.flat = true) : flatV x = true := by
  cases r <;> first | rfl | cases h
theorem flat_eqV {g : Gl0} {M : Hp} {x y : V} {d e : D} (r : Rep g M x d) (r' : Rep g M y e) (h : d.flat = true) (h' : e.flat = true) : eqV x y = pyEq d e := by
  cases r <;> cases r' <;> first | rfl | cases h | cases h'
section
variable {X : Cx} {cl : Str → Option Addr}
theorem op_eqP (hu : X.A.units + 64 < cLine) : OpR X (compareOp .Eq) (rP2 (gl X cl) pEq) := by
  intro pins s σ H x y v u Q I rx ry q
  obtain ⟨M, ds, w, sm, pr, hp, k⟩ := q
  unfold pEq at hp
  split at hp
  · split at hp
    · rename_i hc
      cases hp
      rw [Bool.and_eq_true] at hc
      obtain ⟨q1, q2⟩ := preps2 pr
      have r1 := q1.rep sm
      have r2 := q2.rep sm
      have c1 := (Bool.and_eq_true_iff.mp (show (_ && _) = true from hc.1)).1
      have c2 := (Bool.and_eq_true_iff.mp (show (_ && _) = true from hc.2)).1
      exact op_eqD hu pins s σ H x y v u Q I rx ry ⟨_, _, r1.dp c1, r2.dp c2, shaped_of r1 hc.1, shaped_of r2 hc.2, rPs.fz k sm (.bl _)⟩
    · cases hp
  · cases hp
theorem op_neP (hu : X.A.units + 64 < cLine) : OpR X (compareOp .NotEq) (rP2 (gl X cl) pNe) := by
  intro pins s σ H x y v u Q I rx ry q
  obtain ⟨M, ds, w, sm, pr, hp, k⟩ := q
  unfold pNe at hp
  split at hp
  · split at hp
    · rename_i hc
      cases hp
      rw [Bool.and_eq_true] at hc
      obtain ⟨q1, q2⟩ := preps2 pr
      have r1 := q1.rep sm
      have r2 := q2.rep sm
      have c1 := (Bool.and_eq_true_iff.mp (show (_ && _) = true from hc.1)).1
      have c2 := (Bool.and_eq_true_iff.mp (show (_ && _) = true from hc.2)).1
      exact op_neD hu pins s σ H x y v u Q I rx ry ⟨_, _, r1.dp c1, r2.dp c2, shaped_of r1 hc.1, shaped_of r2 hc.2, rPs.fz k sm (.bl _)⟩
    · cases hp
  · cases hp
end
theorem flats_all {g : Gl0} {M : Hp} : ∀ {vs : List V} {ds : List D}, Reps g M vs ds → ds.all D.flat = true → vs.all flatV = true
  | _, _, .nil, _ => rfl
  | _, _, .cons a b, h => by
    rw [List.all_cons, Bool.and_eq_true] at h
    rw [List.all_cons, flat_V a h.1, flats_all b h.2]; rfl
theorem flats_in {g : Gl0} {M : Hp} {x : V} {d : D} (r : Rep g M x d) (h : d.flat = true) : ∀ {vs : List V} {ds : List D}, Reps g M vs ds → ds.all D.flat = true → inV x vs = ds.any fun z => pyEq z d
  | _, _, .nil, _ => rfl
  | _, _, .cons a b, q => by
    rw [List.all_cons, Bool.and_eq_true] at q
    unfold inV
    rw [List.any_cons, List.any_cons, flat_eqV a r q.1 h]
    have ih := flats_in r h b q.2
    unfold inV at ih
    rw [ih]
theorem strOk_one {z : Str} (h : PyData.strOk z = true) {c : Nat} (hc : c ∈ z.cps.toList) : PyData.strOk ⟨#[c]⟩ = true := by
  have h' : z.cps.all (fun x => decide (x < 0x110000)) = true := h
  rw [← Array.all_toList] at h'
  have := List.all_eq_true.mp h' c hc
  show (#[c] : Array Nat).all _ = true
  simpa using this
theorem str_one {x : Str} {c : Nat} (h : x.cps.toList = [c]) : x = ⟨#[c]⟩ := by
  cases x with
  | mk a =>
    have : a = #[c] := Array.toList_inj.mp (by simpa using h)
    rw [this]
def pIx : List D → Option Vl
  | [.lst ds, .int i] => (atI ds i).map fz
  | [.tup ds, .int i] => (atI ds i).map fz
  | [.scr ns, .int i] => (atI ns i).map fun n => fz (.int n)
  | [.str z, .int i] => (atI z.cps.toList i).map fun c => fz (.str ⟨#[c]⟩)
  | _ => none
theorem atI_reps {g : Gl0} {M : Hp} {vs : List V} {ds : List D} (r : Reps g M vs ds) {i : Int} {d : D} (h : atI ds i = some d) : ∃ v, atI vs i = some v ∧ Rep g M v d := by
  unfold atI at h ⊢
  rw [r.length]
  cases hx : ixN ds.length i with
  | none => rw [hx] at h; cases h
  | some j =>
    rw [hx] at h
    exact r.get (by simpa using h)
section
variable {X : Cx} {cl : Str → Option Addr}
theorem op_inP (hu : X.A.units + 65 < cLine) : OpR X (compareOp .In) (rP2 (gl X cl) pIn) := by
  intro pins s σ H x y v u Q I rx ry q
  obtain ⟨M, ds, w, sm, pr, hp, k⟩ := q
  unfold pIn at hp
  split at hp
  · split at hp
    · rename_i hc
      cases hp
      rw [Bool.and_eq_true] at hc
      obtain ⟨q1, q2⟩ := preps2 pr
      have r1 := q1.rep sm
      have r2 := q2.rep sm
      have c1 := (Bool.and_eq_true_iff.mp (show (_ && _) = true from hc.1)).1
      have c2 := (Bool.and_eq_true_iff.mp (show (_ && _) = true from hc.2)).1
      have d2 := r2.dp c2
      have s2 := shaped_of r2 hc.2
      rw [D.py] at d2 s2
      refine op_inD hu pins s σ H x y v u Q I rx ry ⟨_, _, r1.dp c1, d2, shaped_of r1 hc.1, s2, ?_⟩
      rw [any_pys]
      exact rPs.fz k sm (.bl _)
    · cases hp
  · split at hp
    · rename_i hc
      cases hp
      rw [Bool.and_eq_true] at hc
      obtain ⟨q1, q2⟩ := preps2 pr
      have r1 := q1.rep sm
      obtain ⟨p, vs, rfl, hs, hr, _⟩ := q2.tup sm
      refine op_in_seq pins s σ H x _ v u Q I rx ry ⟨p, vs, rfl, .inr hs, flat_V r1 hc.1, flats_all hr hc.2, ?_⟩
      show Q (.bl (inV x vs)) H
      rw [flats_in r1 hc.1 (hr.mono sm) hc.2]
      exact rPs.fz k sm (.bl _)
    · cases hp
  · split at hp
    · rename_i c hc
      cases hp
      obtain ⟨q1, q2⟩ := preps2 pr
      refine op_in_sign pins s σ H x y v u Q I rx ry ⟨c, _, ?_, q2.str.1, rPs.fz k sm (.bl _)⟩
      rw [q1.str.1]
      rw [str_one hc]
    · cases hp
  · cases hp
theorem op_notInP (hu : X.A.units + 65 < cLine) : OpR X (compareOp .NotIn) (rP2 (gl X cl) pNotIn) := by
  intro pins s σ H x y v u Q I rx ry q
  obtain ⟨M, ds, w, sm, pr, hp, k⟩ := q
  unfold pNotIn at hp
  obtain ⟨w0, hp, hw⟩ := Option.bind_eq_some_iff.mp hp
  unfold pIn at hp
  split at hp
  · split at hp
    · rename_i hc
      cases hp
      cases hw
      rw [Bool.and_eq_true] at hc
      obtain ⟨q1, q2⟩ := preps2 pr
      have r1 := q1.rep sm
      have r2 := q2.rep sm
      have c1 := (Bool.and_eq_true_iff.mp (show (_ && _) = true from hc.1)).1
      have c2 := (Bool.and_eq_true_iff.mp (show (_ && _) = true from hc.2)).1
      have d2 := r2.dp c2
      have s2 := shaped_of r2 hc.2
      rw [D.py] at d2 s2
      refine op_notInD hu pins s σ H x y v u Q I rx ry ⟨_, _, r1.dp c1, d2, shaped_of r1 hc.1, s2, ?_⟩
      rw [any_pys]
      exact rPs.fz k sm (.bl _)
    · cases hp
  · split at hp
    · rename_i hc
      cases hp
      cases hw
      rw [Bool.and_eq_true] at hc
      obtain ⟨q1, q2⟩ := preps2 pr
      have r1 := q1.rep sm
      obtain ⟨p, vs, rfl, hs, hr, _⟩ := q2.tup sm
      refine op_notIn_seq pins s σ H x _ v u Q I rx ry ⟨p, vs, rfl, .inr hs, flat_V r1 hc.1, flats_all hr hc.2, ?_⟩
      show Q (.bl (!inV x vs)) H
      rw [flats_in r1 hc.1 (hr.mono sm) hc.2]
      exact rPs.fz k sm (.bl _)
    · cases hp
  · split at hp
    · rename_i c hc
      cases hp
      cases hw
      obtain ⟨q1, q2⟩ := preps2 pr
      refine op_notIn_sign pins s σ H x y v u Q I rx ry ⟨c, _, ?_, q2.str.1, rPs.fz k sm (.bl _)⟩
      rw [q1.str.1]
      rw [str_one hc]
    · cases hp
  · cases hp
theorem ix_P : IxR X (rP2 (gl X cl) pIx) := by
  intro value slice pins s σ H x y v u Q I rx ry h hs
  obtain ⟨M, ds, w, sm, pr, hp, k⟩ := h
  unfold pIx at hp
  split at hp
  · obtain ⟨q1, q2⟩ := preps2 pr
    obtain ⟨d, hd, rfl⟩ := Option.map_eq_some_iff.mp hp
    obtain ⟨p, vs, rfl, hs', hr, _⟩ := q1.lst sm
    obtain ⟨z, hz, rz⟩ := atI_reps hr hd
    exact ix_list value slice pins s σ H _ y v u Q I rx ry ⟨p, vs, _, z, rfl, q2.int, .of hs', hz, rPs.fz k sm rz⟩ hs
  · obtain ⟨q1, q2⟩ := preps2 pr
    obtain ⟨d, hd, rfl⟩ := Option.map_eq_some_iff.mp hp
    obtain ⟨p, vs, rfl, hs', hr, _⟩ := q1.tup sm
    obtain ⟨z, hz, rz⟩ := atI_reps hr hd
    exact ix_tup value slice pins s σ H _ y v u Q I rx ry ⟨p, vs, _, z, rfl, q2.int, hs', hz, rPs.fz k sm rz⟩ hs
  · obtain ⟨q1, q2⟩ := preps2 pr
    obtain ⟨n, hd, rfl⟩ := Option.map_eq_some_iff.mp hp
    obtain ⟨p, rfl, hs'⟩ := q1.scr sm
    refine ix_list value slice pins s σ H _ y v u Q I rx ry ⟨p, _, _, .int n, rfl, q2.int, hs', ?_, rPs.fz k sm (.int n)⟩ hs
    unfold atI at hd ⊢
    rw [List.length_map]
    cases hx : ixN _ _ with
    | none => rw [hx] at hd; cases hd
    | some j =>
      rw [hx] at hd
      simp only [Option.bind_some, List.getElem?_map] at hd ⊢
      rw [hd]; rfl
  · obtain ⟨q1, q2⟩ := preps2 pr
    obtain ⟨c, hd, rfl⟩ := Option.map_eq_some_iff.mp hp
    obtain ⟨e1, e2, e3⟩ := q1.str
    refine ix_str value slice pins s σ H x y v u Q I rx ry ⟨_, _, c, e1, q2.int, e3, hd, rPs.fz k sm (.str _ ⟨strOk_one e2 ?_, by rw [sizeLine_eq]; exact (show (1 : Nat) ≤ 16777216 by decide)⟩)⟩ hs
    unfold atI at hd
    cases hx : ixN _ _ with
    | none => rw [hx] at hd; cases hd
    | some j =>
      rw [hx] at hd
      exact List.mem_of_getElem? hd
  · cases hp
end
end Ev
set_option Elab.async false
set_option linter.all false
set_option autoImplicit false
set_option maxRecDepth 100000
namespace Ev
open PySem L2
def pLen : List D → Option Vl
  | [.lst ds] => some (fz (.int ds.length))
  | [.tup ds] => some (fz (.int ds.length))
  | [.scr ns] => some (fz (.int ns.length))
  | [.str x] => some (fz (.int x.length))
  | _ => none
def D.bools : List D → Option (List Bool)
  | [] => some []
  | .bl b :: ds => (D.bools ds).map (b :: ·)
  | _ => none
theorem bools_eq : ∀ {ds : List D} {bs : List Bool}, D.bools ds = some bs → ds = bs.map D.bl
  | [], bs, h => by cases h; rfl
  | d :: ds, bs, h => by
    cases d with
    | bl b =>
      obtain ⟨cs, hc, rfl⟩ := Option.map_eq_some_iff.mp (show (D.bools ds).map (b :: ·) = some bs from h)
      rw [bools_eq hc]; rfl
    | _ => cases h
theorem bools_map : ∀ bs : List Bool, D.bools (bs.map D.bl) = some bs
  | [] => rfl
  | b :: bs => by
    show (D.bools (bs.map D.bl)).map (b :: ·) = _
    rw [bools_map bs]; rfl
def D.ints : List D → Option (List Int)
  | [] => some []
  | .int b :: ds => (D.ints ds).map (b :: ·)
  | _ => none
theorem ints_map : ∀ bs : List Int, D.ints (bs.map D.int) = some bs
  | [] => rfl
  | b :: bs => by
    show (D.ints (bs.map D.int)).map (b :: ·) = _
    rw [ints_map bs]; rfl
def pAll : List D → Option Vl
  | [.lst ds] => (D.bools ds).map fun bs => fz (.bl (bs.all id))
  | _ => none
def pAny : List D → Option Vl
  | [.lst ds] => (D.bools ds).map fun bs => fz (.bl (bs.any id))
  | _ => none
def pList : List D → Option Vl
  | [.lst ds] => some (nw (.lst ds))
  | [.tup ds] => some (nw (.lst ds))
  | _ => none
def pTuple : List D → Option Vl
  | [.lst ds] => some (fz (.tup ds))
  | [.tup ds] => some (fz (.tup ds))
  | _ => none
def pInt : List D → Option Vl
  | [.int i] => some (fz (.int i))
  | [.bl b] => some (fz (.int (if b then 1 else 0)))
  | _ => none
def pAbs : List D → Option Vl
  | [.int i] => some (fz (.int (if i < 0 then -i else i)))
  | _ => none
def pMax : List D → Option Vl
  | [.int i, .int j] => some (fz (.int (if j > i then j else i)))
  | _ => none
open Classical in
noncomputable def pSorted : List D → Option Vl
  | [.lst ds] => if PySem.W.AllAlike (ds.map D.py) ∧ PySem.W.Sortable (ds.map D.py) ∧ ∀ d ∈ ds, d.dat = true ∧ d.py.depth ≤ 8 then some (nw (.lst (ds.mergeSort (PySem.W.dataLe false D.py)))) else none
  | _ => none
theorem each_reps {g : Gl0} {M : Hp} : ∀ {vs : List V} {us : List Value} {ds : List D}, Vals vs us → Reps g M vs ds → PySem.W.EachIs (fun u d => ∃ v, RelV v u ∧ Rep g M v d) us ds
  | _, _, _, .nil, .nil => .nil
  | _, _, _, .cons a t, .cons b q => .cons ⟨_, a, b⟩ (each_reps t q)
theorem reps_each {g : Gl0} {M : Hp} : ∀ {us : List Value} {ds : List D}, PySem.W.EachIs (fun u d => ∃ v, RelV v u ∧ Rep g M v d) us ds → ∃ vs, Vals vs us ∧ Reps g M vs ds
  | _, _, .nil => ⟨[], .nil, .nil⟩
  | _, _, .cons ⟨v, a, b⟩ t => by
    obtain ⟨vs, q1, q2⟩ := reps_each t
    exact ⟨v :: vs, .cons a q1, .cons b q2⟩
section
variable {X : Cx} {cl : Str → Option Addr}
theorem cr_len : CallR X (.builtin "len") (rPs (gl X cl) pLen) := by
  intro pins s σ H xs us Q I r h
  obtain ⟨M, ds, w, sm, pr, hp, k⟩ := h
  unfold pLen at hp
  split at hp
  · cases hp
    obtain ⟨x, rfl, q⟩ := preps1 pr
    obtain ⟨p, vs, rfl, hs, hr, hz0⟩ := q.lst sm
    refine call_len pins s σ H _ us Q I r ⟨_, _, rfl, .inl ⟨vs, .of hs, rfl⟩, ?_⟩
    rw [hr.length]
    exact rPs.fz k sm (.int _)
  · cases hp
    obtain ⟨x, rfl, q⟩ := preps1 pr
    obtain ⟨p, vs, rfl, hs, hr, _, hz0⟩ := q.tup sm
    refine call_len pins s σ H _ us Q I r ⟨_, _, rfl, .inr ⟨vs, hs, rfl⟩, ?_⟩
    rw [hr.length]
    exact rPs.fz k sm (.int _)
  · cases hp
    obtain ⟨x, rfl, q⟩ := preps1 pr
    obtain ⟨p, rfl, hs⟩ := q.scr sm
    refine call_len pins s σ H _ us Q I r ⟨_, _, rfl, .inl ⟨_, hs, rfl⟩, ?_⟩
    rw [List.length_map]
    exact rPs.fz k sm (.int _)
  · cases hp
    obtain ⟨x, rfl, q⟩ := preps1 pr
    obtain ⟨rfl, e2, e3⟩ := q.str
    exact call_len pins s σ H _ us Q I r ⟨_, _, rfl, ⟨e3, rfl⟩, rPs.fz k sm (.int _)⟩
  · cases hp
theorem cr_allP (hc : X.calm = true) : CallR X (.builtin "all") (rPs (gl X cl) pAll) := by
  intro pins s σ H xs us Q I r h
  obtain ⟨M, ds, w, sm, pr, hp, k⟩ := h
  unfold pAll at hp
  split at hp
  · obtain ⟨bs, hb, rfl⟩ := Option.map_eq_some_iff.mp hp
    obtain ⟨x, rfl, q⟩ := preps1 pr
    obtain ⟨p, vs, rfl, hs, hr, hz0⟩ := q.lst sm
    rw [bools_eq hb] at hr
    rw [hr.bls_inv] at hs
    exact cr_all hc pins s σ H _ us Q I r ⟨p, bs, rfl, .of hs, rPs.fz k sm (.bl _)⟩
  · cases hp
theorem cr_anyP (hc : X.calm = true) : CallR X (.builtin "any") (rPs (gl X cl) pAny) := by
  intro pins s σ H xs us Q I r h
  obtain ⟨M, ds, w, sm, pr, hp, k⟩ := h
  unfold pAny at hp
  split at hp
  · obtain ⟨bs, hb, rfl⟩ := Option.map_eq_some_iff.mp hp
    obtain ⟨x, rfl, q⟩ := preps1 pr
    obtain ⟨p, vs, rfl, hs, hr, hz0⟩ := q.lst sm
    rw [bools_eq hb] at hr
    rw [hr.bls_inv] at hs
    exact cr_any hc pins s σ H _ us Q I r ⟨p, bs, rfl, .of hs, rPs.fz k sm (.bl _)⟩
  · cases hp
theorem cr_listP : CallR X (.type "list") (rPs (gl X cl) pList) := by
  intro pins s σ H xs us Q I r h
  obtain ⟨M, ds, w, sm, pr, hp, k⟩ := h
  unfold pList at hp
  split at hp
  · cases hp
    obtain ⟨x, rfl, q⟩ := preps1 pr
    obtain ⟨p, vs, rfl, hs, hr, hz0⟩ := q.lst sm
    exact call_list_of pins s σ H _ us Q I r ⟨p, vs, rfl, .inl (.of hs), rPs.nwl k sm hr hz0⟩
  · cases hp
    obtain ⟨x, rfl, q⟩ := preps1 pr
    obtain ⟨p, vs, rfl, hs, hr, _, hz0⟩ := q.tup sm
    exact call_list_of pins s σ H _ us Q I r ⟨p, vs, rfl, .inr hs, rPs.nwl k sm hr hz0⟩
  · cases hp
theorem cr_intP : CallR X (.type "int") (rPs (gl X cl) pInt) := by
  intro pins s σ H xs us Q I r h
  obtain ⟨M, ds, w, sm, pr, hp, k⟩ := h
  unfold pInt at hp
  split at hp
  · cases hp
    obtain ⟨x, rfl, q⟩ := preps1 pr
    exact call_int1 pins s σ H _ us Q I r (.inl ⟨_, by rw [q.int], rPs.fz k sm (.int _)⟩)
  · cases hp
    obtain ⟨x, rfl, q⟩ := preps1 pr
    exact call_int1 pins s σ H _ us Q I r (.inr ⟨_, by rw [q.bl], rPs.fz k sm (.int _)⟩)
  · cases hp
theorem cr_absP : CallR X (.builtin "abs") (rPs (gl X cl) pAbs) := by
  intro pins s σ H xs us Q I r h
  obtain ⟨M, ds, w, sm, pr, hp, k⟩ := h
  unfold pAbs at hp
  split at hp
  · cases hp
    obtain ⟨x, rfl, q⟩ := preps1 pr
    exact call_abs pins s σ H _ us Q I r ⟨_, by rw [q.int], rPs.fz k sm (.int _)⟩
  · cases hp
theorem preps2' {g : Gl0} {M H : Hp} {xs : List V} {d e : D} (h : PReps g M H xs [d, e]) : ∃ x y, xs = [x, y] ∧ PRep g M H x d ∧ PRep g M H y e := by
  cases h with
  | cons a b =>
    obtain ⟨y, rfl, q⟩ := preps1 b
    exact ⟨_, y, rfl, a, q⟩
theorem each_reads {pins : List (Addr × Obj)} {σ : L2.St} {H M : Hp} {s : Shared} (I : Inv X pins σ H s) (sm : Sub M H) : ∀ {vs : List V} {us : List Value} {ds : List D}, Vals vs us → Reps (gl X cl) M vs ds → (∀ d ∈ ds, d.dat = true) → PySem.W.EachIs (fun v b => ∃ as, Reads s.heap v (D.py b) as) us ds
  | _, _, _, .nil, .nil, _ => .nil
  | _, _, _, .cons a1 a2, .cons b1 b2, c => .cons (Dp.reads I _ _ _ ((b1.mono sm).dp (c _ List.mem_cons_self)) a1) (each_reads I sm a2 b2 fun d hd => c d (List.mem_cons_of_mem _ hd))
theorem cr_sortedP (hu : X.A.units + 64 < cLine) : CallR X (.builtin "sorted") (rPs (gl X cl) pSorted) := by
  intro pins s σ H xs us Q I r h
  obtain ⟨M, ds, w, sm, pr, hp, k⟩ := h
  unfold pSorted at hp
  split at hp
  · rename_i ds
    split at hp
    · rename_i hc
      obtain ⟨h1, h2, h3⟩ := hc
      cases hp
      obtain ⟨x, rfl, q⟩ := preps1 pr
      obtain ⟨p, vs, rfl, hs, hr, hz0⟩ := q.lst sm
      rw [Vals.ref1 r]
      obtain ⟨its, rv, hl, hz⟩ := I.list (.of hs)
      have e := each_reps rv hr
      have er : PySem.W.EachIs (fun v b => ∃ as, Reads s.heap v (D.py b) as) its ds := by
        exact each_reads I sm rv hr fun d hd => (h3 d hd).1
      refine PySem.W.sorted_data (enc := D.py) (R := fun u d => ∃ v, RelV v u ∧ Rep (gl X cl) M v d) hl.isList e er h1 h2 (by rw [← hr.length]; exact hz) (fun b hb => ?_) fun out hlen ho => ?_
      · have := (h3 b hb).2
        omega
      · obtain ⟨ep, he'⟩ := PyProof.Rows.sortedAll_at s.heap its out.toArray
        obtain ⟨vs', rv', rr'⟩ := reps_each ho
        have hlen' : vs'.length ≤ sizeLine := by rw [rv'.length, hlen, ← hr.length]; exact hz
        exact ⟨.ref _, upd H (s.heap.objs.size + 1) (.lst vs'), I.laid (t' := s.toks) (fun _ _ => PyProof.Rows.sortedAll_old) (Nat.le_succ _) ⟨hlen', out, ep, rv', he'⟩, rfl, rPs.nwl k sm rr' (by rw [List.length_mergeSort]; exact hz0) _ (I.hok.fresh (Nat.le_succ _))⟩
    · cases hp
  · cases hp
end
def pSlice (lo hi : Option Int) : D → Option Vl
  | .lst ds => some (nw (.lst ((ds.drop (HT.sIx ds.length 0 lo)).take (HT.sIx ds.length ds.length hi - HT.sIx ds.length 0 lo))))
  | .tup ds => some (fz (.tup ((ds.drop (HT.sIx ds.length 0 lo)).take (HT.sIx ds.length ds.length hi - HT.sIx ds.length 0 lo))))
  | .str z => some (fz (.str (cutS z lo hi)))
  | _ => none
theorem strOk_cut {z : Str} (h : PyData.strOk z = true) (lo hi : Option Int) : PyData.strOk (cutS z lo hi) = true := by
  have h' : z.cps.all (fun x => decide (x < 0x110000)) = true := h
  rw [← Array.all_toList] at h'
  show (((z.cps.toList.drop _).take _).toArray).all _ = true
  rw [← Array.all_toList]
  refine List.all_eq_true.mpr fun c hc => List.all_eq_true.mp h' c ?_
  exact List.mem_of_mem_drop (List.mem_of_mem_take (by simpa using hc))
theorem len_cut (z : Str) (lo hi : Option Int) : (cutS z lo hi).length ≤ z.length := by
  show (((z.cps.toList.drop _).take _).toArray).size ≤ z.cps.size
  rw [List.size_toArray, List.length_take, List.length_drop, Array.length_toList]
  omega
def rSlP (g : Gl0) : V → Option Int → Option Int → Hp → VK → Prop := fun x lo hi H Q => ∃ M d v, Sub M H ∧ PRep g M H x d ∧ pSlice lo hi d = some v ∧
  ∀ z M' H', Ext M H M' H' → PX g M H M' H' z v → (v.nw = true → ∀ q, z = .ref q → M' q = none) → Q z H'
section
variable {X : Cx} {cl : Str → Option Addr}
theorem sl_P : SlR X (rSlP (gl X cl)) := by
  intro pins s σ H x v vl vu lo hi sl Q I rx hs pl pu h
  obtain ⟨M, d, w, sm, pr, hp, k⟩ := h
  unfold pSlice at hp
  split at hp
  · cases hp
    obtain ⟨p, vs, rfl, hs', hr, hz0⟩ := pr.lst sm
    refine sl_list pins s σ H _ v vl vu lo hi sl Q I rx hs pl pu ⟨p, vs, rfl, .of hs', ?_⟩
    unfold cutV
    rw [hr.length]
    exact rPs.nwl k sm ((hr.drop _).take _) (by rw [List.length_take, List.length_drop]; omega)
  · cases hp
    obtain ⟨p, vs, rfl, hs', hr, q, hz0⟩ := pr.tup sm
    refine sl_tupN pins s σ H _ v vl vu lo hi sl Q I rx hs pl pu ⟨p, vs, rfl, hs', fun z => ?_, fun _ => ?_⟩
    · rw [hr.length] at z
      refine rPs.fz k sm ?_
      rw [z.1, z.2, Nat.sub_zero, List.drop_zero, List.take_length]
      exact q
    · unfold cutV
      rw [hr.length]
      exact rPs.tup k sm ((hr.drop _).take _) (by rw [List.length_take, List.length_drop]; omega)
  · cases hp
    obtain ⟨rfl, e2, e3⟩ := pr.str
    exact sl_str pins s σ H _ v vl vu lo hi sl Q I rx hs pl pu ⟨_, rfl, e3, rPs.fz k sm (.str _ ⟨strOk_cut e2 _ _, Nat.le_trans (len_cut _ _ _) e3⟩)⟩
  · cases hp
end
theorem truth_ok {g : Gl0} {M H : Hp} (sm : Sub M H) {x : V} {d : D} {b : Bool} (h : PRep g M H x d) (hb : truth d = some b) : TruV g.K x H b := by
  cases d with
  | non => rw [h.non]; cases hb; rfl
  | bl c => rw [h.bl]; cases hb; rfl
  | int i => rw [h.int]; cases hb; rfl
  | str z =>
    obtain ⟨e, _, e3⟩ := h.str
    rw [e]; cases hb
    refine ⟨e3, ?_⟩
    cases hz : z.length with
    | zero => rfl
    | succ n =>
      show (n + 1 != 0) = (((n + 1 : Nat) : Int) != 0)
      have : ((n + 1 : Nat) : Int) ≠ 0 := by omega
      simp [this]
      omega
  | tup l =>
    obtain ⟨a, vs, e, hs, hr, _, _⟩ := h.tup sm
    rw [e]; cases hb
    refine .inr (.inl ⟨vs, hs, ?_⟩)
    cases hr <;> rfl
  | lst l =>
    obtain ⟨a, vs, e, hs, hr, _⟩ := h.lst sm
    rw [e]; cases hb
    refine .inl ⟨vs, .of hs, ?_⟩
    cases hr <;> rfl
  | dic l => cases hb
  | obj c fs => cases hb
  | scr l => cases hb
  | adr a => cases hb
end Ev
set_option Elab.async false
set_option linter.all false
set_option autoImplicit false
set_option maxRecDepth 100000
namespace Ev
open PySem L2
section
variable {g : Gl0} {G : Gh} {e : En} {M H : Hp} {σ : L2.St} {W : WX} {Q : VK} {p : List D → Option Vl}
theorem prim_end {e : En} {M : Hp} {H : Hp} {xs : List V} {os : List Opd} (r : Rel g G e M σ H) (x : OpdRs g M σ xs os)
    (h : tPost g W (VR g) G σ Q ((match ress e os with | some ds => Out.ok ds e | none => .stuck).bind fun ds e => match p ds with | some v => .ok v e | none => .stuck)) : rPs g p xs H Q := by
  cases hr : ress e os with
  | none => rw [hr] at h; exact h.elim
  | some ds =>
    rw [hr] at h
    have h' : tPost g W (VR g) G σ Q (match p ds with | some v => .ok v e | none => .stuck) := h
    cases hp : p ds with
    | none => rw [hp] at h'; exact h'.elim
    | some v =>
      rw [hp] at h'
      refine ⟨M, ds, v, r.sub, r.ress hr x, hp, fun z M' H' w px hm => ?_⟩
      obtain ⟨r', vr⟩ := r.px w px hm
      exact h' z M' H' r' vr
theorem Out.bind_assoc {α β γ : Type} (o : Out α) (f : α → En → Out β) (k : β → En → Out γ) : (o.bind f).bind k = o.bind fun a e => (f a e).bind k := by
  cases o <;> rfl
theorem n_ops {ms : List (Sx Opd)} (r : Rel g G e M σ H) (h : tPost g W (VR g) G σ Q (sPrim p ms e)) : tAs g W (sOps ms) σ H fun xs H1 => rPs g p xs H1 Q := by
  unfold sPrim sArgs at h
  rw [Out.bind_assoc] at h
  exact tG_last r h fun os e1 xs M1 H1 _ r1 _ x1 h1 => prim_end r1 x1 h1
theorem two_ops {ma mb : Sx Opd} (r : Rel g G e M σ H) (h : tPost g W (VR g) G σ Q (sPrim p [ma, mb] e)) : tO g W ma σ H fun x H1 => tO g W mb σ H1 fun y H2 => rP2 g p x y H2 Q := by
  unfold sPrim sArgs sOps at h
  rw [Out.bind_assoc, Out.bind_assoc] at h
  refine tG_last r h fun oa e1 x M1 H1 _ r1 _ x1 h1 => ?_
  unfold sOps at h1
  rw [Out.bind_assoc, Out.bind_assoc] at h1
  refine tG_bind r1 h1 fun ob e2 y M2 H2 _ r2 y2 h2 => ?_
  exact prim_end (r1.back r2) (.cons (x1.mono r2.base) (.cons y2 .nil)) h2
theorem one_op {ma : Sx Opd} (r : Rel g G e M σ H) (h : tPost g W (VR g) G σ Q (sPrim p [ma] e)) : tO g W ma σ H fun x H1 => rPs g p [x] H1 Q := by
  unfold sPrim sArgs sOps at h
  rw [Out.bind_assoc, Out.bind_assoc] at h
  refine tG_last r h fun oa e1 x M1 H1 _ r1 _ x1 h1 => ?_
  exact prim_end r1 (.cons x1 .nil) h1
end
section
variable {X : Cx} {cl : Str → Option Addr} {W : WX} {a b : Expr} {ma mb : Sx Opd} {p : List D → Option Vl} {pos : Pos}
theorem ve_op {op : Operator} (ho : OpR X (binaryOp op) (rP2 (gl X cl) p)) (ha : PE X a (tO (gl X cl) W ma)) (hb : PE X b (tO (gl X cl) W mb)) : PE X (.BinOp a op b pos) (tE (gl X cl) W (sPrim p [ma, mb])) :=
  PE_imp (pe_op ho ha hb) fun _ _ _ ⟨_, _, _, r, h⟩ => two_ops r h
theorem ve_cmp {op : CmpOp} (ho : OpR X (compareOp op) (rP2 (gl X cl) p)) (ha : PE X a (tO (gl X cl) W ma)) (hb : PE X b (tO (gl X cl) W mb)) (hm : behindInMarks op b = false) : PE X (.Compare a [op] [b] pos) (tE (gl X cl) W (sPrim p [ma, mb])) :=
  PE_imp (pe_cmpR ho ha hb hm) fun _ _ _ ⟨_, _, _, r, h⟩ => two_ops r h
theorem ve_ix (ho : IxR X (rP2 (gl X cl) p)) (ha : PE X a (tO (gl X cl) W ma)) (hb : PE X b (tO (gl X cl) W mb)) (hs : PlainIx b) : PE X (.Subscript a b pos) (tE (gl X cl) W (sPrim p [ma, mb])) :=
  PE_imp (pe_ix ho ha hb hs) fun _ _ _ ⟨_, _, _, r, h⟩ => two_ops r h
def tBool (m : Sx Vl) : Sx Bool := fun e => (m e).bind fun v e => match v.d with
  | .bl b => .ok b e
  | _ => .stuck
theorem test_of {g : Gl0} {G : Gh} {e : En} {M H : Hp} {σ : L2.St} {m : Sx Vl} {Q : Bool → Hp → Prop} {t : TE} (k : ∀ σ H Q, tE g W m σ H Q → t σ H Q) (r : Rel g G e M σ H) (h : tPost g W (fun _ _ _ _ _ b a => b = a) G σ Q (tBool m e)) : tTest t σ H Q := by
  refine k σ H _ (tG_last r h fun v e1 x M1 H1 _ r1 _ x1 h1 => ?_)
  obtain ⟨d, w⟩ := v
  cases d with
  | bl b =>
    have hx : x = .bl b := by
      cases w with
      | false => cases x1; rfl
      | true => obtain ⟨p, o, _, _, ro, _⟩ := x1; cases ro
    exact ⟨b, hx, h1 b M1 H1 r1 rfl⟩
  | _ => exact h1.elim
theorem vt_cmp {op : CmpOp} (ho : OpR X (compareOp op) (rP2 (gl X cl) p)) (ha : PE X a (tO (gl X cl) W ma)) (hb : PE X b (tO (gl X cl) W mb)) (hm : behindInMarks op b = false) : PT X (.Compare a [op] [b] pos) (tT (gl X cl) W (tBool (sPrim p [ma, mb]))) :=
  PT_imp (pt_cmpR ho ha hb hm) fun _ _ _ ⟨_, _, _, r, h⟩ => test_of (fun _ _ _ ⟨_, _, _, r, h⟩ => two_ops r h) r h
theorem vt_not {c : Expr} {t : Sx Bool} (hc : PT X c (tT (gl X cl) W t)) : PT X (.UnaryOp .Not c pos) (tT (gl X cl) W (tNot t)) :=
  PT_imp (pt_not hc) fun _ _ _ ⟨_, _, _, r, h⟩ => tG_last r h fun b e1 x M1 H1 _ r1 _ x1 h1 => by
    subst x1
    exact h1 _ M1 H1 r1 rfl
theorem vt_truth {c : Expr} {m : Sx Opd} (hc : PE X c (tO (gl X cl) W m)) (he : ∀ whole, isTrue c X.env whole = (do let v ← whole; standAt c.pos; holding [v] (truthy v))) : PT X c (tT (gl X cl) W (tVal m)) :=
  PT_imp (pt_truth hc he) fun _ _ _ ⟨_, _, _, r, h⟩ => by
    unfold tVal sArgs sOps at h
    rw [Out.bind_assoc, Out.bind_assoc] at h
    refine tG_last r h fun o e1 x M1 H1 _ r1 _ x1 h1 => ?_
    have h1' : tPost (gl X cl) W (fun _ _ _ _ _ b a => b = a) _ _ _ ((match ress e1 [o] with | some ds => Out.ok ds e1 | none => .stuck).bind fun ds e => match ds with
      | [d] => (match truth d with
        | some b => .ok b e
        | none => .stuck)
      | _ => .stuck) := h1
    cases hr : ress e1 [o] with
    | none => rw [hr] at h1'; exact h1'.elim
    | some ds =>
      rw [hr] at h1'
      have pr := r1.ress hr (.cons x1 .nil)
      cases pr with
      | cons q1 q2 =>
        cases q2
        rename_i d
        have h2 : tPost (gl X cl) W (fun _ _ _ _ _ b a => b = a) _ _ _ (match truth d with | some b => .ok b e1 | none => .stuck) := h1'
        cases hb : truth d with
        | none => rw [hb] at h2; exact h2.elim
        | some b =>
          rw [hb] at h2
          exact ⟨b, truth_ok r1.sub q1 hb, h2 b M1 H1 r1 rfl⟩
theorem vw_and1 {c : Expr} {t : Sx Bool} (h : PT X c (tT (gl X cl) W t)) : PW X (.BoolOp .And [c] pos) (tT (gl X cl) W t) := pw_and1 h
theorem vw_or1 {c : Expr} {t : Sx Bool} (h : PT X c (tT (gl X cl) W t)) : PW X (.BoolOp .Or [c] pos) (tT (gl X cl) W t) := pw_or1 h
theorem vw_and {c d : Expr} {rest : List Expr} {t u : Sx Bool} (h : PT X c (tT (gl X cl) W t)) (h' : PW X (.BoolOp .And (d :: rest) pos) (tT (gl X cl) W u)) : PW X (.BoolOp .And (c :: d :: rest) pos) (tT (gl X cl) W (tAnd t u)) :=
  PW_imp (pw_and h h') fun _ _ _ ⟨_, _, _, r, h⟩ => tG_last r h fun k e1 x M1 H1 _ r1 _ x1 h1 => by
    subst x1
    cases x with
    | true => exact ⟨_, _, _, r1, h1⟩
    | false => exact h1 false M1 H1 r1 rfl
theorem vw_or {c d : Expr} {rest : List Expr} {t u : Sx Bool} (h : PT X c (tT (gl X cl) W t)) (h' : PW X (.BoolOp .Or (d :: rest) pos) (tT (gl X cl) W u)) : PW X (.BoolOp .Or (c :: d :: rest) pos) (tT (gl X cl) W (tOr t u)) :=
  PW_imp (pw_or h h') fun _ _ _ ⟨_, _, _, r, h⟩ => tG_last r h fun k e1 x M1 H1 _ r1 _ x1 h1 => by
    subst x1
    cases x with
    | true => exact h1 true M1 H1 r1 rfl
    | false => exact ⟨_, _, _, r1, h1⟩
theorem ve_one {op : BoolOp} {c : Expr} {m : Sx Vl} (h : PE X c (tE (gl X cl) W m)) : PE X (.BoolOp op [c] pos) (tE (gl X cl) W m) := pe_one h
theorem vr_bl {g : Gl0} {G : Gh} {e : En} {M H : Hp} {σ : L2.St} {x : V} {b w : Bool} (h : VR g G e M σ H x ⟨.bl b, w⟩) : x = .bl b := by
  cases w with
  | false => cases h; rfl
  | true => obtain ⟨p, o, _, _, ro, _⟩ := h; cases ro
theorem ve_and {c d : Expr} {rest : List Expr} {m n : Sx Vl} (h : PE X c (tE (gl X cl) W m)) (h' : PE X (.BoolOp .And (d :: rest) pos) (tE (gl X cl) W n)) : PE X (.BoolOp .And (c :: d :: rest) pos) (tE (gl X cl) W (sAnd m n)) :=
  PE_imp (pe_and h h') fun _ _ _ ⟨_, _, _, r, h⟩ => tG_last r h fun v e1 x M1 H1 _ r1 _ x1 h1 => by
    obtain ⟨d, w⟩ := v
    cases d with
    | bl b =>
      refine ⟨b, vr_bl x1, ?_⟩
      cases b with
      | true => exact ⟨_, _, _, r1, h1⟩
      | false => exact h1 _ M1 H1 r1 (.bl false)
    | _ => exact h1.elim
def sNot (m : Sx Opd) : Sx Vl := fun e => (tVal m e).bind fun b e => .ok (fz (.bl (!b))) e
theorem ve_not {c : Expr} {m : Sx Opd} (hc : PE X c (tO (gl X cl) W m)) : PE X (.UnaryOp .Not c pos) (tE (gl X cl) W (sNot m)) :=
  PE_imp (pe_notT hc) fun σ H Q ⟨G, e, M, r, h⟩ => by
    unfold sNot tVal sArgs sOps at h
    rw [Out.bind_assoc, Out.bind_assoc, Out.bind_assoc] at h
    refine tG_last r h fun o e1 x M1 H1 _ r1 _ x1 h1 => ?_
    have h1' : tPost (gl X cl) W (VR (gl X cl)) G σ Q (((match ress e1 [o] with | some ds => Out.ok ds e1 | none => .stuck).bind fun ds e => match ds with
      | [d] => (match truth d with
        | some b => .ok b e
        | none => .stuck)
      | _ => .stuck).bind fun b e => .ok (fz (.bl (!b))) e) := by
      rw [Out.bind_assoc]; exact h1
    cases hr : ress e1 [o] with
    | none => rw [hr] at h1'; exact h1'.elim
    | some ds =>
      rw [hr] at h1'
      have pr := r1.ress hr (.cons x1 .nil)
      cases pr with
      | cons q1 q2 =>
        cases q2
        rename_i d
        have h2 : tPost (gl X cl) W (VR (gl X cl)) G σ Q ((match truth d with | some b => Out.ok b e1 | none => .stuck).bind fun b e => .ok (fz (.bl (!b))) e) := h1'
        cases hb : truth d with
        | none => rw [hb] at h2; exact h2.elim
        | some b =>
          rw [hb] at h2
          exact ⟨b, truth_ok r1.sub q1 hb, h2 _ M1 H1 r1 (.bl _)⟩
def pNeg1 : List D → Option Vl
  | [.int i] => some (fz (.int (-i)))
  | _ => none
theorem ve_neg (ha : PE X a (tO (gl X cl) W ma)) : PE X (.UnaryOp .USub a pos) (tE (gl X cl) W (sPrim pNeg1 [ma])) :=
  PE_imp (pe_un un_neg ha) fun σ H Q ⟨_, _, _, r, h⟩ => by
    obtain ⟨G', e', M', r', h'⟩ := one_op r h
    refine ⟨G', e', M', r', ?_⟩
    cases q : ma e' with
    | stuck => rw [q] at h'; exact h'
    | exc x e1 => rw [q] at h'; exact h'
    | ok o e1 =>
      rw [q] at h'
      intro x M1 H1 r1 x1
      obtain ⟨M2, ds, v, sm, pr, hp, k⟩ := h' x M1 H1 r1 x1
      unfold pNeg1 at hp
      split at hp
      · cases hp
        obtain ⟨y, e, q⟩ := preps1 pr
        cases e
        exact ⟨_, q.int, rPs.fz k sm (.int _)⟩
      · cases hp
theorem ve_callB {id : String} {x : Str} {pp : Pos} {e : Expr} {es : List Expr} {ms : List (Sx Opd)} (hc : CallR X (.builtin id) (rPs (gl X cl) p)) (hg : Gl X x) (hm : X.mg x = none) (hv : bootBuiltins x = some (.builtin id)) (ha : PA X (e :: es) (tAs (gl X cl) W (sOps ms))) (hn : x ≠ "__name__") (hdb : (x == ("__debug__" : Str)) = false)
    (he : starEach (e :: es) X.env = (false, eval e X.env) :: starEach es X.env) (hpl : (backTo pos (starEach es X.env)).any (·.1) = false) : PE X (.Call (.Name x pp) (e :: es) [] pos) (tE (gl X cl) W (sPrim p ms)) :=
  PE_imp (pe_callB hc hg hm hv ha hn hdb he hpl) fun _ _ _ ⟨_, _, _, r, h⟩ => n_ops r h
theorem ve_callTy {T : String} {x : Str} {pp : Pos} {e : Expr} {es : List Expr} {ms : List (Sx Opd)} (hc : CallR X (.type T) (rPs (gl X cl) p)) (hg : Gl X x) (hm : X.mg x = none) (hv : bootBuiltins x = some (.type T)) (ha : PA X (e :: es) (tAs (gl X cl) W (sOps ms))) (hn : x ≠ "__name__") (hdb : (x == ("__debug__" : Str)) = false)
    (he : starEach (e :: es) X.env = (false, eval e X.env) :: starEach es X.env) (hpl : (backTo pos (starEach es X.env)).any (·.1) = false) : PE X (.Call (.Name x pp) (e :: es) [] pos) (tE (gl X cl) W (sPrim p ms)) :=
  PE_imp (pe_callTy hc hg hm hv ha hn hdb he hpl) fun _ _ _ ⟨_, _, _, r, h⟩ => n_ops r h
end
end Ev
set_option Elab.async false
set_option linter.all false
set_option autoImplicit false
set_option maxRecDepth 100000
namespace Ev
open PySem L2
def dts : List Opd → Option (List D)
  | [] => some []
  | .dt d :: os => (dts os).map (d :: ·)
  | _ => none
theorem dts_reps {g : Gl0} {M : Hp} {σ : L2.St} : ∀ {xs : List V} {os : List Opd} {ds : List D}, OpdRs g M σ xs os → dts os = some ds → Reps g M xs ds
  | _, [], _, .nil, h => by cases h; exact .nil
  | _, .dt d :: os, ds, .cons a b, h => by
    obtain ⟨es, he, rfl⟩ := Option.map_eq_some_iff.mp (show (dts os).map (d :: ·) = some ds from h)
    exact .cons a (dts_reps b he)
  | _, .sl i :: os, ds, .cons a b, h => by cases h
def sSeqD (k : List D → Vl) (ms : List (Sx Opd)) : Sx Vl := fun e => (sOps ms e).bind fun os e => match dts os with
  | some ds => if ds.length ≤ sizeLine then .ok (k ds) e else .stuck
  | none => .stuck
def sTup (ms : List (Sx Opd)) : Sx Vl := sSeqD (fun ds => fz (.tup ds)) ms
def sLst (ms : List (Sx Opd)) : Sx Vl := sSeqD (fun ds => nw (.lst ds)) ms
section
variable {X : Cx} {cl : Str → Option Addr} {W : WX} {pos : Pos}
theorem ve_tup {es : List Expr} {ms : List (Sx Opd)} {x1 : Nat} (h : PA X es (tAs (gl X cl) W (sOps ms))) : PE X (.Tuple es x1 pos) (tE (gl X cl) W (sTup ms)) :=
  PE_imp (pe_tupN h) fun σ H Q ⟨G, e, M, r, h⟩ => by
    unfold sTup sSeqD at h
    refine tG_last r h fun os e1 xs M1 H1 _ r1 _ x1 h1 => ?_
    cases hd : dts os with
    | none => rw [hd] at h1; exact h1.elim
    | some ds =>
      rw [hd] at h1
      by_cases hl : ds.length ≤ sizeLine
      · have h1' : tPost (gl X cl) W (VR (gl X cl)) G σ Q (if ds.length ≤ sizeLine then Out.ok (fz (D.tup ds)) e1 else .stuck) := h1
        rw [if_pos hl] at h1'
        have rr := dts_reps x1 hd
        refine ⟨by rw [rr.length]; exact hl, fun p ob ho hp => ?_⟩
        have w : Ext M1 H1 (upd M1 p (.frz ob (.tup xs))) (upd H1 p (.frz ob (.tup xs))) := .newM r1.sub hp
        exact h1' _ _ _ (r1.ext w) (show Rep (gl X cl) _ _ _ from .tup (.inl (.inr ⟨_, upd_same⟩)) (rr.mono w.mono) hl fun _ => ⟨_, _, upd_same, ho⟩)
      · have h1' : tPost (gl X cl) W (VR (gl X cl)) G σ Q (if ds.length ≤ sizeLine then Out.ok (fz (D.tup ds)) e1 else .stuck) := h1
        rw [if_neg hl] at h1'
        exact h1'.elim
theorem ve_lst {es : List Expr} {ms : List (Sx Opd)} (h : PA X es (tAs (gl X cl) W (sOps ms))) : PE X (.List es pos) (tE (gl X cl) W (sLst ms)) :=
  PE_imp (pe_lst h) fun σ H Q ⟨G, e, M, r, h⟩ => by
    unfold sLst sSeqD at h
    refine tG_last r h fun os e1 xs M1 H1 _ r1 _ x1 h1 => ?_
    cases hd : dts os with
    | none => rw [hd] at h1; exact h1.elim
    | some ds =>
      rw [hd] at h1
      by_cases hl : ds.length ≤ sizeLine
      · have h1' : tPost (gl X cl) W (VR (gl X cl)) G σ Q (if ds.length ≤ sizeLine then Out.ok (nw (D.lst ds)) e1 else .stuck) := h1
        rw [if_pos hl] at h1'
        have rr := dts_reps x1 hd
        refine ⟨by rw [rr.length]; exact hl, fun p hp => ?_⟩
        have w : Ext M1 H1 M1 (upd H1 p (.lst xs)) := .new r1.sub hp
        obtain ⟨q1, q2⟩ := r1.px (v := nw (D.lst ds)) w ⟨p, _, rfl, hp, upd_same, .lst rr hl⟩ (fun _ q e => by cases e; exact r1.sub.none hp)
        exact h1' _ _ _ q1 q2
      · have h1' : tPost (gl X cl) W (VR (gl X cl)) G σ Q (if ds.length ≤ sizeLine then Out.ok (nw (D.lst ds)) e1 else .stuck) := h1
        rw [if_neg hl] at h1'
        exact h1'.elim
def oPart : Option (Sx Opd) → Sx (Option Int)
  | none => fun e => .ok none e
  | some m => fun e => (sArgs [m] e).bind fun ds e => match ds with
    | [.int i] => .ok (some i) e
    | _ => .stuck
def tPt (g : Gl0) (W : WX) (f : Sx (Option Int)) : TO := tG g W (fun _ _ _ _ _ x o => x = o) f
theorem vp_none : PO X none (tPt (gl X cl) W (oPart none)) := ⟨fun pins s σ H Q I ⟨G, e, M, r, h⟩ => (po_none.run pins s σ H Q I (h none M H r rfl))⟩
theorem vp_some {c : Expr} {m : Sx Opd} (h : PE X c (tO (gl X cl) W m)) : PO X (some c) (tPt (gl X cl) W (oPart (some m))) := by
  refine ⟨fun pins s σ H Q I ⟨G, e, M, r, hh⟩ => ((po_some h).run pins s σ H Q I ?_)⟩
  unfold oPart sArgs sOps at hh
  simp only at hh
  rw [Out.bind_assoc, Out.bind_assoc] at hh
  refine tG_last r hh fun o e1 x M1 H1 _ r1 _ x1 h1 => ?_
  have h1' : tPost (gl X cl) W (fun _ _ _ _ _ x o => x = o) G σ Q ((match ress e1 [o] with | some ds => Out.ok ds e1 | none => .stuck).bind fun ds e => match ds with
    | [.int i] => .ok (some i) e
    | _ => .stuck) := h1
  cases hr : ress e1 [o] with
  | none => rw [hr] at h1'; exact h1'.elim
  | some ds =>
    rw [hr] at h1'
    have pr := r1.ress hr (.cons x1 .nil)
    cases pr with
    | cons q1 q2 =>
      cases q2
      rename_i d
      cases d with
      | int i => exact ⟨i, q1.int, h1' (some i) M1 H1 r1 rfl⟩
      | _ => exact h1'.elim
def sSlice (m : Sx Opd) (lo hi : Option (Sx Opd)) : Sx Vl := fun e => (m e).bind fun o e => (oPart lo e).bind fun l e => (oPart hi e).bind fun h e => match res e o with
  | some d => (match pSlice l h d with
    | some v => .ok v e
    | none => .stuck)
  | none => .stuck
theorem ve_slice {c : Expr} {m : Sx Opd} {lo hi : Option Expr} {ml mh : Option (Sx Opd)} {p2 : Pos} (h : PE X c (tO (gl X cl) W m)) (hl : PO X lo (tPt (gl X cl) W (oPart ml))) (hh : PO X hi (tPt (gl X cl) W (oPart mh))) : PE X (.Subscript c (.Slice lo hi none p2) pos) (tE (gl X cl) W (sSlice m ml mh)) :=
  PE_imp (pe_slice sl_P h hl hh) fun σ H Q ⟨G, e, M, r, h⟩ => by
    unfold sSlice at h
    refine tG_last r h fun o e1 x M1 H1 _ r1 _ x1 h1 => ?_
    refine tG_bind r1 h1 fun l e2 l' M2 H2 _ r2 e2' h2 => ?_
    subst e2'
    refine tG_bind (r1.back r2) h2 fun u e3 u' M3 H3 _ r3 e3' h3 => ?_
    subst e3'
    have r3' := (r1.back r2).back r3
    have sm : Sub M1 M3 := r2.base.trans r3.base
    cases hr : res e3 o with
    | none => rw [hr] at h3; exact h3.elim
    | some d =>
      rw [hr] at h3
      have h3' : tPost (gl X cl) W (VR (gl X cl)) G σ Q (match pSlice l' u' d with | some v => Out.ok v e3 | none => .stuck) := h3
      cases hp : pSlice l' u' d with
      | none => rw [hp] at h3'; exact h3'.elim
      | some v =>
        rw [hp] at h3'
        refine ⟨M3, d, v, r3'.sub, r3'.res hr (x1.mono sm), hp, fun z M' H' w px hm => ?_⟩
        obtain ⟨q1, q2⟩ := r3'.px w px hm
        exact h3' z M' H' q1 q2
def pRev : List D → Option Vl
  | [.lst l] => some (nw (.lst l.reverse))
  | _ => none
def sRev (m : Sx Opd) : Sx Vl := sPrim pRev [m]
theorem ve_rev {c : Expr} {m : Sx Opd} {k : Nat} {p1 p2 p3 : Pos} (h : PE X c (tO (gl X cl) W m)) : PE X (.Subscript c (.Slice none none (some (.UnaryOp .USub (.Constant (.int 1) k p1) p2)) p3) pos) (tE (gl X cl) W (sRev m)) :=
  PE_imp (pe_revL h) fun σ H Q ⟨G, e, M, r, h⟩ => by
    obtain ⟨G', e', M', r', h'⟩ := one_op r h
    refine ⟨G', e', M', r', ?_⟩
    cases q : m e' with
    | stuck => rw [q] at h'; exact h'
    | exc x e1 => rw [q] at h'; exact h'
    | ok o e1 =>
      rw [q] at h'
      intro x M1 H1 r1 x1
      obtain ⟨M2, ds, v, sm, pr, hp, k⟩ := h' x M1 H1 r1 x1
      unfold pRev at hp
      split at hp
      · cases hp
        obtain ⟨y, e, q⟩ := preps1 pr
        cases e
        obtain ⟨a, vs, ex, hs, hr, hz⟩ := q.lst sm
        exact ⟨a, vs, ex, .of hs, rPs.nwl k sm hr.reverse (by rw [List.length_reverse]; exact hz)⟩
      · cases hp
def pFld (at_ : Str → Str → Bool) (f : Str) : List D → Option Vl
  | [.obj c fs] => if at_ c f = true then (fs.lookup f).map fz else none
  | _ => none
def sFld (at_ : Str → Str → Bool) (f : Str) (m : Sx Opd) : Sx Vl := sPrim (pFld at_ f) [m]
theorem ve_fld {at_ : Str → Str → Bool} {c : Expr} {f : Str} {m : Sx Opd} (hat : ∀ c f C, at_ c f = true → cl c = some C → Cls X.K C ∧ NoAttr X.K C f) (h : PE X c (tO (gl X cl) W m)) (hb : attributeBase c f X.env (eval c X.env) = eval c X.env) : PE X (.Attribute c f pos) (tE (gl X cl) W (sFld at_ f m)) :=
  PE_imp (pe_fld h hb) fun σ H Q ⟨G, e, M, r, h⟩ => by
    obtain ⟨G', e', M', r', h'⟩ := one_op r h
    refine ⟨G', e', M', r', ?_⟩
    cases q : m e' with
    | stuck => rw [q] at h'; exact h'
    | exc x e1 => rw [q] at h'; exact h'
    | ok o e1 =>
      rw [q] at h'
      intro x M1 H1 r1 x1
      obtain ⟨M2, ds, v, sm, pr, hp, k⟩ := h' x M1 H1 r1 x1
      unfold pFld at hp
      split at hp
      · split at hp
        · rename_i ha
          obtain ⟨d, hd, rfl⟩ := Option.map_eq_some_iff.mp hp
          obtain ⟨y, e, q⟩ := preps1 pr
          cases e
          obtain ⟨a, C, dx, fs, ex, hs, hc, hr⟩ := q.obj sm
          obtain ⟨w, hw, rw'⟩ := hr.get hd
          obtain ⟨c1, c2⟩ := hat _ _ C ha hc
          exact ⟨a, C, dx, fs, w, ex, hs, c1, c2, hw, rPs.fz k sm rw'⟩
        · cases hp
      · cases hp
end
inductive ResB where
  | ok (v : Vl) (d : D) | exc (x : Exn) | stuck
def okModes : List Bool → List Opd → Bool
  | [], [] => true
  | b :: bs, o :: os => (b || (match o with
    | .dt _ => true
    | .sl _ => false)) && okModes bs os
  | _, _ => false
def ofRes : Res Vl → En → Out Vl
  | .ok v, e => .ok v e
  | .exc x, e => .exc x e
  | .stuck, _ => .stuck
def sCall (modes : List Bool) (f : List D → Res Vl) (ms : List (Sx Opd)) : Sx Vl := fun e => (sOps ms e).bind fun os e => if okModes modes os = true then (match ress e os with
  | some ds => ofRes (f ds) e
  | none => .stuck) else .stuck
def sCallB (modes : List Bool) (f : D → List D → ResB) (i : Nat) (ms : List (Sx Opd)) : Sx Vl := fun e => (sOps (oName i :: ms) e).bind fun os e => match os with
  | _ :: os => if okModes modes os = true then (match ress e os, e[i]? with
    | some ds, some (.ow d) => (match f d ds with
      | .ok v d' => .ok v (e.set i (.ow d'))
      | _ => .stuck)
    | some ds, some (.bx d) => (match f d ds with
      | .ok v d' => .ok v (e.set i (.bx d'))
      | _ => .stuck)
    | _, _ => .stuck) else .stuck
  | [] => .stuck
def sMake (c : Str) (modes : List Bool) (f : D → List D → ResB) (ms : List (Sx Opd)) : Sx Vl := fun e => (sOps ms e).bind fun os e => if okModes modes os = true then (match ress e os with
  | some ds => (match f (.obj c []) ds with
    | .ok v d' => (match v.d with
      | .non => .ok (nw d') e
      | _ => .stuck)
    | .exc x => .exc x e
    | .stuck => .stuck)
  | none => .stuck) else .stuck
inductive ArgR (g : Gl0) (M H : Hp) : List Bool → List V → List D → Prop
  | nil : ArgR g M H [] [] []
  | held {v : V} {d : D} {bs : List Bool} {vs : List V} {ds : List D} : Rep g M v d → ArgR g M H bs vs ds → ArgR g M H (false :: bs) (v :: vs) (d :: ds)
  | lent {v : V} {d : D} {bs : List Bool} {vs : List V} {ds : List D} : PRep g M H v d → ArgR g M H bs vs ds → ArgR g M H (true :: bs) (v :: vs) (d :: ds)
theorem argR_len {g : Gl0} {M H : Hp} : ∀ {bs : List Bool} {vs : List V} {ds : List D}, ArgR g M H bs vs ds → vs.length = bs.length
  | _, _, _, .nil => rfl
  | _, _, _, .held _ t => congrArg (· + 1) (argR_len t)
  | _, _, _, .lent _ t => congrArg (· + 1) (argR_len t)
theorem args_of {g : Gl0} {G : Gh} {e : En} {M H : Hp} {σ : L2.St} (r : Rel g G e M σ H) : ∀ {bs : List Bool} {os : List Opd} {xs : List V} {ds : List D}, okModes bs os = true → ress e os = some ds → OpdRs g M σ xs os → ArgR g M H bs xs ds
  | [], [], xs, ds, _, h, x => by cases x; cases h; exact .nil
  | [], _ :: _, _, _, h, _, _ => by cases h
  | _ :: _, [], _, _, h, _, _ => by cases h
  | b :: bs, o :: os, xs, ds, hm, h, x => by
    unfold okModes at hm
    rw [Bool.and_eq_true] at hm
    cases x with
    | cons x1 x2 =>
      have h' : (match res e o, ress e os with | some d, some ds => some (d :: ds) | _, _ => none) = some ds := h
      cases h1 : res e o with
      | none => rw [h1] at h'; cases h'
      | some d =>
        cases h2 : ress e os with
        | none => rw [h1, h2] at h'; cases h'
        | some ds' =>
          rw [h1, h2] at h'
          cases h'
          cases b with
          | true => exact .lent (r.res h1 x1) (args_of r hm.2 h2 x2)
          | false =>
            cases o with
            | dt d' => cases h1; exact .held x1 (args_of r hm.2 h2 x2)
            | sl i => exact absurd hm.1 Bool.false_ne_true
def Gives (g : Gl0) (M H : Hp) (v : Vl) (Q : VK) : Prop := ∀ z M' H', Ext M H M' H' → PX g M H M' H' z v → (v.nw = true → ∀ q, z = .ref q → M' q = none) → Q z H'
def Throws (g : Gl0) (M H : Hp) (x : Exn) (E : XK) : Prop := ∀ c d M' H', Ext M H M' H' → ExR g M' c d x → E c d H'
def spFn (g : Gl0) (modes : List Bool) (f : List D → Res Vl) : Sp := fun vs H Q E => ∃ M ds, Sub M H ∧ ArgR g M H modes vs ds ∧ match f ds with
  | .ok v => Gives g M H v Q
  | .exc x => Throws g M H x E
  | .stuck => False
structure ExtB (b : Addr) (M H M' H' : Hp) : Prop where
  keep : ∀ a o, a ≠ b → H a = some o → H' a = some o
  mono : Sub M M'
  sub : Sub M' H'
  fresh : ∀ a, M' a ≠ none → M a ≠ none ∨ H a = none
def spBx (g : Gl0) (modes : List Bool) (f : D → List D → ResB) : Sp := fun vs H Q E => ∃ b o d0 M us ds, vs = .ref b :: us ∧ H b = some o ∧ RepO g M b o d0 ∧ M b = none ∧ Sub M H ∧ ArgR g M H modes us ds ∧ match f d0 ds with
  | .ok v d1 => ∀ z M' H' o', ExtB b M H M' H' → H' b = some o' → RepO g M' b o' d1 → PX g M H M' H' z v → (v.nw = true → ∀ q, z = .ref q → M' q = none) → Q z H'
  | .exc x => ∀ c d M' H', ExtB b M H M' H' → ExR g M' c d x → E c d H'
  | .stuck => False
section
variable {X : Cx} {cl : Str → Option Addr} {W : WX} {pos : Pos}
abbrev WAt (W : WX) (σ : L2.St) : XK := fun c d H => W c d σ H
theorem ve_call {CX : CXT} {k : Nat} {f : Addr} {fd : FuncData} {ps : List Str} {modes : List Bool} {F : List D → Res Vl} {x : Str} {p : Pos} {a : Expr} {es : List Expr} {ms : List (Sx Opd)} (FO : FnOk X.prog X.w X.K X.mg X.base CX k f fd ps (spFn (gl X cl) modes F)) (hr : Room k X.A) (hg : Gl X x) (hm : X.mg x = some (.ref f)) (hk : PySem.W.keepIn X.K (.ref f) = true) (hb : Binds X.K fd ps []) (hx : ∀ σ, PassesAt CX X σ (WAt W σ))
    (ha : PA X (a :: es) (tAs (gl X cl) W (sOps ms))) (hdb : (x == ("__debug__" : Str)) = false) (he : starEach (a :: es) X.env = (false, eval a X.env) :: starEach es X.env) (hpl : (backTo pos (starEach es X.env)).any (·.1) = false) :
    PE X (.Call (.Name x p) (a :: es) [] pos) (tE (gl X cl) W (sCall modes F ms)) :=
  PE_imp (pe_callSD (E := WAt W) FO hr hg hm hk hb .nil hx ha hdb he hpl) fun σ H Q ⟨G, e, M, r, h⟩ => by
    unfold sCall at h
    refine tG_last r h fun os e1 xs M1 H1 _ r1 _ x1 h1 => ?_
    by_cases hm : okModes modes os = true
    · rw [if_pos hm] at h1
      cases hr : ress e1 os with
      | none => rw [hr] at h1; exact h1.elim
      | some ds =>
        rw [hr] at h1
        have h1' : tPost (gl X cl) W (VR (gl X cl)) G σ Q (ofRes (F ds) e1) := h1
        refine ⟨M1, ds, r1.sub, by rw [List.append_nil]; exact args_of r1 hm hr x1, ?_⟩
        cases hF : F ds with
        | ok v =>
          rw [hF] at h1'
          intro z M' H' w px hn
          obtain ⟨q1, q2⟩ := r1.px w px hn
          exact h1' z M' H' q1 q2
        | exc x =>
          rw [hF] at h1'
          intro c d M' H' w xr
          exact h1' c d M' H' (r1.ext w) xr
        | stuck => rw [hF] at h1'; exact h1'
    · rw [if_neg hm] at h1
      exact h1.elim
theorem Rel.extB {g : Gl0} {G : Gh} {e : En} {M H M' H' : Hp} {σ : L2.St} (r : Rel g G e M σ H) {i : Nat} {s s' : Slot} {b : Addr} {d d' : D} {o' : HO} (hs : e[i]? = some s) (hb : σ[i]? = some (some (.ref b))) (hd : (s = .ow d ∧ s' = .ow d') ∨ (s = .bx d ∧ s' = .bx d')) (w : ExtB b M H M' H') (hb' : H' b = some o') (ro : RepO g M' b o' d') : Rel g G (e.set i s') M' σ H' := by
  have so : s.own := by rcases hd with ⟨rfl, _⟩ | ⟨rfl, _⟩ <;> trivial
  have own : Owns e σ i b := ⟨s, hs, so, hb⟩
  obtain ⟨mb, _, o, hb0⟩ := r.owned own
  have mb' : M' b = none := by
    cases q : M' b with
    | none => rfl
    | some u =>
      rcases w.fresh b (by rw [q]; exact Option.some_ne_none u) with z | z
      · exact absurd mb z
      · rw [hb0] at z; cases z
  have w' : Ext M H M' (upd H' b o) := by
    refine ⟨fun a u q => ?_, w.mono, fun a u q => ?_, w.fresh⟩
    · by_cases z : a = b
      · subst z; rw [upd_same]; rw [hb0] at q; exact q
      · rw [upd_ne z]; exact w.keep a u z q
    · by_cases z : a = b
      · subst z; rw [mb'] at q; cases q
      · rw [upd_ne z]; exact w.sub a u q
  have r' := (r.ext w').mut (s' := s') (o' := o') (d' := d') hs hb (by rcases hd with ⟨e1, e2⟩ | ⟨e1, e2⟩; exact .inl ⟨d, e1, e2⟩; exact .inr ⟨d, e1, e2⟩) ro
  have eH : upd (upd H' b o) b o' = H' := by
    funext a
    by_cases z : a = b
    · subst z; rw [upd_same, hb']
    · rw [upd_ne z, upd_ne z]
  rw [eH] at r'
  exact r'
theorem px_new {g : Gl0} {G : Gh} {e : En} {M H M' H' : Hp} {σ : L2.St} {v : Vl} {z : V} (r : Rel g G e M σ H) (r' : Rel g G e M' σ H' ∨ True) (px : PX g M H M' H' z v) (hn : v.nw = true → ∀ q, z = .ref q → M' q = none) (own : ∀ i a, Owns e σ i a → H a ≠ none) : VR g G e M' σ H' z v := by
  obtain ⟨d, b⟩ := v
  cases b with
  | false => exact px
  | true =>
    obtain ⟨p, o, rfl, hp, hp', ro⟩ := px
    exact ⟨p, o, rfl, hp', ro, hn rfl p rfl, r.h0none hp, fun z => r.bl p z hp, fun z => (r.lent p z).1 hp, fun i q => own i p q hp⟩
theorem VR.setE {g : Gl0} {G : Gh} {e : En} {M H : Hp} {σ : L2.St} {v : Vl} {z : V} {i : Nat} {s s' : Slot} (h : VR g G e M σ H z v) (hs : e[i]? = some s) (so : s'.own → s.own) : VR g G (e.set i s') M σ H z v := by
  obtain ⟨d, b⟩ := v
  cases b with
  | false => exact h
  | true =>
    obtain ⟨p, o, rfl, hp, ro, mp, h0, nb, nr, ne⟩ := h
    exact ⟨p, o, rfl, hp, ro, mp, h0, nb, nr, fun j q => ne j (owns_setE hs q so)⟩
theorem ve_callB' {CX : CXT} {k : Nat} {f : Addr} {fd : FuncData} {ps : List Str} {modes : List Bool} {F : D → List D → ResB} {x : Str} {p : Pos} {i : Nat} {a : Expr} {es : List Expr} {ms : List (Sx Opd)} (FO : FnOk X.prog X.w X.K X.mg X.base CX k f fd ps (spBx (gl X cl) modes F)) (hr : Room k X.A) (hg : Gl X x) (hm : X.mg x = some (.ref f)) (hk : PySem.W.keepIn X.K (.ref f) = true) (hb : Binds X.K fd ps []) (hx : ∀ σ, PassesAt CX X σ (WAt W σ))
    (ha : PA X (a :: es) (tAs (gl X cl) W (sOps (oName i :: ms)))) (hdb : (x == ("__debug__" : Str)) = false) (he : starEach (a :: es) X.env = (false, eval a X.env) :: starEach es X.env) (hpl : (backTo pos (starEach es X.env)).any (·.1) = false) :
    PE X (.Call (.Name x p) (a :: es) [] pos) (tE (gl X cl) W (sCallB modes F i ms)) :=
  PE_imp (pe_callSD (E := WAt W) FO hr hg hm hk hb .nil hx ha hdb he hpl) fun σ H Q ⟨G, e, M, r, h⟩ => by
    unfold sCallB at h
    refine tG_last r h fun os e1 xs M1 H1 hq r1 _ x1 h1 => ?_
    have hos : ∃ os', os = .sl i :: os' := by
      unfold sOps at hq
      cases q : oName i e with
      | stuck => rw [q] at hq; cases hq
      | exc x e' => rw [q] at hq; cases hq
      | ok o e' =>
        rw [q] at hq
        have ho : o = .sl i := by
          unfold oName at q
          split at q
          · split at q
            · cases q; rfl
            · cases q
          · cases q
        subst ho
        cases q2 : sOps ms e' with
        | stuck => rw [Out.bind_ok, q2] at hq; cases hq
        | exc x e' => rw [Out.bind_ok, q2] at hq; cases hq
        | ok os' e'' => rw [Out.bind_ok, q2] at hq; cases hq; exact ⟨os', rfl⟩
    obtain ⟨os', rfl⟩ := hos
    cases x1 with
    | cons xa xr =>
      rename_i y ys
      have h1' : tPost (gl X cl) W (VR (gl X cl)) G σ Q (if okModes modes os' = true then (match ress e1 os', e1[i]? with
        | some ds, some (.ow d) => (match F d ds with
          | .ok v d' => .ok v (e1.set i (.ow d'))
          | _ => .stuck)
        | some ds, some (.bx d) => (match F d ds with
          | .ok v d' => .ok v (e1.set i (.bx d'))
          | _ => .stuck)
        | _, _ => .stuck) else .stuck) := h1
      by_cases hm : okModes modes os' = true
      · rw [if_pos hm] at h1'
        cases hr : ress e1 os' with
        | none => rw [hr] at h1'; exact h1'.elim
        | some ds =>
          have ar := args_of r1 hm hr xr
          rw [hr] at h1'
          cases hs : e1[i]? with
          | none => rw [hs] at h1'; exact h1'.elim
          | some s =>
            rw [hs] at h1'
            have hσ : σ[i]? = some (some y) := xa
            have sl := r1.slot i s _ hs hσ
            have go : ∀ (b : Addr) (o : HO) (d : D) (mk : D → Slot), y = .ref b → H1 b = some o → RepO (gl X cl) M1 b o d → M1 b = none → s.own → (∀ d', (s = .ow d ∧ mk d' = .ow d') ∨ (s = .bx d ∧ mk d' = .bx d')) →
                tPost (gl X cl) W (VR (gl X cl)) G σ Q (match F d ds with | .ok v d' => Out.ok v (e1.set i (mk d')) | _ => .stuck) → spBx (gl X cl) modes F (y :: ys ++ []) H1 Q (WAt W σ) := by
              intro b o d mk ey hb ro mb so hk h2
              subst ey
              refine ⟨b, o, d, M1, ys, ds, by rw [List.append_nil], hb, ro, mb, r1.sub, ar, ?_⟩
              cases hF : F d ds with
              | ok v d' =>
                rw [hF] at h2
                intro z M' H' o' w hb' ro' px hn
                have r2 := r1.extB hs hσ (hk d') w hb' ro'
                have vr : VR (gl X cl) G e1 M' σ H' z v := px_new r1 (.inr trivial) px hn fun j a q => by
                  obtain ⟨_, _, o', h'⟩ := r1.owned q
                  rw [h']; exact Option.some_ne_none o'
                exact h2 z M' H' r2 (vr.setE hs fun _ => so)
              | exc x => rw [hF] at h2; exact h2.elim
              | stuck => rw [hF] at h2; exact h2.elim
            cases s with
            | ow d =>
              obtain ⟨b, o, e2, hb, ro, mb, _⟩ := sl
              cases e2
              exact go b o d Slot.ow rfl hb ro mb trivial (fun d' => .inl ⟨rfl, rfl⟩) h1'
            | bx d =>
              obtain ⟨b, o, e2, hb, ro, mb, _⟩ := sl
              cases e2
              exact go b o d Slot.bx rfl hb ro mb trivial (fun d' => .inr ⟨rfl, rfl⟩) h1'
            | _ => exact h1'.elim
      · rw [if_neg hm] at h1'
        exact h1'.elim
theorem ve_make {CX : CXT} {k : Nat} {C f : Addr} {fd : FuncData} {ps : List Str} {modes : List Bool} {F : D → List D → ResB} {c x : Str} {p : Pos} {a : Expr} {es : List Expr} {ms : List (Sx Opd)} (hc : cl c = some C) (MK : Mk X.K C f) (FO : FnOk X.prog X.w X.K X.mg X.base CX k f fd ps (spBx (gl X cl) modes F)) (hr : Room (k + 1) X.A) (hg : Gl X x) (hm : X.mg x = some (.ref C)) (hb : Binds X.K fd ps [])
    (hpm : ∀ (t : TA), PA X (a :: es) t → PE X (.Call (.Name x p) (a :: es) [] pos) (fun σ H Q => tMake C (spBx (gl X cl) modes F) [] (WAt W σ) t σ H Q))
    (ha : PA X (a :: es) (tAs (gl X cl) W (sOps ms))) :
    PE X (.Call (.Name x p) (a :: es) [] pos) (tE (gl X cl) W (sMake c modes F ms)) :=
  PE_imp (hpm _ ha) fun σ H Q ⟨G, e, M, r, h⟩ => by
    unfold sMake at h
    refine tG_last r h fun os e1 xs M1 H1 _ r1 _ x1 h1 => ?_
    intro b dx hb0 hdx0 hne
    have r2 : Ext M1 H1 M1 (upd (upd H1 dx (.own b)) b (.ins C dx [])) := by
      have w1 : Ext M1 H1 M1 (upd H1 dx (.own b)) := .new r1.sub hdx0
      exact w1.trans (.new w1.sub (by rw [upd_ne hne.symm]; exact hb0))
    by_cases hm : okModes modes os = true
    · rw [if_pos hm] at h1
      cases hr : ress e1 os with
      | none => rw [hr] at h1; exact h1.elim
      | some ds =>
        rw [hr] at h1
        have ar := args_of (r1.ext r2) hm hr x1
        have h1' : tPost (gl X cl) W (VR (gl X cl)) G σ Q (match F (.obj c []) ds with
          | .ok v d' => (match v.d with
            | .non => .ok (nw d') e1
            | _ => .stuck)
          | .exc x => .exc x e1
          | .stuck => .stuck) := h1
        refine ⟨b, _, .obj c [], M1, xs, ds, by rw [List.append_nil], upd_same, .obj hc .nil, r1.sub.none hb0, r2.sub, ar, ?_⟩
        have tr : ∀ {M' H' : Hp}, ExtB b M1 (upd (upd H1 dx (.own b)) b (.ins C dx [])) M' H' → Ext M1 H1 M' H' := fun {M' H'} w => by
          refine ⟨fun a o q => ?_, w.mono, w.sub, fun a q => ?_⟩
          · have nb : a ≠ b := ne_of_none q hb0
            exact w.keep a o nb (r2.keep a o q)
          · rcases w.fresh a q with z | z
            · exact .inl z
            · by_cases e : a = b
              · subst e; exact .inr hb0
              · rw [upd_ne e] at z
                by_cases e' : a = dx
                · subst e'; exact .inr hdx0
                · rw [upd_ne e'] at z; exact .inr z
        cases hF : F (.obj c []) ds with
        | ok v d1 =>
          rw [hF] at h1'
          intro z M' H' o' w hb' ro' px hn
          obtain ⟨dv, bv⟩ := v
          cases dv with
          | non =>
            refine ⟨?_, ?_⟩
            · cases bv with
              | false => cases px; rfl
              | true => obtain ⟨p, o, _, _, _, ro⟩ := px; cases ro
            · have mb : M' b = none := by
                cases q : M' b with
                | none => rfl
                | some u =>
                  rcases w.fresh b (by rw [q]; exact Option.some_ne_none u) with z | z
                  · exact absurd (r1.sub.none hb0) z
                  · rw [upd_same] at z; cases z
              obtain ⟨q1, q2⟩ := r1.px (v := nw d1) (tr w) ⟨b, o', rfl, hb0, hb', ro'⟩ (fun _ q e => by cases e; exact mb)
              exact h1' _ M' H' q1 q2
          | _ => exact h1'.elim
        | exc x =>
          rw [hF] at h1'
          intro c' d M' H' w xr
          exact h1' c' d M' H' (r1.ext (tr w)) xr
        | stuck => rw [hF] at h1'; exact h1'
    · rw [if_neg hm] at h1
      exact h1.elim
end
end Ev
set_option Elab.async false
set_option linter.all false
set_option autoImplicit false
set_option maxRecDepth 100000
namespace Ev
open PySem L2
structure Src where
  items : List D
  chk : Option (Nat × D)
def Src.ok (s : Src) (e : En) : Prop := match s.chk with
  | none => True
  | some (i, d) => res e (.sl i) = some d
structure JOk (g : Gl0) (J : It) (items : List D) (S : Hp → Hp → Prop) : Prop where
  go : ∀ i M H, S M H → Sub M H → i < items.length → J.go i H
  stop : ∀ M H, S M H → Sub M H → J.stop items.length H
  yld : ∀ i M H x H', S M H → Sub M H → J.yld i H x H' → ∀ d, items[i]? = some d → ∃ M', Ext M H M' H' ∧ Rep g M' x d
def SrcR (g : Gl0) : RR Src It := fun _ e M σ H J s => ∃ S : Hp → Hp → Prop, JOk g J s.items S ∧ s.items.length ≤ sizeLine ∧
  ∀ G' e' M' H' σ', Rel g G' e' M' σ' H' → Sub M M' → s.ok e' → (∀ i d, s.chk = some (i, d) → σ'[i]? = σ[i]?) → S M' H'
def tI (g : Gl0) (W : WX) (f : Sx Src) : TI := tG g W (SrcR g) f
def chkOf : Opd → D → Option (Nat × D)
  | .sl i, d => some (i, d)
  | .dt _, _ => none
def signs (z : Str) : List D := z.cps.toList.map fun c => .str ⟨#[c]⟩
def sSeq (m : Sx Opd) : Sx Src := fun e => (m e).bind fun o e => match res e o with
  | some (.lst ds) => .ok ⟨ds, chkOf o (.lst ds)⟩ e
  | some (.tup ds) => .ok ⟨ds, chkOf o (.tup ds)⟩ e
  | some (.str z) => .ok ⟨signs z, none⟩ e
  | _ => .stuck
def iSeq (K : PySem.W.Frag) (tl : TE) : TI := fun σ H R => tl σ H fun x H1 => (∃ a, x = .ref a ∧ (∃ xs, SqL K H1 a xs) ∧ R (Itl K a) H1) ∨ (∃ a, x = .ref a ∧ (∃ xs, SqT K H1 a xs) ∧ R (Itt K a) H1) ∨ ∃ z, x = .str z ∧ R (Its z) H1
theorem jok_list {g : Gl0} {a : Addr} {ds : List D} : JOk g (Itl g.K a) ds (fun M H => PRep g M H (.ref a) (.lst ds)) where
  go := fun i M H st sm hi => by
    obtain ⟨b, vs, e, hs, hr, _⟩ := st.lst sm
    cases e
    obtain ⟨v, hv, _⟩ := hr.get (List.getElem?_eq_getElem hi)
    exact ⟨vs, v, .of hs, hv⟩
  stop := fun M H st sm => by
    obtain ⟨b, vs, e, hs, hr, _⟩ := st.lst sm
    cases e
    exact ⟨vs, .of hs, by rw [hr.length]; exact Nat.le_refl _⟩
  yld := fun i M H x H' st sm y d hd => by
    obtain ⟨b, vs, e, hs, hr, _⟩ := st.lst sm
    cases e
    obtain ⟨e, y⟩ := y
    subst e
    obtain ⟨v, hv, rv⟩ := hr.get hd
    have := y vs (.of hs)
    rw [hv] at this; cases this
    exact ⟨M, .refl sm, rv⟩
theorem jok_tup {g : Gl0} {a : Addr} {ds : List D} : JOk g (Itt g.K a) ds (fun M H => PRep g M H (.ref a) (.tup ds)) where
  go := fun i M H st sm hi => by
    obtain ⟨b, vs, e, hs, hr, _⟩ := st.tup sm
    cases e
    obtain ⟨v, hv, _⟩ := hr.get (List.getElem?_eq_getElem hi)
    exact ⟨vs, v, hs, hv⟩
  stop := fun M H st sm => by
    obtain ⟨b, vs, e, hs, hr, _⟩ := st.tup sm
    cases e
    exact ⟨vs, hs, by rw [hr.length]; exact Nat.le_refl _⟩
  yld := fun i M H x H' st sm y d hd => by
    obtain ⟨b, vs, e, hs, hr, _⟩ := st.tup sm
    cases e
    obtain ⟨e, y⟩ := y
    subst e
    obtain ⟨v, hv, rv⟩ := hr.get hd
    have := y vs hs
    rw [hv] at this; cases this
    exact ⟨M, .refl sm, rv⟩
theorem jok_str {g : Gl0} {z : Str} (hz : PyData.strOk z = true) : JOk g (Its z) (signs z) (fun _ _ => True) where
  go := fun i M H _ _ hi => by
    show i < z.cps.size
    unfold signs at hi
    rw [List.length_map, Array.length_toList] at hi
    exact hi
  stop := fun M H _ _ => by
    show z.cps.size ≤ (signs z).length
    unfold signs
    rw [List.length_map, Array.length_toList]
    exact Nat.le_refl _
  yld := fun i M H x H' _ sm y d hd => by
    obtain ⟨e, c, hc, rfl⟩ := y
    subst e
    unfold signs at hd
    rw [List.getElem?_map, Array.getElem?_toList, hc] at hd
    cases hd
    exact ⟨M, .refl sm, .str _ ⟨strOk_one hz (by rw [← Array.getElem?_toList] at hc; exact List.mem_of_getElem? hc), by rw [sizeLine_eq]; exact (show (1 : Nat) ≤ 16777216 by decide)⟩⟩
theorem jok_range {g : Gl0} {lo : Int} {n : Nat} : JOk g (Itr lo n) ((List.range n).map fun k => D.int (lo + (k : Nat))) (fun _ _ => True) where
  go := fun i M H _ _ hi => by
    show i < n
    rw [List.length_map, List.length_range] at hi
    exact hi
  stop := fun M H _ _ => by
    show n ≤ _
    rw [List.length_map, List.length_range]
    exact Nat.le_refl _
  yld := fun i M H x H' _ sm y d hd => by
    obtain ⟨e, rfl⟩ := y
    subst e
    rw [List.getElem?_map] at hd
    cases hr : (List.range n)[i]? with
    | none => rw [hr] at hd; cases hd
    | some k =>
      rw [hr] at hd
      have : k = i := by
        have := List.getElem?_eq_some_iff.mp hr
        obtain ⟨h1, h2⟩ := this
        rw [List.getElem_range] at h2
        exact h2.symm
      subst this
      cases hd
      exact ⟨M, .refl sm, .int _⟩
section
variable {X : Cx} {cl : Str → Option Addr} {W : WX} {tg : Expr}
theorem pi_seq {l : Expr} {tl : TE} (hl : PE X l tl) : PI X tg l (iSeq X.K tl) := by
  refine ⟨fun pins s σ H R I h => ?_⟩
  refine thn (hl.run pins s σ H _ I h) fun v s1 ⟨x, H1, I1, r1, q1⟩ => ?_
  rcases q1 with ⟨a, e, ⟨xs, hq⟩, q⟩ | ⟨a, e, ⟨xs, hq⟩, q⟩ | ⟨z, e, q⟩
  · subst e
    cases r1
    obtain ⟨its, rv, p, hz⟩ := I1.list hq
    refine wpAny_pyIter_list p.isList ?_
    refine ⟨s1.heap.objs.size, [s1.heap.objs.size], _, _, H1, rfl, I1.kept (t' := s1.toks) fun b o e => Heap.get?_push_of_some _ e, turn_list a _, ⟨_, Heap.get?_push_size _ rfl, rfl, rfl⟩, fun b hb => ?_, q⟩
    have e : b = s1.heap.objs.size := by simpa using hb
    subst e
    exact I1.fpOk (Nat.le_refl _) (I1.hok.fresh (Nat.le_refl _))
  · subst e
    cases r1
    obtain ⟨its, rv, p, hz⟩ := I1.tuple hq
    refine wpAny_pyIter_tuple (show s1.heap.IsTuple a its.toArray from p) ?_
    refine ⟨s1.heap.objs.size, [s1.heap.objs.size], _, _, H1, rfl, I1.kept (t' := s1.toks) fun b o e => Heap.get?_push_of_some _ e, turn_tuple a _, ⟨_, Heap.get?_push_size _ rfl, rfl, rfl⟩, fun b hb => ?_, q⟩
    have e : b = s1.heap.objs.size := by simpa using hb
    subst e
    exact I1.fpOk (Nat.le_refl _) (I1.hok.fresh (Nat.le_refl _))
  · subst e
    obtain ⟨t, rfl⟩ := r1
    cases ha : z.cps.all (· < 128)
    · exact wpAny_pyIter_wide ha (pi_one (tk := s1.toks) I1 _ (turn_str _ z t "str_iterator" (.inr rfl)) ⟨_, Heap.get?_push_size _ rfl, rfl, rfl⟩ q)
    · exact wpAny_pyIter_ascii ha (pi_one (tk := s1.toks) I1 _ (turn_str _ z t "str_ascii_iterator" (.inl rfl)) ⟨_, Heap.get?_push_size _ rfl, rfl, rfl⟩ q)
theorem PI_imp {e : Expr} {t t' : TI} (h : PI X tg e t) (k : ∀ σ H Q, t' σ H Q → t σ H Q) : PI X tg e t' := ⟨fun pins s σ H Q I w => h.run pins s σ H Q I (k σ H Q w)⟩
theorem vi_seq {l : Expr} {m : Sx Opd} (h : PE X l (tO (gl X cl) W m)) : PI X tg l (tI (gl X cl) W (sSeq m)) :=
  PI_imp (pi_seq h) fun σ H Q ⟨G, e, M, r, h⟩ => by
    unfold sSeq at h
    refine tG_last r h fun o e1 x M1 H1 _ r1 _ x1 h1 => ?_
    have per : ∀ (d : D), res e1 o = some d → ∀ G' e' M' H' σ', Rel (gl X cl) G' e' M' σ' H' → Sub M1 M' → (Src.mk [] (chkOf o d)).ok e' → (∀ i d', chkOf o d = some (i, d') → σ'[i]? = σ[i]?) → PRep (gl X cl) M' H' x d := by
      intro d hd G' e' M' H' σ' r' sm hok hσ
      cases o with
      | dt d' => cases hd; exact .inl (Rep.mono sm x1)
      | sl i => exact r'.res hok (by show σ'[i]? = some (some x); rw [hσ i d rfl]; exact x1)
    cases hr : res e1 o with
    | none => rw [hr] at h1; exact h1.elim
    | some d =>
      rw [hr] at h1
      have pr := r1.res hr x1
      cases d with
      | lst ds =>
        obtain ⟨a, vs, rfl, hs, _, hz⟩ := pr.lst r1.sub
        exact .inl ⟨a, rfl, ⟨vs, .of hs⟩, h1 _ M1 H1 r1 ⟨_, jok_list, hz, fun G' e' M' H' σ' q1 q2 q3 q4 => per _ hr G' e' M' H' σ' q1 q2 q3 q4⟩⟩
      | tup ds =>
        obtain ⟨a, vs, rfl, hs, _, _, hz⟩ := pr.tup r1.sub
        exact .inr (.inl ⟨a, rfl, ⟨vs, hs⟩, h1 _ M1 H1 r1 ⟨_, jok_tup, hz, fun G' e' M' H' σ' q1 q2 q3 q4 => per _ hr G' e' M' H' σ' q1 q2 q3 q4⟩⟩)
      | str z =>
        obtain ⟨rfl, e2, e3⟩ := pr.str
        exact .inr (.inr ⟨z, rfl, h1 _ M1 H1 r1 ⟨_, jok_str e2, by show (signs z).length ≤ _; unfold signs; rw [List.length_map, Array.length_toList]; exact e3, fun _ _ _ _ _ _ _ _ _ => trivial⟩⟩)
      | _ => exact h1.elim
def sRange (ms : List (Sx Opd)) : Sx Src := fun e => (sArgs ms e).bind fun ds e => match ds with
  | [.int j] => if -(2 ^ 62) ≤ j ∧ j < 2 ^ 62 ∧ j.toNat ≤ sizeLine then .ok ⟨(List.range j.toNat).map fun (k : Nat) => .int (0 + (k : Nat)), none⟩ e else .stuck
  | [.int i, .int j] => if (-(2 ^ 62) ≤ i ∧ i < 2 ^ 62 ∧ -(2 ^ 62) ≤ j ∧ j < 2 ^ 62) ∧ (j - i).toNat ≤ sizeLine then .ok ⟨(List.range (j - i).toNat).map fun (k : Nat) => .int (i + (k : Nat)), none⟩ e else .stuck
  | _ => .stuck
theorem range_end {g : Gl0} {G : Gh} {e1 : En} {M H : Hp} {σ : L2.St} {α : Type} {R : RR α It} {Q : It → Hp → Prop} {os : List Opd} {xs : List V} {f : List D → En → Out α} (r1 : Rel g G e1 M σ H) (x1 : OpdRs g M σ xs os)
    (h1 : tPost g W R G σ Q ((match ress e1 os with | some ds => Out.ok ds e1 | none => .stuck).bind f)) : ∃ ds, PReps g M H xs ds ∧ tPost g W R G σ Q (f ds e1) := by
  cases hr : ress e1 os with
  | none => rw [hr] at h1; exact h1.elim
  | some ds => rw [hr] at h1; exact ⟨ds, r1.ress hr x1, h1⟩
theorem vi_range1 {a : Expr} {m : Sx Opd} {p pos : Pos} (hg : Gl X "range") (hm : X.mg "range" = none) (ha : PA X [a] (tAs (gl X cl) W (sOps [m]))) (hs : starEach [a] X.env = [(false, eval a X.env)]) : PI X tg (.Call (.Name "range" p) [a] [] pos) (tI (gl X cl) W (sRange [m])) :=
  PI_imp (pi_range1 hg hm ha hs) fun σ H Q ⟨G, e, M, r, h⟩ => by
    unfold sRange sArgs at h
    rw [Out.bind_assoc] at h
    refine tG_last r h fun os e1 xs M1 H1 hq r1 _ x1 h1 => ?_
    obtain ⟨ds, pr, h2⟩ := range_end r1 x1 h1
    cases pr with
    | nil => exact h2.elim
    | cons q1 q2 =>
      rename_i x xs' d ds'
      cases q2 with
      | nil =>
        cases d with
        | int j =>
          have h2' : tPost (gl X cl) W (SrcR (gl X cl)) G σ Q (if -(2 ^ 62) ≤ j ∧ j < 2 ^ 62 ∧ j.toNat ≤ sizeLine then Out.ok ⟨(List.range j.toNat).map fun (k : Nat) => .int (0 + (k : Nat)), none⟩ e1 else .stuck) := h2
          split at h2'
          · rename_i hc
            refine ⟨j, by rw [q1.int], hc.1, hc.2.1, h2' _ M1 H1 r1 ⟨_, jok_range, by rw [List.length_map, List.length_range]; exact hc.2.2, fun _ _ _ _ _ _ _ _ _ => trivial⟩⟩
          · exact h2'.elim
        | _ => exact h2.elim
      | cons q2 q3 =>
        exfalso
        unfold sOps at hq
        cases q : m e with
        | stuck => rw [q] at hq; cases hq
        | exc x e' => rw [q] at hq; cases hq
        | ok o e' =>
          rw [q, Out.bind_ok] at hq
          unfold sOps at hq
          rw [Out.bind_ok] at hq
          cases hq
          cases x1 with
          | cons _ x2 => cases x2
theorem vi_range2 {a b : Expr} {m n : Sx Opd} {p pos : Pos} (hg : Gl X "range") (hm : X.mg "range" = none) (ha : PA X [a, b] (tAs (gl X cl) W (sOps [m, n]))) (hs : starEach [a, b] X.env = [(false, eval a X.env), (false, eval b X.env)]) (hs2 : starEach [b] X.env = [(false, eval b X.env)]) : PI X tg (.Call (.Name "range" p) [a, b] [] pos) (tI (gl X cl) W (sRange [m, n])) :=
  PI_imp (pi_range2 hg hm ha hs hs2) fun σ H Q ⟨G, e, M, r, h⟩ => by
    unfold sRange sArgs at h
    rw [Out.bind_assoc] at h
    refine tG_last r h fun os e1 xs M1 H1 hq r1 _ x1 h1 => ?_
    obtain ⟨ds, pr, h2⟩ := range_end r1 x1 h1
    have two : os.length = 2 := by
      unfold sOps at hq
      cases q : m e with
      | stuck => rw [q] at hq; cases hq
      | exc x e' => rw [q] at hq; cases hq
      | ok o e' =>
        rw [q, Out.bind_ok] at hq
        unfold sOps at hq
        cases q' : n e' with
        | stuck => rw [q'] at hq; cases hq
        | exc x e' => rw [q'] at hq; cases hq
        | ok o' e'' =>
          rw [q', Out.bind_ok] at hq
          unfold sOps at hq
          rw [Out.bind_ok] at hq
          cases hq
          rfl
    have l2 : ds.length = 2 := by
      have : ∀ {xs : List V} {os : List Opd}, OpdRs (gl X cl) M1 σ xs os → xs.length = os.length := by
        intro xs os h
        induction h with
        | nil => rfl
        | cons _ _ ih => simp [ih]
      rw [← preps_len pr, this x1, two]
    match ds, l2, pr, h2 with
    | [d, d'], _, pr, h2 =>
      obtain ⟨x, y, rfl, q1, q2⟩ := preps2' pr
      cases d with
      | int i =>
        cases d' with
        | int j =>
          have h2' : tPost (gl X cl) W (SrcR (gl X cl)) G σ Q (if (-(2 ^ 62) ≤ i ∧ i < 2 ^ 62 ∧ -(2 ^ 62) ≤ j ∧ j < 2 ^ 62) ∧ (j - i).toNat ≤ sizeLine then Out.ok ⟨(List.range (j - i).toNat).map fun (k : Nat) => .int (i + (k : Nat)), none⟩ e1 else .stuck) := h2
          split at h2'
          · rename_i hc
            exact ⟨i, j, by rw [q1.int, q2.int], hc.1, h2' _ M1 H1 r1 ⟨_, jok_range, by rw [List.length_map, List.length_range]; exact hc.2, fun _ _ _ _ _ _ _ _ _ => trivial⟩⟩
          · exact h2'.elim
        | _ => exact h2.elim
      | _ => exact h2.elim
end
end Ev
set_option Elab.async false
set_option linter.all false
set_option autoImplicit false
set_option maxRecDepth 100000
namespace Ev
open PySem L2
inductive Tg where
  | one (i : Nat) | many (is : List Nat) | nest (i : Nat) (is : List Nat)
def setMany : List Nat → List D → En → Option En
  | [], [], e => some e
  | i :: is, d :: ds, e => setMany is ds (e.set i (.sh d))
  | _, _, _ => none
def setTg : Tg → D → En → Option En
  | .one i, d, e => some (e.set i (.sh d))
  | .many is, .tup ds, e => setMany is ds e
  | .many _, _, _ => none
  | .nest i is, .tup [d, .tup ds], e => setMany is ds (e.set i (.sh d))
  | .nest _ _, _, _ => none
def Tg.ix : Tg → List Nat
  | .one i => [i]
  | .many is => is
  | .nest i is => i :: is
def Same' (vs : List Nat) (σ σ' : L2.St) : Prop := σ'.length = σ.length ∧ ∀ j, j ∉ vs → σ'[j]? = σ[j]?
theorem Same'.refl {vs : List Nat} {σ : L2.St} : Same' vs σ σ := ⟨rfl, fun _ _ => rfl⟩
theorem Same'.trans {vs : List Nat} {a b c : L2.St} (x : Same' vs a b) (y : Same' vs b c) : Same' vs a c := ⟨y.1.trans x.1, fun j h => (y.2 j h).trans (x.2 j h)⟩
theorem Same'.set {vs : List Nat} {σ : L2.St} {i : Nat} {x : Option V} (h : i ∈ vs) : Same' vs σ (σ.set i x) := ⟨by simp, fun j hj => by
  rw [List.getElem?_set_ne]
  rintro rfl
  exact hj h⟩
theorem wipe_get {vs : List Nat} {σ : L2.St} {j : Nat} : (wipe σ vs)[j]? = if j ∈ vs then (if j < σ.length then some none else none) else σ[j]? := by
  induction vs with
  | nil => simp [wipe]
  | cons v vs ih =>
    unfold wipe
    by_cases hj : v = j
    · subst hj
      rw [List.getElem?_set_self']
      simp only [List.mem_cons, true_or, if_true]
      have hl : (wipe σ vs).length = σ.length := wipe_length σ vs
      by_cases h : v < σ.length
      · rw [if_pos h, List.getElem?_eq_getElem (by rw [hl]; exact h)]; rfl
      · rw [if_neg h, List.getElem?_eq_none (by rw [hl]; omega)]; rfl
    · rw [List.getElem?_set_ne hj, ih]
      simp only [List.mem_cons]
      have : (j = v ∨ j ∈ vs) ↔ j ∈ vs := ⟨fun h => h.elim (fun e => absurd e.symm hj) id, .inr⟩
      simp only [this]
theorem wipe_same {vs : List Nat} {σ σ' : L2.St} (h : Same' vs σ σ') : wipe σ' vs = wipe σ vs := by
  apply List.ext_getElem?
  intro j
  rw [wipe_get, wipe_get, h.1]
  by_cases hj : j ∈ vs
  · rw [if_pos hj, if_pos hj]
  · rw [if_neg hj, if_neg hj, h.2 j hj]
theorem wipe_wipe {vs : List Nat} {σ : L2.St} : wipe (wipe σ vs) vs = wipe σ vs := wipe_same ⟨wipe_length σ vs, fun j hj => by rw [wipe_get, if_neg hj]⟩
section
variable {g : Gl0} {G : Gh} {e : En} {M H M' H' : Hp} {σ : L2.St}
theorem VR.ext {p : Addr} {d : D} (w : Ext M H M' H') (h : VR g G e M σ H (.ref p) (nw d)) : VR g G e M' σ H' (.ref p) (nw d) := by
  obtain ⟨q, o, e1, hp, ro, mp, h0, nb, nr, ne⟩ := h
  cases e1
  exact ⟨p, o, rfl, w.keep _ _ hp, ro.mono w.mono, w.none hp mp, h0, nb, nr, ne⟩
theorem VR.setN {p : Addr} {d : D} {i : Nat} {s : Slot} {x : Option V} (hl : e.length = σ.length) (h : VR g G e M σ H (.ref p) (nw d)) (hs : ¬ s.own) : VR g G (e.set i s) M (σ.set i x) H (.ref p) (nw d) := by
  obtain ⟨q, o, e1, hp, ro, mp, h0, nb, nr, ne⟩ := h
  cases e1
  refine ⟨p, o, rfl, hp, ro, mp, h0, nb, nr, fun j q => ?_⟩
  rcases owns_set hl q with ⟨_, z, _⟩ | ⟨_, z⟩
  · exact hs z
  · exact ne j z
theorem many_ok {n : Nat} : ∀ {is : List Nat} {ds : List D} {xs : List V} {e e' : En} {σ : L2.St} {p : Addr} {dp : D}, Reps g M xs ds → setMany is ds e = some e' → Rel g G e M σ H → VR g G e M σ H (.ref p) (nw dp) →
    ∃ σ', Rel g G e' M σ' H ∧ VR g G e' M σ' H (.ref p) (nw dp) ∧ Same' is σ σ' ∧ xs.length = is.length ∧ ∀ (Q : L2.St → Hp → Prop), Q σ' H → (is.foldr (fun i t => gCons (gName i) t) gNil) xs σ H Q
  | [], [], xs, e, e', σ, p, dp, hr, h, r, v => by
    cases hr
    cases h
    exact ⟨σ, r, v, .refl, rfl, fun Q q => ⟨rfl, q⟩⟩
  | [], _ :: _, _, _, _, _, _, _, _, h, _, _ => by cases h
  | _ :: _, [], _, _, _, _, _, _, _, h, _, _ => by cases h
  | i :: is, d :: ds, xs, e, e', σ, p, dp, hr, h, r, v => by
    cases hr with
    | cons r1 r2 =>
      rename_i x xs
      have r' := r.setSh (i := i) r1
      have v' := v.setN (i := i) (s := .sh d) (x := some x) r.len (fun z => z)
      obtain ⟨σ', q1, q2, q3, q4, q5⟩ := many_ok (n := n) r2 (show setMany is ds (e.set i (.sh d)) = some e' from h) r' v'
      refine ⟨σ', q1, q2, ?_, by simp [q4], fun Q q => ⟨x, xs, rfl, q5 Q q⟩⟩
      have s1 : Same' (i :: is) σ (σ.set i (some x)) := .set List.mem_cons_self
      exact s1.trans ⟨q3.1, fun j hj => q3.2 j fun z => hj (List.mem_cons_of_mem _ z)⟩
def gTg (K : PySem.W.Frag) : Tg → TG
  | .one i => gName i
  | .many is => gTup K is.length (is.foldr (fun i t => gCons (gName i) t) gNil)
  | .nest i is => gTup K 2 (gCons (gName i) (gCons (gTup K is.length (is.foldr (fun i t => gCons (gName i) t) gNil)) gNil))
theorem tg_ok {t : Tg} {d : D} {x : V} {e' : En} {p : Addr} {dp : D} (hr : Rep g M x d) (h : setTg t d e = some e') (r : Rel g G e M σ H) (v : VR g G e M σ H (.ref p) (nw dp)) :
    ∃ σ', Rel g G e' M σ' H ∧ VR g G e' M σ' H (.ref p) (nw dp) ∧ Same' t.ix σ σ' ∧ ∀ (Q : L2.St → Hp → Prop), Q σ' H → gTg g.K t x σ H Q := by
  cases t with
  | one i =>
    cases h
    exact ⟨_, r.setSh hr, v.setN r.len (fun z => z), .set List.mem_cons_self, fun Q q => q⟩
  | many is =>
    cases d with
    | tup ds =>
      cases hr with
      | tup hs rr hz nodhz =>
        rename_i a vs
        obtain ⟨σ', q1, q2, q3, q4, q5⟩ := many_ok (n := 0) rr (show setMany is ds e = some e' from h) r v
        exact ⟨σ', q1, q2, q3, fun Q q => ⟨a, vs, rfl, r.sub.sqT hs, q4, q5 Q q⟩⟩
    | _ => cases h
  | nest i is =>
    match d, hr, h with
    | .tup [d1, .tup ds], hr, h =>
      cases hr with
      | tup hs rr hz nodhz =>
        rename_i a vs
        cases rr with
        | cons r1 r2 =>
          rename_i x1 xs1
          cases r2 with
          | cons r3 r4 =>
            rename_i x2 xs2
            cases r4
            cases r3 with
            | tup hs2 rr2 hz2 nodhz2 =>
              rename_i a2 vs2
              have r' := r.setSh (i := i) r1
              have v' := v.setN (i := i) (s := .sh d1) (x := some x1) r.len (fun z => z)
              obtain ⟨σ', q1, q2, q3, q4, q5⟩ := many_ok (n := 0) rr2 (show setMany is ds (e.set i (.sh d1)) = some e' from h) r' v'
              have s1 : Same' (i :: is) σ (σ.set i (some x1)) := .set List.mem_cons_self
              refine ⟨σ', q1, q2, s1.trans ⟨q3.1, fun j hj => q3.2 j fun z => hj (List.mem_cons_of_mem _ z)⟩, fun Q q => ⟨a, _, rfl, r.sub.sqT hs, rfl, ⟨x1, _, rfl, ⟨_, _, rfl, ⟨a2, vs2, rfl, r.sub.sqT hs2, q4, q5 _ ⟨rfl, q⟩⟩⟩⟩⟩⟩
end
def wipeE (vs : List Nat) (e : En) : En := match vs with
  | [] => e
  | v :: vs => (wipeE vs e).set v .unb
def hidOk (vs : List Nat) (e : En) : Bool := vs.all fun i => match e[i]? with
  | some .unb => true
  | some (.sh _) => true
  | _ => false
def restoreE (vs : List Nat) (e0 e : En) : En := match vs with
  | [] => e
  | v :: vs => match e0[v]? with
    | some s => (restoreE vs e0 e).set v s
    | none => restoreE vs e0 e
section
variable {g : Gl0} {G : Gh} {e : En} {M H M' H' : Hp} {σ : L2.St}
theorem Rel.wipe (r : Rel g G e M σ H) : ∀ vs : List Nat, Rel g G (wipeE vs e) M (L2.wipe σ vs) H
  | [] => r
  | v :: vs => (r.wipe vs).setUnb v none
theorem VR.wipe {p : Addr} {d : D} (r : Rel g G e M σ H) (h : VR g G e M σ H (.ref p) (nw d)) : ∀ vs : List Nat, VR g G (wipeE vs e) M (L2.wipe σ vs) H (.ref p) (nw d)
  | [] => h
  | v :: vs => (VR.wipe r h vs).setN (r.wipe vs).len (fun z => z)
theorem Rel.restore {e0 : En} {M0 : Hp} {σ0 : L2.St} {H0 : Hp} {G0 : Gh} (r0 : Rel g G0 e0 M0 σ0 H0) : ∀ (vs : List Nat) {e : En} {σ : L2.St}, hidOk vs e0 = true → Rel g G e M σ H → Sub M0 M → Same' vs σ0 σ → Rel g G (restoreE vs e0 e) M σ0 H
  | [], e, σ, _, r, _, hs => by
    have : σ = σ0 := by
      apply List.ext_getElem?
      intro j
      exact hs.2 j (by simp)
    rw [← this]; exact r
  | v :: vs, e, σ, hh, r, sm, hs => by
    unfold hidOk at hh
    rw [List.all_cons, Bool.and_eq_true] at hh
    have hl : σ.length = σ0.length := hs.1
    cases hv : e0[v]? with
    | none => rw [hv] at hh; exact absurd hh.1 (by simp)
    | some s =>
      obtain ⟨x, hx, hsl⟩ := r0.at hv
      have key : ∀ (e1 : En), Rel g G e1 M σ H → Rel g G (e1.set v s) M (σ.set v x) H := fun e1 r1 => by
        rw [hv] at hh
        cases s with
        | unb => exact r1.setUnb v x
        | sh d =>
          obtain ⟨u, rfl, q⟩ := hsl
          exact r1.setSh (q.mono sm)
        | _ => exact absurd hh.1 (by simp)
      have r1 := key e r
      have s1 : Same' vs σ0 (σ.set v x) := ⟨by simp [hl], fun j hj => by
        by_cases h : v = j
        · subst h
          have : v < σ.length := by rw [hl]; exact (List.getElem?_eq_some_iff.mp hx).1
          rw [List.getElem?_set_self this, hx]
        · rw [List.getElem?_set_ne h]
          refine hs.2 j fun z => ?_
          rcases List.mem_cons.mp z with z | z
          · exact h z.symm
          · exact hj z⟩
      have r2 := Rel.restore r0 vs hh.2 r1 sm s1
      have comm : ∀ (vs : List Nat) (a : En), restoreE vs e0 (a.set v s) = (restoreE vs e0 a).set v s := by
        intro vs
        induction vs with
        | nil => intro a; rfl
        | cons u us ih =>
          intro a
          unfold restoreE
          cases hu : e0[u]? with
          | none => exact ih a
          | some t =>
            show (restoreE us e0 (a.set v s)).set u t = ((restoreE us e0 a).set u t).set v s
            rw [ih]
            by_cases huv : u = v
            · subst huv
              rw [hv] at hu
              cases hu
              rfl
            · rw [List.set_comm _ _ (fun z => huv z.symm)]
      rw [comm] at r2
      unfold restoreE
      rw [hv]
      exact r2
end
def noX {α : Type} (m : Sx α) : Sx α := fun e => match m e with
  | .ok a e => .ok a e
  | _ => .stuck
open Classical in
noncomputable def compGo (s : Src) (vs : List Nat) (tg : Tg) (t : Sx Bool) (el : Sx Opd) : List D → En → Out (List D)
  | [], e => if s.ok e then .ok [] e else .stuck
  | x :: xs, e => if s.ok e then (match setTg tg x e with
    | none => .stuck
    | some e1 => (noX t e1).bind fun k e2 => if k = true then ((noX el e2).bind fun o e3 => match o with
        | .dt d => (compGo s vs tg t el xs (wipeE vs e3)).bind fun ds e4 => .ok (d :: ds) e4
        | .sl _ => .stuck)
      else compGo s vs tg t el xs (wipeE vs e2)) else .stuck
def Src.apart (s : Src) (vs : List Nat) : Bool := match s.chk with
  | none => true
  | some (i, _) => !vs.contains i
noncomputable def sComp (vs : List Nat) (tg : Tg) (s : Sx Src) (t : Sx Bool) (el : Sx Opd) : Sx Vl := fun e => (s e).bind fun src e1 => if (hidOk vs e1 && src.apart vs && tg.ix.all vs.contains) = true then
    ((compGo src vs tg t el src.items (wipeE vs e1)).bind fun ds e2 => .ok (nw (.lst ds)) (restoreE vs e1 e2)) else .stuck
theorem Rel.upT {g : Gl0} {G : Gh} {e : En} {M H : Hp} {σ : L2.St} {p : Addr} {d : D} (r : Rel g G e M σ H) (h : VR g G e M σ H (.ref p) (nw d)) {o' : HO} {d' : D} (ro : RepO g M p o' d') : Rel g G e M σ (upd H p o') ∧ VR g G e M σ (upd H p o') (.ref p) (nw d') := by
  obtain ⟨q, o, e1, hp, _, mp, h0, nb, nr, ne⟩ := h
  cases e1
  have na : ∀ a u, M a = some u → a ≠ p := fun a u q z => by subst z; rw [mp] at q; cases q
  refine ⟨⟨fun a u q => by rw [upd_ne (na a u q)]; exact r.sub a u q, fun a u q b => ?_, fun a q => ?_, r.fresh, r.base, fun i s x h1 h2 => ?_, r.len, r.dist, fun a q => ?_, fun a q => ?_⟩, ⟨p, o', rfl, upd_same, ro, mp, h0, nb, nr, ne⟩⟩
  · rw [upd_ne]
    · exact r.keep a u q b
    · rintro rfl; rw [h0] at q; cases q
  · by_cases z : a = p
    · subst z; rw [upd_same]; exact Option.some_ne_none _
    · rw [upd_ne z]; exact r.live a q
  · have q := r.slot i s x h1 h2
    cases s with
    | unb => trivial
    | sh d => exact q
    | ow d =>
      obtain ⟨a, o, e1, q, rr, n, z⟩ := q
      refine ⟨a, o, e1, ?_, rr, n, z⟩
      rw [upd_ne]
      · exact q
      · rintro rfl; exact ne i ⟨_, h1, trivial, by rw [h2, e1]⟩
    | bx d =>
      obtain ⟨a, o, e1, q, rr, n, z⟩ := q
      refine ⟨a, o, e1, ?_, rr, n, z⟩
      rw [upd_ne]
      · exact q
      · rintro rfl; exact ne i ⟨_, h1, trivial, by rw [h2, e1]⟩
    | ro d =>
      obtain ⟨u, e1, q⟩ := q
      refine ⟨u, e1, ?_⟩
      rcases q with q | ⟨a, o, z, q, b, rr⟩
      · exact .inl q
      · refine .inr ⟨a, o, z, ?_, b, rr⟩
        rw [upd_ne]
        · exact q
        · rintro rfl; exact nr b
  · refine ⟨?_, (r.lent a q).2⟩
    rw [upd_ne]
    · exact (r.lent a q).1
    · rintro rfl; exact nr q
  · by_cases z : a = p
    · subst z; rw [upd_same]; exact Option.some_ne_none _
    · rw [upd_ne z]; exact r.bl a q
abbrev W0 : WX := fun _ _ _ _ => False
theorem noX_ok {α : Type} {m : Sx α} {e e' : En} {a : α} (h : noX m e = .ok a e') : m e = .ok a e' := by
  unfold noX at h
  cases q : m e with
  | ok b e2 => rw [q] at h; cases h; rfl
  | exc x e2 => rw [q] at h; cases h
  | stuck => rw [q] at h; cases h
theorem bind_ok' {α β : Type} {o : Out α} {f : α → En → Out β} {b : β} {e' : En} (h : o.bind f = .ok b e') : ∃ a e1, o = .ok a e1 ∧ f a e1 = .ok b e' := by
  cases o with
  | ok a e1 => exact ⟨a, e1, rfl, h⟩
  | exc x e1 => cases h
  | stuck => cases h
def tTrue : Sx Bool := fun e => .ok true e
theorem yes_of {g : Gl0} : ∀ (σ : L2.St) (H : Hp) (Q : Bool → Hp → Prop), tT g W0 tTrue σ H Q → tYes σ H Q := fun σ H Q ⟨G, e, M, r, h⟩ => h true M H r rfl
theorem comp_read {g : Gl0} {W : WX} {vs : List Nat} {tg : Tg} {s : Sx Src} {t : Sx Bool} {el : Sx Opd} {tt : TT} (htt : ∀ σ H Q, tT g W0 t σ H Q → tt σ H Q) {σ : L2.St} {H : Hp} {Q : VK} (h : tE g W (sComp vs tg s t el) σ H Q) :
    tLc (tI g W s) (gTg g.K tg) tt (tO g W0 el) vs σ H Q := by
  obtain ⟨G, e, M, r, h⟩ := h
  unfold sComp at h
  refine tG_last r h fun src e1 J M1 H1 _ r1 _ x1 h1 => ?_
  obtain ⟨S, jok, hlen, per⟩ := x1
  intro D hD
  by_cases hc : (hidOk vs e1 && src.apart vs && tg.ix.all vs.contains) = true
  · rw [if_pos hc] at h1
    rw [Bool.and_eq_true, Bool.and_eq_true] at hc
    obtain ⟨⟨hhid, hap⟩, htg⟩ := hc
    cases hgo : compGo src vs tg t el src.items (wipeE vs e1) with
    | stuck => rw [hgo] at h1; exact h1.elim
    | exc x e' =>
      exfalso
      have noexc : ∀ (xs : List Ev.D) (e : En) (x : Exn) (e' : En), compGo src vs tg t el xs e ≠ .exc x e' := by
        intro xs
        induction xs with
        | nil => intro e x e' q; unfold compGo at q; split at q <;> cases q
        | cons y ys ih =>
          intro e x e' q
          have nx : ∀ {α : Type} (m : Sx α) (e : En) (x : Exn) (e' : En), noX m e ≠ .exc x e' := by
            intro α m e x e' q
            unfold noX at q
            split at q <;> cases q
          unfold compGo at q
          split at q
          · split at q
            · cases q
            · cases q1 : noX t _ with
              | stuck => rw [q1] at q; cases q
              | exc x2 e2 => exact nx _ _ _ _ q1
              | ok k e2 =>
                rw [q1, Out.bind_ok] at q
                split at q
                · cases q2 : noX el e2 with
                  | stuck => rw [q2] at q; cases q
                  | exc x2 e3 => exact nx _ _ _ _ q2
                  | ok o e3 =>
                    rw [q2, Out.bind_ok] at q
                    split at q
                    · cases q3 : compGo src vs tg t el ys (wipeE vs e3) with
                      | stuck => rw [q3] at q; cases q
                      | exc x2 e4 => exact ih _ _ _ q3
                      | ok ds e4 => rw [q3] at q; cases q
                    · cases q
                · exact ih _ _ _ q
          · cases q
      exact noexc _ _ _ _ hgo
    | ok dsA e4 =>
      rw [hgo, Out.bind_ok] at h1
      have rD := r1.ext (.new r1.sub (o := .lst []) hD)
      have vD : VR g G e1 M1 σ (upd H1 D (.lst [])) (.ref D) (nw (.lst [])) :=
        ⟨D, _, rfl, upd_same, .lst .nil (Nat.zero_le _), r1.sub.none hD, r1.h0none hD, fun z => r1.bl D z hD, fun z => (r1.lent D z).1 hD, fun i q => by
          obtain ⟨_, _, o, ho⟩ := r1.owned q
          rw [hD] at ho; cases ho⟩
      refine ⟨fun i m H => m = src.items.length - i ∧ i ≤ src.items.length ∧ ∃ e M dacc ds, Rel g G e M (wipe σ vs) H ∧ VR g G e M (wipe σ vs) H (.ref D) (nw (.lst dacc)) ∧ Sub M1 M ∧ dacc.length ≤ i ∧ compGo src vs tg t el (src.items.drop i) e = .ok ds e4 ∧ dacc ++ ds = dsA,
        ⟨src.items.length, rfl, Nat.zero_le _, _, M1, [], dsA, rD.wipe vs, VR.wipe rD vD vs, .refl, Nat.le_refl _, by rw [List.drop_zero]; exact hgo, rfl⟩, ?_⟩
      rintro i m Hi ⟨rfl, hi, e, M, dacc, ds, ri, vi, sM, hacc, hrun, hds⟩
      have stands : src.ok e → S M Hi := fun ok => per G e M Hi (wipe σ vs) ri sM ok fun j d hj => by
        rw [wipe_get, if_neg]
        intro hm
        unfold Src.apart at hap
        rw [hj] at hap
        have hap' : (!vs.contains j) = true := hap
        rw [Bool.not_eq_true', List.contains_eq_mem] at hap'
        exact absurd hm (by simpa using hap')
      by_cases hlt : i < src.items.length
      · refine .inr ?_
        have hdrop : src.items.drop i = src.items[i] :: src.items.drop (i + 1) := List.drop_eq_getElem_cons hlt
        rw [hdrop] at hrun
        unfold compGo at hrun
        split at hrun
        · rename_i hok
          have st := stands hok
          refine ⟨jok.go i M Hi st ri.sub hlt, fun H' => src.items.length - (i + 1) = src.items.length - (i + 1) ∧ i + 1 ≤ src.items.length ∧ ∃ e M dacc ds, Rel g G e M (wipe σ vs) H' ∧ VR g G e M (wipe σ vs) H' (.ref D) (nw (.lst dacc)) ∧ Sub M1 M ∧ dacc.length ≤ i + 1 ∧ compGo src vs tg t el (src.items.drop (i + 1)) e = .ok ds e4 ∧ dacc ++ ds = dsA,
            fun H' q => ⟨src.items.length - (i + 1), by omega, q⟩, fun x H' hy => ?_⟩
          obtain ⟨M', w, rx⟩ := jok.yld i M Hi x H' st ri.sub hy _ (List.getElem?_eq_getElem hlt)
          have ri' := ri.ext w
          have vi' := vi.ext w
          split at hrun
          · cases hrun
          · rename_i e' hset
            obtain ⟨σ2, r2, v2, s2, k2⟩ := tg_ok rx hset ri' vi'
            refine k2 _ ⟨?_, ?_⟩
            · have : Same' vs (wipe σ vs) σ2 := ⟨s2.1, fun j hj => s2.2 j fun hm => hj (by
                have := List.all_eq_true.mp htg j hm
                rw [List.contains_eq_mem] at this
                simpa using this)⟩
              rw [wipe_same this, wipe_wipe]
            · have hw2 : wipe σ2 vs = wipe σ vs := by
                have : Same' vs (wipe σ vs) σ2 := ⟨s2.1, fun j hj => s2.2 j fun hm => hj (by
                  have := List.all_eq_true.mp htg j hm
                  rw [List.contains_eq_mem] at this
                  simpa using this)⟩
                rw [wipe_same this, wipe_wipe]
              obtain ⟨k, e2, hk, hrun⟩ := bind_ok' hrun
              have hk' := noX_ok hk
              refine htt σ2 H' _ ⟨G.here e' M' σ2 H', e', M', r2.here, ?_⟩
              rw [hk']
              intro b M3 H3 r3 eb
              subst eb
              have r3' := r2.back r3
              have v3 := v2.stay r2 r3 r3.base
              have s13 : Sub M1 M3 := (sM.trans w.mono).trans r3.base
              cases b with
              | true =>
                have hrun' : ((noX el e2).bind fun o e3 => match o with
                  | .dt d => (compGo src vs tg t el (src.items.drop (i + 1)) (wipeE vs e3)).bind fun ds e4 => Out.ok (d :: ds) e4
                  | .sl _ => .stuck) = .ok ds e4 := hrun
                obtain ⟨o, e3, ho, hrun2⟩ := bind_ok' hrun'
                have ho' := noX_ok ho
                rw [if_pos rfl]
                refine ⟨G.here e2 M3 σ2 H3, e2, M3, r3'.here, ?_⟩
                rw [ho']
                intro y M5 H5 r5 oy
                cases o with
                | sl j => cases hrun2
                | dt d =>
                  have r5' := r3'.back r5
                  have v5 := v3.stay r3' r5 r5.base
                  obtain ⟨ds', e6, hgo', hfin⟩ := bind_ok' hrun2
                  cases hfin
                  obtain ⟨q, o5, eq, hp5, ro5, _⟩ := id v5
                  cases eq
                  cases ro5 with
                  | lst rr5 hz5 =>
                    rename_i acc
                    have hla : acc.length < sizeLine := by rw [rr5.length]; omega
                    obtain ⟨r7, v7⟩ := r5'.upT v5 (o' := .lst (acc ++ [y])) (d' := .lst (dacc ++ [d])) (.lst (rr5.append (.cons oy .nil)) (by rw [List.length_append, List.length_singleton, ← rr5.length]; exact hla))
                    refine ⟨acc, hp5, hla, rfl, hlt, wipeE vs e3, M5, dacc ++ [d], ds', ?_, ?_, s13.trans r5.base, by rw [List.length_append, List.length_singleton]; omega, hgo', by rw [List.append_assoc]; exact hds⟩
                    · have := r7.wipe vs
                      rw [hw2] at this
                      exact this
                    · have := VR.wipe r7 v7 vs
                      rw [hw2] at this
                      exact this
              | false =>
                have hrun' : compGo src vs tg t el (src.items.drop (i + 1)) (wipeE vs e2) = .ok ds e4 := hrun
                rw [if_neg Bool.false_ne_true]
                refine ⟨rfl, hlt, wipeE vs e2, M3, dacc, ds, ?_, ?_, s13, by omega, hrun', hds⟩
                · have := r3'.wipe vs
                  rw [hw2] at this
                  exact this
                · have := VR.wipe r3' v3 vs
                  rw [hw2] at this
                  exact this
        · cases hrun
      · refine .inl ?_
        have ei : i = src.items.length := by omega
        subst ei
        rw [List.drop_length] at hrun
        unfold compGo at hrun
        split at hrun
        · rename_i hok
          cases hrun
          rw [List.append_nil] at hds
          subst hds
          refine ⟨jok.stop M Hi (stands hok) ri.sub, ?_⟩
          have rr := Rel.restore r1 vs hhid ri sM ⟨wipe_length σ vs, fun j hj => by rw [wipe_get, if_neg hj]⟩
          refine h1 (.ref D) M Hi rr ?_
          obtain ⟨q, o, e2, hp, ro, mp, h0, nb, nr, ne⟩ := vi
          cases e2
          refine ⟨D, o, rfl, hp, ro, mp, h0, nb, nr, fun j oj => ?_⟩
          obtain ⟨sl, q1, q2, q3⟩ := oj
          by_cases hj : j ∈ vs
          · -- restored slots own nothing
            have : ∀ (us : List Nat) (a : En), hidOk us e1 = true → j ∈ us → ∀ sl, (restoreE us e1 a)[j]? = some sl → ¬ sl.own := by
              intro us
              induction us with
              | nil => intro a _ hm; cases hm
              | cons u us ih =>
                intro a hh hm sl hsl
                unfold hidOk at hh
                rw [List.all_cons, Bool.and_eq_true] at hh
                unfold restoreE at hsl
                cases hu : e1[u]? with
                | none => rw [hu] at hh; exact absurd hh.1 (by simp)
                | some t0 =>
                  rw [hu] at hsl hh
                  by_cases huj : u = j
                  · subst huj
                    have hl := (List.getElem?_eq_some_iff.mp hsl).1
                    rw [List.length_set] at hl
                    rw [List.getElem?_set_self hl] at hsl
                    cases hsl
                    intro so
                    cases sl with
                    | ow d => exact absurd hh.1 (by simp)
                    | bx d => exact absurd hh.1 (by simp)
                    | _ => exact so
                  · rw [List.getElem?_set_ne huj] at hsl
                    rcases List.mem_cons.mp hm with z | z
                    · exact absurd z.symm huj
                    · exact ih a hh.2 z sl hsl
            exact this vs _ hhid hj sl q1 q2
          · have : ∀ (us : List Nat) (a : En), j ∉ us → (restoreE us e1 a)[j]? = a[j]? := by
              intro us
              induction us with
              | nil => intro a _; rfl
              | cons u us ih =>
                intro a hm
                unfold restoreE
                cases hu : e1[u]? with
                | none => exact ih a fun z => hm (List.mem_cons_of_mem _ z)
                | some t0 =>
                  show ((restoreE us e1 a).set u t0)[j]? = a[j]?
                  rw [List.getElem?_set_ne (fun z => hm (by rw [z]; exact List.mem_cons_self)), ih a fun z => hm (List.mem_cons_of_mem _ z)]
            rw [this vs _ hj] at q1
            exact ne j ⟨sl, q1, q2, by rw [wipe_get, if_neg hj]; exact q3⟩
        · cases hrun
  · rw [if_neg hc] at h1
    exact h1.elim
end Ev
set_option Elab.async false
set_option linter.all false
set_option autoImplicit false
set_option maxRecDepth 100000
namespace Ev
open PySem L2
inductive Fl where
  | nx (e : En) | rt (v : Vl) (e : En) | bk (e : En) | ct (e : En) | exc (x : Exn) (e : En) | stuck
abbrev SS := En → Fl
def VRet (g : Gl0) (G : Gh) (M H : Hp) (x : V) (v : Vl) : Prop :=
  match v.nw with
  | false => Rep g M x v.d
  | true => ∃ p o, x = .ref p ∧ H p = some o ∧ RepO g M p o v.d ∧ M p = none ∧ (G.H0 p = none ∨ G.ex p)
def sPost (g : Gl0) (W : WX) (G : Gh) (D : Ends) : Fl → Prop
  | .nx e => ∀ σ M H, Rel g G e M σ H → D.nx σ H
  | .rt v e => ∀ x σ M H, Rel g G e M σ H → VRet g G M H x v → D.rt x H
  | .bk e => ∀ σ M H, Rel g G e M σ H → D.bk σ H
  | .ct e => ∀ σ M H, Rel g G e M σ H → D.ct σ H
  | .exc x e => ∀ cls d σ M H, Rel g G e M σ H → ExR g M cls d x → W cls d σ H
  | .stuck => False
def tS (g : Gl0) (W : WX) (f : SS) : TS := fun D σ H => ∃ G e M, Rel g G e M σ H ∧ sPost g W G D (f e)
section
variable {g : Gl0} {W : WX} {G : Gh} {e e' : En} {M M' H H' : Hp} {σ σ' : L2.St} {D : Ends}
theorem VR.ret {x : V} {v : Vl} (h : VR g G e M σ H x v) : VRet g G M H x v := by
  obtain ⟨d, b⟩ := v
  cases b with
  | false => exact h
  | true => obtain ⟨p, o, e1, hp, ro, mp, h0, _⟩ := h; exact ⟨p, o, e1, hp, ro, mp, .inl h0⟩
theorem VRet.back {x : V} {v : Vl} (r : Rel g G e M σ H) (h : VRet g (G.here e M σ H) M' H' x v) : VRet g G M' H' x v := by
  obtain ⟨d, b⟩ := v
  cases b with
  | false => exact h
  | true =>
    obtain ⟨p, o, e1, hp, ro, mp, h0⟩ := h
    refine ⟨p, o, e1, hp, ro, mp, ?_⟩
    rcases h0 with z | z | ⟨j, d', h1, h2⟩
    · exact .inl (r.h0none z)
    · exact .inr z
    · obtain ⟨a', o', e', q', _, n', z'⟩ := r.slot j _ _ h1 h2
      cases e'
      exact z'
theorem sPost.here {fl : Fl} (r : Rel g G e M σ H) (h : sPost g W G D fl) {D' : Ends}
    (hn : ∀ e' σ' M' H', Rel g (G.here e M σ H) e' M' σ' H' → fl = .nx e' → D.nx σ' H' → D'.nx σ' H') (hr : ∀ x H', D.rt x H' → D'.rt x H') (hb : ∀ σ' H', D.bk σ' H' → D'.bk σ' H') (hc : ∀ σ' H', D.ct σ' H' → D'.ct σ' H') : sPost g W (G.here e M σ H) D' fl := by
  cases fl with
  | nx e' => exact fun σ' M' H' r' => hn e' σ' M' H' r' rfl (h σ' M' H' (r.back r'))
  | rt v e' => exact fun x σ' M' H' r' v' => hr x H' (h x σ' M' H' (r.back r') (v'.back r))
  | bk e' => exact fun σ' M' H' r' => hb σ' H' (h σ' M' H' (r.back r'))
  | ct e' => exact fun σ' M' H' r' => hc σ' H' (h σ' M' H' (r.back r'))
  | exc x e' => exact fun c d σ' M' H' r' q => h c d σ' M' H' (r.back r') q
  | stuck => exact h
end
def sSkip : SS := fun e => .nx e
def sThen (a b : SS) : SS := fun e => match a e with
  | .nx e' => b e'
  | r => r
def sAsg (m : Sx Vl) (i : Nat) : SS := fun e => match m e with
  | .ok v e' => .nx (e'.set i v.slot)
  | .exc x e' => .exc x e'
  | .stuck => .stuck
def sIfS (t : Sx Bool) (a b : SS) : SS := fun e => match t e with
  | .ok k e' => if k = true then a e' else b e'
  | .exc x e' => .exc x e'
  | .stuck => .stuck
def sRet (m : Sx Vl) : SS := fun e => match m e with
  | .ok v e' => .rt v e'
  | .exc x e' => .exc x e'
  | .stuck => .stuck
def sRetName (i : Nat) : SS := fun e => match e[i]? with
  | some (.sh d) => .rt (fz d) e
  | some (.ow d) => .rt (nw d) (e.set i .unb)
  | _ => .stuck
def sDrop (m : Sx Vl) : SS := fun e => match m e with
  | .ok _ e' => .nx e'
  | .exc x e' => .exc x e'
  | .stuck => .stuck
def forGo (tg : Tg) (b : SS) : List D → En → Fl
  | [], e => .nx e
  | x :: xs, e => match setTg tg x e with
    | none => .stuck
    | some e1 => (match b e1 with
      | .nx e2 => forGo tg b xs e2
      | .ct e2 => forGo tg b xs e2
      | .bk e2 => .nx e2
      | r => r)
def sFor (tg : Tg) (s : Sx Src) (b : SS) : SS := fun e => match s e with
  | .ok src e1 => (match src.chk with
    | none => forGo tg b src.items e1
    | some _ => .stuck)
  | .exc x e1 => .exc x e1
  | .stuck => .stuck
section
variable {X : Cx} {cl : Str → Option Addr} {W : WX} {pos : Pos}
theorem vs_nil : PSs X [] (tS (gl X cl) W sSkip) := PSs_imp pss_nil fun D σ H ⟨G, e, M, r, h⟩ => h σ M H r
theorem vs_cons {st : Stmt} {rest : List Stmt} {a b : SS} (h1 : PS X st (tS (gl X cl) W a)) (h2 : PSs X rest (tS (gl X cl) W b)) : PSs X (st :: rest) (tS (gl X cl) W (sThen a b)) :=
  PSs_imp (pss_cons h1 h2) fun D σ H ⟨G, e, M, r, h⟩ => by
    refine ⟨G, e, M, r, ?_⟩
    unfold sThen at h
    cases q : a e with
    | nx e' => rw [q] at h; exact fun σ' M' H' r' => ⟨G, e', M', r', h⟩
    | rt v e' => rw [q] at h; exact h
    | bk e' => rw [q] at h; exact h
    | ct e' => rw [q] at h; exact h
    | exc x e' => rw [q] at h; exact h
    | stuck => rw [q] at h; exact h
theorem vs_one {st : Stmt} {a : SS} (h1 : PS X st (tS (gl X cl) W a)) : PSs X [st] (tS (gl X cl) W a) := pss_one h1
theorem stm_expr {G : Gh} {e : En} {M H : Hp} {σ : L2.St} {D : Ends} {m : Sx Vl} {k : Vl → En → Fl} {Q : VK} (r : Rel (gl X cl) G e M σ H)
    (h : sPost (gl X cl) W G D (match m e with | .ok v e' => k v e' | .exc x e' => .exc x e' | .stuck => .stuck))
    (hk : ∀ v e1 x M1 H1, m e = .ok v e1 → Rel (gl X cl) G e1 M1 σ H1 → VR (gl X cl) G e1 M1 σ H1 x v → sPost (gl X cl) W G D (k v e1) → Q x H1) : tE (gl X cl) W m σ H Q := by
  refine ⟨G, e, M, r, ?_⟩
  cases q : m e with
  | ok v e1 => rw [q] at h; exact fun x M1 H1 r1 v1 => hk v e1 x M1 H1 q r1 v1 h
  | exc x e1 => rw [q] at h; exact fun c d M1 H1 r1 x1 => h c d σ M1 H1 r1 x1
  | stuck => rw [q] at h; exact h
theorem asg_read {m : Sx Vl} {i : Nat} {D : Ends} {σ : L2.St} {H : Hp} {te : TE} (k : ∀ σ H Q, tE (gl X cl) W m σ H Q → te σ H Q) (h : tS (gl X cl) W (sAsg m i) D σ H) : tAsg te (gName i) D σ H := by
  obtain ⟨G, e, M, r, h⟩ := h
  refine k σ H _ (stm_expr (k := fun v e' => .nx (e'.set i v.slot)) r h fun v e1 x M1 H1 _ r1 v1 h1 => ?_)
  exact h1 _ M1 H1 (r1.setV v1)
theorem vs_set {i : Nat} {x : Str} {ex : Expr} {m : Sx Vl} {pos' : Pos} (hN : X.N.Nodup) (hi : X.N[i]? = some x) (hx : Loc X.env.scope x) (he : PE X ex (tE (gl X cl) W m)) (hs : swapsWith ex (some (.Name x pos')) pos.line X.env = pure false) (hf : X.fn x = true ∨ X.env.scope.names.lookup x = some .local) :
    PS X (.Assign [.Name x pos'] ex pos) (tS (gl X cl) W (sAsg m i)) := PS_imp (ps_set hN hi hx he hs hf) fun D σ H h => asg_read (fun _ _ _ z => z) h
theorem many_set {G : Gh} {M H : Hp} : ∀ {is : List Nat} {ds : List D} {xs : List V} {e e' : En} {σ : L2.St}, Reps (gl X cl) M xs ds → setMany is ds e = some e' → Rel (gl X cl) G e M σ H →
    ∃ σ', Rel (gl X cl) G e' M σ' H ∧ xs.length = is.length ∧ ∀ (Q : L2.St → Hp → Prop), Q σ' H → (is.foldr (fun i t => gCons (gName i) t) gNil) xs σ H Q
  | [], [], xs, e, e', σ, hr, h, r => by
    cases hr
    cases h
    exact ⟨σ, r, rfl, fun Q q => ⟨rfl, q⟩⟩
  | [], _ :: _, _, _, _, _, _, h, _ => by cases h
  | _ :: _, [], _, _, _, _, _, h, _ => by cases h
  | i :: is, d :: ds, xs, e, e', σ, hr, h, r => by
    cases hr with
    | cons r1 r2 =>
      rename_i x xs
      obtain ⟨σ', q1, q4, q5⟩ := many_set r2 (show setMany is ds (e.set i (.sh d)) = some e' from h) (r.setSh (i := i) r1)
      exact ⟨σ', q1, by simp [q4], fun Q q => ⟨x, xs, rfl, q5 Q q⟩⟩
theorem tg_set {G : Gh} {M H : Hp} {t : Tg} {d : D} {x : V} {e e' : En} {σ : L2.St} (hr : Rep (gl X cl) M x d) (h : setTg t d e = some e') (r : Rel (gl X cl) G e M σ H) :
    ∃ σ', Rel (gl X cl) G e' M σ' H ∧ ∀ (Q : L2.St → Hp → Prop), Q σ' H → gTg X.K t x σ H Q := by
  cases t with
  | one i => cases h; exact ⟨_, r.setSh hr, fun Q q => q⟩
  | many is =>
    cases d with
    | tup ds =>
      cases hr with
      | tup hs rr hz nodhz =>
        rename_i a vs
        obtain ⟨σ', q1, q4, q5⟩ := many_set rr (show setMany is ds e = some e' from h) r
        exact ⟨σ', q1, fun Q q => ⟨a, vs, rfl, r.sub.sqT hs, q4, q5 Q q⟩⟩
    | _ => cases h
  | nest i is =>
    match d, hr, h with
    | .tup [d1, .tup ds], hr, h =>
      cases hr with
      | tup hs rr hz nodhz =>
        rename_i a vs
        cases rr with
        | cons r1 r2 =>
          rename_i x1 xs1
          cases r2 with
          | cons r3 r4 =>
            cases r4
            cases r3 with
            | tup hs2 rr2 hz2 nodhz2 =>
              rename_i a2 vs2
              obtain ⟨σ', q1, q4, q5⟩ := many_set rr2 (show setMany is ds (e.set i (.sh d1)) = some e' from h) (r.setSh (i := i) r1)
              exact ⟨σ', q1, fun Q q => ⟨a, _, rfl, r.sub.sqT hs, rfl, ⟨x1, _, rfl, ⟨_, _, rfl, ⟨a2, vs2, rfl, r.sub.sqT hs2, q4, q5 _ ⟨rfl, q⟩⟩⟩⟩⟩⟩
theorem vs_if {c : Expr} {a b : List Stmt} {t : Sx Bool} {u v : SS} (hc : PT X c (tT (gl X cl) W t)) (ha : PSs X a (tS (gl X cl) W u)) (hb : PSs X b (tS (gl X cl) W v)) : PS X (.If c a b pos) (tS (gl X cl) W (sIfS t u v)) :=
  PS_imp (ps_if hc ha hb) fun D σ H ⟨G, e, M, r, h⟩ => by
    unfold sIfS at h
    refine ⟨G, e, M, r, ?_⟩
    cases q : t e with
    | stuck => rw [q] at h; exact h
    | exc x e1 => rw [q] at h; exact fun c d M1 H1 r1 x1 => h c d σ M1 H1 r1 x1
    | ok k e1 =>
      rw [q] at h
      intro b M1 H1 r1 eb
      subst eb
      cases b with
      | true => exact ⟨G, e1, M1, r1, h⟩
      | false => exact ⟨G, e1, M1, r1, h⟩
theorem vs_ret {ex : Expr} {m : Sx Vl} (he : PE X ex (tE (gl X cl) W m)) : PS X (.Return (some ex) pos) (tS (gl X cl) W (sRet m)) :=
  PS_imp (ps_ret he) fun D σ H ⟨G, e, M, r, h⟩ => stm_expr (k := fun v e' => .rt v e') r h fun v e1 x M1 H1 _ r1 v1 h1 => h1 x σ M1 H1 r1 v1.ret
theorem vs_retName {i : Nat} {x : Str} {p : Pos} (hN : X.N[i]? = some x) (hv : Vis X.env.scope x) (hd : (x == ("__debug__" : Str)) = false) (hcd : (x == ("__classdict__" : Str)) = false) : PS X (.Return (some (.Name x p)) pos) (tS (gl X cl) W (sRetName i)) :=
  PS_imp (ps_ret (pe_var hN hv hd hcd)) fun D σ H ⟨G, e, M, r, h⟩ => by
    unfold sRetName at h
    cases hs : e[i]? with
    | none => rw [hs] at h; exact h.elim
    | some s =>
      rw [hs] at h
      cases s with
      | sh d =>
        obtain ⟨x, h1, v, rfl, q⟩ := r.at hs
        exact ⟨v, h1, h v σ M H r q⟩
      | ow d =>
        obtain ⟨x, h1, a, o, rfl, ha, ro, ma, z⟩ := r.at hs
        have r' : Rel (gl X cl) G (e.set i .unb) M σ H := by
          have := r.setUnb i (some (.ref a))
          rw [set_get h1] at this
          exact this
        exact ⟨.ref a, h1, h (.ref a) σ M H r' ⟨a, o, rfl, ha, ro, ma, z⟩⟩
      | _ => exact h.elim
theorem vs_expr {ex : Expr} {m : Sx Vl} (he : PE X ex (tE (gl X cl) W m)) (hs : swapsWith ex none pos.line X.env = pure false) : PS X (.Expr ex pos) (tS (gl X cl) W (sDrop m)) :=
  PS_imp (ps_expr he hs) fun D σ H ⟨G, e, M, r, h⟩ => stm_expr (k := fun v e' => .nx e') r h fun v e1 x M1 H1 _ r1 v1 h1 => h1 σ M1 H1 r1
theorem vs_for {tgt iter : Expr} {body : List Stmt} {tg : Tg} {s : Sx Src} {b : SS} (hp : PassesOwn (model X.prog X.w) X.A X.env X.xe) (hc : X.calm = true) (hi : PI X tgt iter (tI (gl X cl) W s)) (hg : PG X tgt (gTg X.K tg)) (hb : PSs X body (tS (gl X cl) W b))
    (hs : ∀ x, foldedSetIterable iter X.env x = pure x) : PS X (.For tgt iter body [] pos) (tS (gl X cl) W (sFor tg s b)) :=
  PS_imp (ps_for hp hc hi hg hb hs) fun D σ H ⟨G, e, M, r, h⟩ => by
    unfold sFor at h
    refine ⟨G, e, M, r, ?_⟩
    cases q : s e with
    | stuck => rw [q] at h; exact h
    | exc x e1 => rw [q] at h; exact fun c d M1 H1 r1 x1 => h c d σ M1 H1 r1 x1
    | ok src e1 =>
      rw [q] at h
      intro J M1 H1 r1 x1
      obtain ⟨S, jok, hlen, per⟩ := x1
      have h' : sPost (gl X cl) W G D (match src.chk with | none => forGo tg b src.items e1 | some _ => .stuck) := h
      cases hch : src.chk with
      | some c => rw [hch] at h'; exact h'.elim
      | none =>
        rw [hch] at h'
        refine ⟨fun i m σ H => m = src.items.length - i ∧ i ≤ src.items.length ∧ ∃ e M, Rel (gl X cl) G e M σ H ∧ Sub M1 M ∧ sPost (gl X cl) W G D (forGo tg b (src.items.drop i) e), ⟨_, rfl, Nat.zero_le _, e1, M1, r1, .refl, by rw [List.drop_zero]; exact h'⟩, ?_⟩
        rintro i m σi Hi ⟨rfl, hi, ei, Mi, ri, sM, hrun⟩
        have st : S Mi Hi := per G ei Mi Hi σi ri sM (by unfold Src.ok; rw [hch]; trivial) (fun j d hj => by rw [hch] at hj; cases hj)
        by_cases hlt : i < src.items.length
        · have hdrop : src.items.drop i = src.items[i] :: src.items.drop (i + 1) := List.drop_eq_getElem_cons hlt
          rw [hdrop] at hrun
          unfold forGo at hrun
          refine .inr ⟨jok.go i Mi Hi st ri.sub hlt, fun σ' H' => src.items.length - (i + 1) = src.items.length - (i + 1) ∧ i + 1 ≤ src.items.length ∧ ∃ e M, Rel (gl X cl) G e M σ' H' ∧ Sub M1 M ∧ sPost (gl X cl) W G D (forGo tg b (src.items.drop (i + 1)) e), fun σ' H' z => ⟨src.items.length - (i + 1), by omega, z⟩, fun x H' hy => ?_⟩
          obtain ⟨M', w, rx⟩ := jok.yld i Mi Hi x H' st ri.sub hy _ (List.getElem?_eq_getElem hlt)
          have ri' := ri.ext w
          cases hset : setTg tg src.items[i] ei with
          | none => rw [hset] at hrun; exact hrun.elim
          | some e2 =>
            rw [hset] at hrun
            obtain ⟨σ2, r2, k2⟩ := tg_set rx hset ri'
            refine k2 _ ?_
            have hrun' : sPost (gl X cl) W G D (match b e2 with
              | .nx e2 => forGo tg b (src.items.drop (i + 1)) e2
              | .ct e2 => forGo tg b (src.items.drop (i + 1)) e2
              | .bk e2 => .nx e2
              | r => r) := hrun
            refine ⟨G.here e2 M' σ2 H', e2, M', r2.here, ?_⟩
            cases q2 : b e2 with
            | nx e3 => rw [q2] at hrun'; exact fun σ' M'' H'' r' => ⟨rfl, hlt, e3, M'', r2.back r', (sM.trans w.mono).trans r'.base, hrun'⟩
            | ct e3 => rw [q2] at hrun'; exact fun σ' M'' H'' r' => ⟨rfl, hlt, e3, M'', r2.back r', (sM.trans w.mono).trans r'.base, hrun'⟩
            | bk e3 => rw [q2] at hrun'; exact fun σ' M'' H'' r' => hrun' σ' M'' H'' (r2.back r')
            | rt v e3 => rw [q2] at hrun'; exact fun x σ' M'' H'' r' v' => hrun' x σ' M'' H'' (r2.back r') (v'.back r2)
            | exc x e3 => rw [q2] at hrun'; exact fun c d σ' M'' H'' r' z => hrun' c d σ' M'' H'' (r2.back r') z
            | stuck => rw [q2] at hrun'; exact hrun'
        · have ei' : i = src.items.length := by omega
          subst ei'
          rw [List.drop_length] at hrun
          exact .inl ⟨jok.stop Mi Hi st ri.sub, hrun σi Mi Hi ri⟩
theorem ve_comp {elt tgt iter : Expr} {ifs : List Expr} {scope : Scope} {own : List (Str × Nat)} {tg : Tg} {s : Sx Src} {t : Sx Bool} {el : Sx Opd} {tt : TT} (htt : ∀ σ H Q, tT (gl X cl) W0 t σ H Q → tt σ H Q) (hc : X.calm = true) (hN : X.N.Nodup) (hi : PI X tgt iter (tI (gl X cl) W s)) (ok : BlkOk X.N X.env.scope scope own)
    (hg : ∀ (s : Shared) (H : Hp) (C : Addr) (cl : List (Str × Addr)) (fp : List Addr), PG (X.blk s H scope (compEnvC scope cl C X.env) fp) tgt (gTg X.K tg)) (ht : ∀ (s : Shared) (H : Hp) (C : Addr) (cl : List (Str × Addr)) (fp : List Addr), PTs (X.blk s H scope (compEnvC scope cl C X.env) fp) ifs tt)
    (he : ∀ (s : Shared) (H : Hp) (C : Addr) (cl' : List (Str × Addr)) (fp : List Addr), PE (X.blk s H scope (compEnvC scope cl' C X.env) fp) elt (tO (gl X cl) W0 el)) (hs : ∀ x, foldedSetIterable iter X.env x = pure x) :
    PE X (.ListComp elt [⟨tgt, iter, ifs, 0⟩] scope pos) (tE (gl X cl) W (sComp (own.map (·.2)) tg s t el)) :=
  PE_imp (pe_lc hc hN hi ok hg ht he hs) fun σ H Q h => comp_read htt h
theorem vs_setComp {i : Nat} {y : Str} {py : Pos} {elt tgt iter : Expr} {ifs : List Expr} {scope : Scope} {own : List (Str × Nat)} {spos : Pos} {tg : Tg} {s : Sx Src} {t : Sx Bool} {el : Sx Opd} {tt : TT} (htt : ∀ σ H Q, tT (gl X cl) W0 t σ H Q → tt σ H Q) (hc : X.calm = true) (hN : X.N.Nodup) (hy : X.N[i]? = some y) (hyl : X.env.scope.names.lookup y = some .local)
    (hsw : swapsWith (.ListComp elt [⟨tgt, iter, ifs, 0⟩] scope pos) (some (.Name y py)) spos.line X.env = pure true) (hi : PI X tgt iter (tI (gl X cl) W s)) (ok : BlkOk X.N X.env.scope scope own)
    (hg : ∀ (s : Shared) (H : Hp) (C : Addr) (cl : List (Str × Addr)) (fp : List Addr), PG (X.blk s H scope (compEnvC scope cl C X.env) fp) tgt (gTg X.K tg)) (ht : ∀ (s : Shared) (H : Hp) (C : Addr) (cl : List (Str × Addr)) (fp : List Addr), PTs (X.blk s H scope (compEnvC scope cl C X.env) fp) ifs tt)
    (he : ∀ (s : Shared) (H : Hp) (C : Addr) (cl' : List (Str × Addr)) (fp : List Addr), PE (X.blk s H scope (compEnvC scope cl' C X.env) fp) elt (tO (gl X cl) W0 el)) (hs : ∀ x, foldedSetIterable iter X.env x = pure x) :
    PS X (.Assign [.Name y py] (.ListComp elt [⟨tgt, iter, ifs, 0⟩] scope pos) spos) (tS (gl X cl) W (sAsg (sComp (own.map (·.2)) tg s t el) i)) :=
  PS_imp (ps_setLc hc hN hy hyl hsw hi ok hg ht he hs) fun D σ H h => asg_read (fun σ H Q z => comp_read htt z) h
end
end Ev
set_option Elab.async false
set_option linter.all false
set_option autoImplicit false
set_option maxRecDepth 100000
namespace Ev
open PySem L2 PySem.Spec PyProof.Rows
def D.isTup : D → Bool
  | .tup _ => true
  | _ => false
def kdp : Option NestedKey → Bool
  | some k => decide (k.depth ≤ 8)
  | none => false
def dkOk (ds : List (D × D)) : D → Bool
  | .int _ => ds.all fun p => !p.1.isTup
  | .str _ => ds.all fun p => !p.1.isTup
  | .tup l => kdp (D.key (.tup l)) && ds.all fun p => p.1.isTup
  | _ => false
noncomputable def dget (ds : List (D × D)) (k : D) : Option D := (ds.find? fun p => decide (p.1 = k)).map (·.2)
noncomputable def dput (ds : List (D × D)) (k v : D) : List (D × D) :=
  if (dget ds k).isSome = true then ds.map fun p => if p.1 = k then (p.1, v) else p else ds ++ [(k, v)]
theorem dget_pos {p : D × D} {r : List (D × D)} {k : D} (e : p.1 = k) : dget (p :: r) k = some p.2 := by simp [dget, List.find?_cons, e]
theorem dget_neg {p : D × D} {r : List (D × D)} {k : D} (e : ¬ p.1 = k) : dget (p :: r) k = dget r k := by simp [dget, List.find?_cons, e]
mutual
theorem key_inj : ∀ {d e : D} {k : NestedKey}, d.key = some k → e.key = some k → d = e
  | .non, e, k, h, h' => by
    cases h
    cases e with
    | non => rfl
    | tup l => rw [D.key] at h'; obtain ⟨_, _, z⟩ := Option.map_eq_some_iff.mp h'; cases z
    | _ => simp [D.key] at h'
  | .int i, e, k, h, h' => by
    cases h
    cases e with
    | int j => simp [D.key] at h'; rw [h']
    | tup l => rw [D.key] at h'; obtain ⟨_, _, z⟩ := Option.map_eq_some_iff.mp h'; cases z
    | _ => simp [D.key] at h'
  | .str x, e, k, h, h' => by
    cases h
    cases e with
    | str j => simp [D.key] at h'; rw [h']
    | tup l => rw [D.key] at h'; obtain ⟨_, _, z⟩ := Option.map_eq_some_iff.mp h'; cases z
    | _ => simp [D.key] at h'
  | .tup l, e, k, h, h' => by
    rw [D.key] at h
    obtain ⟨ks, h1, rfl⟩ := Option.map_eq_some_iff.mp h
    cases e with
    | tup m =>
      rw [D.key] at h'
      obtain ⟨ks', h2, z⟩ := Option.map_eq_some_iff.mp h'
      cases z
      rw [keys_inj h1 h2]
    | _ => simp [D.key] at h'
  | .bl b, _, _, h, _ => by simp [D.key] at h
  | .lst l, _, _, h, _ => by simp [D.key] at h
  | .dic l, _, _, h, _ => by simp [D.key] at h
  | .obj c fs, _, _, h, _ => by simp [D.key] at h
  | .scr l, _, _, h, _ => by simp [D.key] at h
theorem keys_inj : ∀ {l m : List D} {ks : List NestedKey}, D.keys l = some ks → D.keys m = some ks → l = m
  | [], m, ks, h, h' => by
    rw [D.keys] at h
    cases h
    cases m with
    | nil => rfl
    | cons d ds =>
      rw [D.keys] at h'
      split at h' <;> cases h'
  | d :: ds, m, ks, h, h' => by
    rw [D.keys] at h
    split at h
    · rename_i k ks' h1 h2
      cases h
      cases m with
      | nil => rw [D.keys] at h'; cases h'
      | cons d' ds' =>
        rw [D.keys] at h'
        split at h'
        · rename_i h3 h4
          cases h'
          rw [key_inj h1 h3, keys_inj h2 h4]
        · cases h'
    · cases h
end
def kD : Key → D
  | .inl i => .int i
  | .inr x => .str x
def OR {α β : Type} (R : α → β → Prop) : Option α → Option β → Prop
  | some a, some b => R a b
  | none, none => True
  | _, _ => False
section
variable {g : Gl0} {M H : Hp}
theorem rep_kV {k : Key} {d : D} (h : Rep g M (kV k) d) : d = kD k := by
  cases k with
  | inl i => exact (show d = .int i from by cases h; rfl)
  | inr x => exact (show d = .str x from by cases h; rfl)
theorem rep_kV_inj {k k' : Key} {d : D} (h : Rep g M (kV k) d) (h' : Rep g M (kV k') d) : k = k' := by
  have e := rep_kV h
  have e' := rep_kV h'
  rw [e] at e'
  cases k <;> cases k' <;> first | (cases e'; rfl) | cases e'
theorem repK_get {k : Key} {kd : D} (hk : Rep g M (kV k) kd) : ∀ {kvs : List (Key × V)} {ds : List (D × D)}, RepK g M kvs ds → OR (Rep g M) (valV kvs k) (dget ds kd)
  | _, _, .nil => trivial
  | _, _, .cons (k := k') (kd := kd') h1 h2 t => by
    by_cases e : k' = k
    · subst e
      have e2 : kd' = kd := (rep_kV h1).trans (rep_kV hk).symm
      rw [valV_pos rfl, dget_pos e2]
      exact h2
    · have e2 : ¬ kd' = kd := fun z => by subst z; exact e (rep_kV_inj h1 hk)
      rw [valV_neg e, dget_neg e2]
      exact repK_get hk t
theorem RepK.length : ∀ {kvs : List (Key × V)} {ds : List (D × D)}, RepK g M kvs ds → kvs.length = ds.length
  | _, _, .nil => rfl
  | _, _, .cons _ _ t => congrArg (· + 1) (RepK.length t)
theorem RepT.length : ∀ {kvs : List (NestedKey × Addr × V)} {ds : List (D × D)}, RepT g M kvs ds → kvs.length = ds.length
  | _, _, .nil => rfl
  | _, _, .cons _ _ _ _ t => congrArg (· + 1) (RepT.length t)
theorem OR.isSome {α β : Type} {R : α → β → Prop} {a : Option α} {b : Option β} (h : OR R a b) : a.isSome = b.isSome := by
  cases a <;> cases b <;> first | rfl | exact h.elim
theorem repK_map {k : Key} {kd : D} {v : V} {d : D} (hk : Rep g M (kV k) kd) (hv : Rep g M v d) : ∀ {kvs : List (Key × V)} {ds : List (D × D)}, RepK g M kvs ds → RepK g M (kvs.map fun kv => if kv.1 = k then (kv.1, v) else kv) (ds.map fun p => if p.1 = kd then (p.1, d) else p)
  | _, _, .nil => .nil
  | _, _, .cons (k := k') (kd := kd') h1 h2 t => by
    rw [List.map_cons, List.map_cons]
    by_cases e : k' = k
    · have e2 : kd' = kd := by subst e; exact (rep_kV h1).trans (rep_kV hk).symm
      rw [if_pos e, if_pos e2]
      exact .cons h1 hv (repK_map hk hv t)
    · have e2 : ¬ kd' = kd := fun z => by subst z; exact e (rep_kV_inj h1 hk)
      rw [if_neg e, if_neg e2]
      exact .cons h1 h2 (repK_map hk hv t)
theorem repK_snoc {k : Key} {kd : D} {v : V} {d : D} (hk : Rep g M (kV k) kd) (hv : Rep g M v d) : ∀ {kvs : List (Key × V)} {ds : List (D × D)}, RepK g M kvs ds → RepK g M (kvs ++ [(k, v)]) (ds ++ [(kd, d)])
  | _, _, .nil => .cons hk hv .nil
  | _, _, .cons h1 h2 t => .cons h1 h2 (repK_snoc hk hv t)
theorem repK_put {k : Key} {kd : D} {v : V} {d : D} {kvs : List (Key × V)} {ds : List (D × D)} (hk : Rep g M (kV k) kd) (hv : Rep g M v d) (r : RepK g M kvs ds) : RepK g M (putK kvs k v) (dput ds kd d) := by
  unfold putK dput
  rw [valV_any, (repK_get hk r).isSome]
  by_cases q : (dget ds kd).isSome = true
  · rw [if_pos q, if_pos q]; exact repK_map hk hv r
  · rw [if_neg q, if_neg q]; exact repK_snoc hk hv r
def tget (xs : List (NestedKey × Addr × V)) (k : NestedKey) : Option V := (xs.find? fun x => decide (x.1 = k)).map (·.2.2)
def tput (xs : List (NestedKey × Addr × V)) (k : NestedKey) (b : Addr) (v : V) : List (NestedKey × Addr × V) :=
  if (tget xs k).isSome = true then xs.map fun x => if x.1 = k then (x.1, x.2.1, v) else x else xs ++ [(k, b, v)]
theorem tget_pos {p : NestedKey × Addr × V} {r : List (NestedKey × Addr × V)} {k : NestedKey} (e : p.1 = k) : tget (p :: r) k = some p.2.2 := by simp [tget, List.find?_cons, e]
theorem tget_neg {p : NestedKey × Addr × V} {r : List (NestedKey × Addr × V)} {k : NestedKey} (e : ¬ p.1 = k) : tget (p :: r) k = tget r k := by simp [tget, List.find?_cons, e]
theorem repT_get {k : NestedKey} {kd : D} (hk : kd.key = some k) : ∀ {kvs : List (NestedKey × Addr × V)} {ds : List (D × D)}, RepT g M kvs ds → OR (Rep g M) (tget kvs k) (dget ds kd)
  | _, _, .nil => trivial
  | _, _, .cons (k := k') (kd := kd') h1 _ _ h2 t => by
    by_cases e : k' = k
    · subst e
      have e2 : kd' = kd := key_inj h1 hk
      rw [tget_pos rfl, dget_pos e2]
      exact h2
    · have e2 : ¬ kd' = kd := fun z => by subst z; rw [h1] at hk; cases hk; exact e rfl
      rw [tget_neg e, dget_neg e2]
      exact repT_get hk t
theorem repT_map {k : NestedKey} {kd : D} {v : V} {d : D} (hk : kd.key = some k) (hv : Rep g M v d) : ∀ {kvs : List (NestedKey × Addr × V)} {ds : List (D × D)}, RepT g M kvs ds → RepT g M (kvs.map fun x => if x.1 = k then (x.1, x.2.1, v) else x) (ds.map fun p => if p.1 = kd then (p.1, d) else p)
  | _, _, .nil => .nil
  | _, _, .cons (k := k') (kd := kd') h1 hz h3 h2 t => by
    rw [List.map_cons, List.map_cons]
    by_cases e : k' = k
    · have e2 : kd' = kd := by subst e; exact key_inj h1 hk
      rw [if_pos e, if_pos e2]
      exact .cons h1 hz h3 hv (repT_map hk hv t)
    · have e2 : ¬ kd' = kd := fun z => by subst z; rw [h1] at hk; cases hk; exact e rfl
      rw [if_neg e, if_neg e2]
      exact .cons h1 hz h3 h2 (repT_map hk hv t)
theorem repT_snoc {k : NestedKey} {b : Addr} {kd : D} {v : V} {d : D} (hk : kd.key = some k) (hz : k.depth ≤ 8) (hb : Rep g M (.ref b) kd) (hv : Rep g M v d) : ∀ {kvs : List (NestedKey × Addr × V)} {ds : List (D × D)}, RepT g M kvs ds → RepT g M (kvs ++ [(k, b, v)]) (ds ++ [(kd, d)])
  | _, _, .nil => .cons hk hz hb hv .nil
  | _, _, .cons h1 h2 h3 h4 t => .cons h1 h2 h3 h4 (repT_snoc hk hz hb hv t)
theorem repT_put {k : NestedKey} {b : Addr} {kd : D} {v : V} {d : D} {kvs : List (NestedKey × Addr × V)} {ds : List (D × D)} (hk : kd.key = some k) (hz : k.depth ≤ 8) (hb : Rep g M (.ref b) kd) (hv : Rep g M v d) (r : RepT g M kvs ds) : RepT g M (tput kvs k b v) (dput ds kd d) := by
  unfold tput dput
  rw [(repT_get hk r).isSome]
  by_cases q : (dget ds kd).isSome = true
  · rw [if_pos q, if_pos q]; exact repT_map hk hv r
  · rw [if_neg q, if_neg q]; exact repT_snoc hk hz hb hv r
abbrev TV : List (NestedKey × Addr × V) → List (NestedKey × Addr × Value) → Prop := Paired fun p q => p.1 = q.1 ∧ p.2.1 = q.2.1 ∧ RelV p.2.2 q.2.2
theorem TV.val {xs : List (NestedKey × Addr × V)} {ys : List (NestedKey × Addr × Value)} (r : TV xs ys) (k : NestedKey) : RelO (tget xs k) ((atKey ys k).map (·.2)) := by
  induction r with
  | nil => exact True.intro
  | @cons p q ps qs h t ih =>
    obtain ⟨h1, _, h2⟩ := h
    by_cases e : p.1 = k
    · have e' : q.1 = k := h1.symm.trans e
      have b : atKey (q :: qs) k = some q.2 := by simp [atKey, List.find?_cons, e']
      rw [tget_pos e, b]; exact h2
    · have e' : ¬ q.1 = k := fun z => e (h1.trans z)
      have b : atKey (q :: qs) k = atKey qs k := by simp [atKey, List.find?_cons, e']
      rw [tget_neg e, b]; exact ih
theorem TV.put {xs : List (NestedKey × Addr × V)} {ys : List (NestedKey × Addr × Value)} (r : TV xs ys) (k : NestedKey) {b : Addr} {v : V} {u : Value} (rv : RelV v u) : TV (tput xs k b v) (storedH ys k b u) := by
  have e : (tget xs k).isSome = (atKey ys k).isSome := by rw [(r.val k).isSome_eq, Option.isSome_map]
  unfold tput storedH
  rw [e]
  by_cases q : (atKey ys k).isSome = true
  · rw [if_pos q, if_pos q]
    clear e q
    induction r with
    | nil => exact .nil
    | @cons p q ps qs h t ih =>
      rw [List.map_cons, List.map_cons]
      refine .cons ?_ ih
      unfold putAt
      obtain ⟨h1, h2, h3⟩ := h
      by_cases e : p.1 = k
      · rw [if_pos e, if_pos (h1.symm.trans e)]; exact ⟨h1, h2, rv⟩
      · rw [if_neg e, if_neg (fun z => e (h1.trans z))]; exact ⟨h1, h2, h3⟩
  · rw [if_neg q, if_neg q]; exact Paired.snoc r ⟨rfl, rfl, rv⟩
theorem TV.length {xs : List (NestedKey × Addr × V)} {ys : List (NestedKey × Addr × Value)} (r : TV xs ys) : xs.length = ys.length := Paired.length r
end
section
variable {X : Cx} {cl : Str → Option Addr} {pins : List (Addr × Obj)} {σ : L2.St} {H M : Hp} {s : Shared} {a : Addr} {ds : List (D × D)}
mutual
theorem nested_is (I : Inv X pins σ H s) (sm : Sub M H) : ∀ {v : V} {d : D} {k : NestedKey} {u : Value}, Rep (gl X cl) M v d → d.key = some k → RelV v u → NestedIs s.heap k u
  | _, .non, k, u, h, e, r => by
    cases h; cases e
    obtain rfl : u = Value.none := r
    exact .none
  | _, .int i, k, u, h, e, r => by
    cases h; cases e
    obtain ⟨t, rfl⟩ := (show ∃ t, u = Value.int i t from r)
    exact .int i t
  | _, .str x, k, u, h, e, r => by
    cases h; cases e
    obtain ⟨t, rfl⟩ := (show ∃ t, u = Value.str x t from r)
    exact .text x t
  | _, .tup l, k, u, h, e, r => by
    rw [D.key] at e
    obtain ⟨ks, he, rfl⟩ := Option.map_eq_some_iff.mp e
    cases h with
    | tup hs hr hz nodhz =>
      rename_i b vs
      obtain rfl : u = Value.ref b := r
      obtain ⟨its, rv, p, _⟩ := I.tuple (sm.sqT hs)
      obtain ⟨o, h1, h2, n, h3⟩ := p
      exact .tup h1 h2 h3 (nested_all I sm hr he rv)
  | _, .bl _, _, _, _, e, _ => by simp [D.key] at e
  | _, .lst _, _, _, _, e, _ => by simp [D.key] at e
  | _, .dic _, _, _, _, e, _ => by simp [D.key] at e
  | _, .obj _ _, _, _, _, e, _ => by simp [D.key] at e
  | _, .scr _, _, _, _, e, _ => by simp [D.key] at e
theorem nested_all (I : Inv X pins σ H s) (sm : Sub M H) : ∀ {vs : List V} {l : List D} {ks : List NestedKey} {us : List Value}, Reps (gl X cl) M vs l → D.keys l = some ks → Vals vs us → NestedAll s.heap ks us
  | _, [], ks, us, h, e, r => by
    cases h
    rw [D.keys] at e; cases e
    cases r
    exact .nil
  | _, d :: ds, ks, us, h, e, r => by
    rw [D.keys] at e
    split at e
    · rename_i k ks' h1 h2
      cases e
      cases h with
      | cons q1 q2 =>
        cases r with
        | cons r1 r2 => exact .cons (nested_is I sm q1 h1 r1) (nested_all I sm q2 h2 r2)
    · cases e
end
theorem dit_at {xs : List (NestedKey × Addr × V)} (I : Inv X pins σ H s) (sm : Sub M H) (e : H a = some (dtO X.prog X.w a xs)) (r : RepT (gl X cl) M xs ds) :
    xs.length ≤ sizeLine ∧ (a == sysModules) = false ∧ ∃ ys, TV xs ys ∧ s.heap.DictOfH (nestedKind X.prog X.w) a ys := by
  obtain ⟨⟨hd, hz, ys, tv, o, es, ep, h1, h2, h3, h4, h5⟩, z1, z2⟩ := (show ObjOk X.prog X.w H s.heap a (dtO X.prog X.w a xs) from I.hok a _ e)
  refine ⟨hz, hd, ys, tv, o, es, ep, h1, h2, h3, h4, ?_, h5⟩
  clear h1 h2 h3 h4 h5 hz e z1 z2
  induction tv generalizing ds with
  | nil => intro x hx; exact nomatch hx
  | @cons p q ps qs hq t ih =>
    cases r with
    | cons k1 k2 k3 k4 k5 =>
      intro x hx
      rcases List.mem_cons.mp hx with z | z
      · subst z
        obtain ⟨z1, z2, _⟩ := hq
        refine ⟨?_, by rw [← z1]; exact k2⟩
        rw [← z1, ← z2]
        exact nested_is I sm k3 k1 rfl
      · exact ih k5 x z
theorem dit_new {P : Program} {w : World} {H' : Hp} {h' : Heap} {xs : List (NestedKey × Addr × V)} {ys : List (NestedKey × Addr × Value)} (hz : xs.length ≤ sizeLine) (hd : (a == sysModules) = false) (tv : TV xs ys) (dd : h'.DictOfH (nestedKind P w) a ys) : ObjOk P w H' h' a (dtO P w a xs) := by
  obtain ⟨o, es, ep, h1, h2, h3, h4, _, h5⟩ := dd
  refine ⟨⟨hd, hz, ys, tv, o, es, ep, h1, h2, h3, h4, h5⟩, ⟨o, h1⟩, fun k1 k2 hk keep => ?_⟩
  obtain ⟨hd, hz, ys, tv, o, es, ep, h1, h2, h3, h4, h5⟩ := hk
  exact ⟨hd, hz, ys, tv, o, es, ep, keep o h1, h2, h3, h4, h5⟩
theorem dz_T (I : Inv X pins σ H s) (e : H a = some (.dK [])) : Inv X pins σ (upd H a (dtO X.prog X.w a [])) s := by
  obtain ⟨hz, hd, vs, rel, dd⟩ := dk_of I.hok e
  cases rel
  obtain ⟨o, es, ep, h1, h2, h3, h4⟩ := dd
  refine I.write (x := a) (e := a) (by rw [e]; exact True.intro) (.inl rfl) (fun _ _ _ z => z) ⟨o, h1⟩ ?_
  obtain ⟨k1, k2, _⟩ := h4
  have e5 : es.toList = [] := by
    cases q : es.toList with
    | nil => rfl
    | cons p r => rw [q] at k2; cases k2
  refine dit_new (Nat.zero_le _) hd (ys := []) .nil ⟨o, es, ep, h1, h2, h3, e5, fun x hx => (List.not_mem_nil hx).elim, List.nodup_nil⟩
theorem dz_K (I : Inv X pins σ H s) (e : H a = some (dtO X.prog X.w a [])) : Inv X pins σ (upd H a (.dK [])) s := by
  obtain ⟨⟨hd, hz, ys, tv, o, es, ep, h1, h2, h3, h4, h5⟩, _⟩ := (show ObjOk X.prog X.w H s.heap a (dtO X.prog X.w a []) from I.hok a _ e)
  cases tv
  refine I.write (x := a) (e := a) (by rw [e]; exact True.intro) (.inl rfl) (fun _ _ _ z => z) ⟨o, h1⟩ ?_
  have e4 : es = #[] := Array.toList_inj.mp (by simpa using h4)
  subst e4
  exact ⟨Nat.zero_le _, hd, [], .nil, o, #[], ep, h1, h2, h3, fun x hx => by simp at hx, .nil, List.nodup_nil⟩
inductive RepD (g : Gl0) (M : Hp) : Addr → HO → D → Prop
  | own {a : Addr} {o : HO} {d : D} : RepO g M a o d → RepD g M a o d
  | frz {a : Addr} {o : Obj} {kvs : List (Key × V)} {ds : List (D × D)} : RepK g M kvs ds → RepD g M a (.frz o (.dK kvs)) (.dic ds)
theorem PRep.dic {g : Gl0} {x : V} (sm : Sub M H) (h : PRep g M H x (.dic ds)) : ∃ a o, x = .ref a ∧ H a = some o ∧ RepD g M a o (.dic ds) := by
  rcases h with h | ⟨a, o, rfl, e, r⟩
  · cases h with
    | dik h r =>
      rcases h with h | ⟨o, h⟩
      · exact ⟨_, _, rfl, sm _ _ h, .own (.dik r)⟩
      · exact ⟨_, _, rfl, sm _ _ h, .frz r⟩
    | dit h r z => exact ⟨_, _, rfl, sm _ _ h, .own (.dit r z)⟩
  · exact ⟨a, o, rfl, e, .own r⟩
theorem dk_frz {o : Obj} {kvs : List (Key × V)} (I : Inv X pins σ H s) (e : H a = some (.frz o (.dK kvs))) : kvs.length ≤ sizeLine ∧ (a == sysModules) = false ∧ ∃ ys, KV kvs ys ∧ s.heap.DictOf (mixKind X.prog X.w) a ys := by
  obtain ⟨h1, h2, h3, es, ep, vs, h4, h5, h6, h7⟩ := I.frzK e
  refine ⟨?_, h1, vs, h6, h7.dictOf⟩
  obtain ⟨_, z, _⟩ := I.hok _ _ e
  exact z
theorem repK_flat : ∀ {kvs : List (Key × V)} {ds : List (D × D)} {g : Gl0}, RepK g M kvs ds → ds.all (fun p => p.1.isTup) = true → kvs = [] ∧ ds = []
  | _, _, _, .nil, _ => ⟨rfl, rfl⟩
  | _, _, _, .cons (k := k) h _ _, e => by
    rw [List.all_cons, Bool.and_eq_true] at e
    have := rep_kV h
    rw [this] at e
    cases k <;> cases e.1
theorem repT_tup : ∀ {kvs : List (NestedKey × Addr × V)} {ds : List (D × D)} {g : Gl0}, RepT g M kvs ds → ds.all (fun p => !p.1.isTup) = true → kvs = [] ∧ ds = []
  | _, _, _, .nil, _ => ⟨rfl, rfl⟩
  | _, _, _, .cons (kd := kd) h1 _ h3 _ _, e => by
    rw [List.all_cons, Bool.and_eq_true] at e
    have e1 := e.1
    cases kd with
    | tup l => cases e1
    | _ => first | (simp [D.key] at h1; done) | cases h3
theorem view_T (I : Inv X pins σ H s) (sm : Sub M H) {o : HO} (e : H a = some o) (r : RepO (gl X cl) M a o (.dic ds)) (hk : ds.all (fun p => p.1.isTup) = true) :
    (a == sysModules) = false ∧ ds.length ≤ sizeLine ∧ ∃ xs ys, RepT (gl X cl) M xs ds ∧ TV xs ys ∧ s.heap.DictOfH (nestedKind X.prog X.w) a ys := by
  cases r with
  | dit r hne =>
    obtain ⟨h1, h2, ys, h3, h4⟩ := dit_at I sm e r
    exact ⟨h2, by rw [← r.length]; exact h1, _, ys, r, h3, h4⟩
  | dik r =>
    obtain ⟨rfl, rfl⟩ := repK_flat r hk
    obtain ⟨h1, h2, ys, h3, h4⟩ := dit_at (cl := cl) (M := fun _ => none) (ds := []) (dz_T I e) (fun _ _ z => nomatch z) upd_same .nil
    exact ⟨h2, Nat.zero_le _, [], ys, .nil, h3, h4⟩
theorem view_K (I : Inv X pins σ H s) {o : HO} (e : H a = some o) (r : RepO (gl X cl) M a o (.dic ds)) (hk : ds.all (fun p => !p.1.isTup) = true) :
    (a == sysModules) = false ∧ ds.length ≤ sizeLine ∧ ∃ xs ys, RepK (gl X cl) M xs ds ∧ KV xs ys ∧ s.heap.DictOf (mixKind X.prog X.w) a ys := by
  cases r with
  | dik r =>
    obtain ⟨h1, h2, ys, h3, h4⟩ := dk_of I.hok e
    exact ⟨h2, by rw [← r.length]; exact h1, _, ys, r, h3, h4⟩
  | dit r hne =>
    obtain ⟨rfl, rfl⟩ := repT_tup r hk
    obtain ⟨h1, h2, ys, h3, h4⟩ := dk_of (dz_K I e).hok upd_same
    exact ⟨h2, Nat.zero_le _, [], ys, .nil, h3, h4⟩
theorem view_TD (I : Inv X pins σ H s) (sm : Sub M H) {o : HO} (e : H a = some o) (r : RepD (gl X cl) M a o (.dic ds)) (hk : ds.all (fun p => p.1.isTup) = true) :
    (a == sysModules) = false ∧ ds.length ≤ sizeLine ∧ ∃ xs ys, RepT (gl X cl) M xs ds ∧ TV xs ys ∧ s.heap.DictOfH (nestedKind X.prog X.w) a ys := by
  cases r with
  | own r => exact view_T I sm e r hk
  | frz r =>
    obtain ⟨rfl, rfl⟩ := repK_flat r hk
    obtain ⟨h1, h2, h3, es, ep, vs, h4, h5, h6, h7⟩ := I.frzK e
    have e5 : es.toList = [] := by
      have : es.toList.length = 0 := by rw [Array.length_toList]; exact h5
      exact List.length_eq_zero_iff.mp this
    exact ⟨h1, Nat.zero_le _, [], [], .nil, .nil, ⟨_, es, ep, h2, h3, h4, e5, fun x hx => (List.not_mem_nil hx).elim, List.nodup_nil⟩⟩
theorem view_KD (I : Inv X pins σ H s) {o : HO} (e : H a = some o) (r : RepD (gl X cl) M a o (.dic ds)) (hk : ds.all (fun p => !p.1.isTup) = true) :
    (a == sysModules) = false ∧ ds.length ≤ sizeLine ∧ ∃ xs ys, RepK (gl X cl) M xs ds ∧ KV xs ys ∧ s.heap.DictOf (mixKind X.prog X.w) a ys := by
  cases r with
  | own r => exact view_K I e r hk
  | frz r =>
    obtain ⟨h1, h2, ys, h3, h4⟩ := dk_frz I e
    exact ⟨h2, by rw [← r.length]; exact h1, _, ys, r, h3, h4⟩
theorem mut_dic {g : Gl0} {o : HO} (r : RepO g M a o (.dic ds)) : Mut (some o) := by
  cases r with
  | dik r => exact True.intro
  | dit r _ => exact True.intro
end
end Ev
set_option Elab.async false
set_option linter.all false
set_option autoImplicit false
set_option maxRecDepth 100000
namespace Ev
open PySem L2 PySem.Spec PyProof.Rows
noncomputable def pDIx : List D → Option Vl
  | [.dic ds, k] => if dkOk ds k = true then (dget ds k).map fz else none
  | _ => none
noncomputable def pDIn : List D → Option Vl
  | [k, .dic ds] => if dkOk ds k = true then some (fz (.bl (dget ds k).isSome)) else none
  | _ => none
noncomputable def pDNotIn : List D → Option Vl
  | [k, .dic ds] => if dkOk ds k = true then some (fz (.bl (!(dget ds k).isSome))) else none
  | _ => none
def pDLen : List D → Option Vl
  | [.dic ds] => some (fz (.int ds.length))
  | _ => none
section
variable {X : Cx} {cl : Str → Option Addr} {pins : List (Addr × Obj)} {σ : L2.St} {H M : Hp} {s : Shared} {a : Addr} {ds : List (D × D)} {A : Around} {E : Value → Shared → Prop}
theorem dk_cases {k : D} (h : dkOk ds k = true) : (∃ k', k = kD k' ∧ ds.all (fun p => !p.1.isTup) = true) ∨ ∃ l k', k = .tup l ∧ D.key (.tup l) = some k' ∧ k'.depth ≤ 8 ∧ ds.all (fun p => p.1.isTup) = true := by
  unfold dkOk at h
  split at h
  · exact .inl ⟨.inl _, rfl, h⟩
  · exact .inl ⟨.inr _, rfl, h⟩
  · rw [Bool.and_eq_true] at h
    unfold kdp at h
    split at h
    · rename_i k' hk
      exact .inr ⟨_, k', rfl, hk, of_decide_eq_true h.1, h.2⟩
    · cases h.1
  · cases h
theorem prep_kD {k : Key} {y : V} (h : PRep (gl X cl) M H y (kD k)) : y = kV k ∧ Rep (gl X cl) M (kV k) (kD k) := by
  cases k with
  | inl i =>
    have e := PRep.int (i := i) h
    rw [e]; exact ⟨rfl, .int i⟩
  | inr x =>
    obtain ⟨e, r⟩ := PRep.str (i := x) h
    rw [e]; exact ⟨rfl, .str x r⟩
theorem OR.get {α β : Type} {R : α → β → Prop} {a : Option α} {b : Option β} {y : β} (h : OR R a b) (e : b = some y) : ∃ x, a = some x ∧ R x y := by
  subst e
  cases a with
  | none => exact h.elim
  | some x => exact ⟨x, rfl, h⟩
theorem dread {x y : V} {k : D} {u : Value} {P : Prop} (I : Inv X pins σ H s) (sm : Sub M H) (hd : PRep (gl X cl) M H x (.dic ds)) (hy : PRep (gl X cl) M H y k) (ry : RelV y u) (ok : dkOk ds k = true)
    (h1 : ∀ a k' vs (o : Option V), x = .ref a → (a == sysModules) = false → s.heap.DictOf (mixKind X.prog X.w) a vs → (mixKind X.prog X.w).is k' u = true → RelO o (valueAt vs k') → OR (Rep (gl X cl) M) o (dget ds k) → P)
    (h2 : ∀ a b k' ys (o : Option V), x = .ref a → u = .ref b → (a == sysModules) = false → s.heap.DictOfH (nestedKind X.prog X.w) a ys → (nestedKind X.prog X.w).is s.heap k' b → RelO o ((atKey ys k').map (·.2)) → OR (Rep (gl X cl) M) o (dget ds k) → P) : P := by
  obtain ⟨a, ob, ex, ea, ro⟩ := hd.dic sm
  rcases dk_cases ok with ⟨k', rfl, hk⟩ | ⟨l, k', rfl, hk, hz, hk2⟩
  · obtain ⟨ha, hl, xs, ys, h3, h4, h5⟩ := view_KD I ea ro hk
    obtain ⟨rfl, hr⟩ := prep_kD hy
    exact h1 a k' ys _ ex ha h5 (kV_is ry) (h4.val k') (repK_get hr h3)
  · obtain ⟨ha, hl, xs, ys, h3, h4, h5⟩ := view_TD I sm ea ro hk2
    obtain ⟨b, vs, rfl, _, _, hr, _⟩ := hy.tup sm
    obtain rfl : u = Value.ref b := ry
    exact h2 a b k' ys _ ex rfl ha h5 ⟨nested_is I sm hr hk rfl, hz⟩ (h4.val k') (repT_get hk h3)
theorem nroom {A : Around} (hu : A.units + 65 < cLine) : (nestedKind X.prog X.w).room A.in1 := by
  show A.units + 1 + 8 < cLine
  omega
theorem ix_dicP (hu : X.A.units + 65 < cLine) : IxR X (rP2 (gl X cl) pDIx) := by
  intro value slice pins s σ H x y v u Q I rx ry h hs
  obtain ⟨M, ds, w, sm, pr, hp, k⟩ := h
  unfold pDIx at hp
  split at hp
  · split at hp
    · rename_i hok
      obtain ⟨q1, q2⟩ := preps2 pr
      obtain ⟨d, hd, rfl⟩ := Option.map_eq_some_iff.mp hp
      have go : ∀ a, x = .ref a → s.TypeIs (.ref a) "dict" → wpAny (model X.prog X.w) X.A (getItem (.ref a) u) (EP X pins σ Q) X.xe s → wpAny (model X.prog X.w) X.A (subscriptTail value slice v u) (EP X pins σ Q) X.xe s := by
        intro a e hT hg
        subst e
        obtain rfl : v = Value.ref a := rx
        unfold subscriptTail
        refine wpAny_bind ?_
        rw [getitemInPython_of_ne hT.not_modules]
        refine wpAny_bind (wpAny_specialOf hT PySem.F.slot_dict_getitem.lookup ?_)
        have fin : wpAny (model X.prog X.w) X.A (subscripted slice false (.ref a) u) (fun r s₃ => wpAny (model X.prog X.w) X.A (letTemporaryGo value (.ref a) r >>= fun _ => pure r) (EP X pins σ Q) X.xe s₃) X.xe s := by
          rw [hs]
          exact wpAny_operating (wpAny_mono hg (fun r s₃ h₃ => wpAny_bind (wpAny_letTemporaryGo (wpAny_pure h₃))) fun _ _ x => x)
        first
          | exact wpAny_pure (wpAny_bind fin)
          | exact wpAny_bind (wpAny_pure (wpAny_bind fin))
          | exact wpAny_bind fin
      refine dread I sm q1 q2 ry hok (fun a k' vs o e ha dd hk ro hor => ?_) (fun a b k' ys o e eu ha dd hk ro hor => ?_)
      · obtain ⟨z, rfl, rz⟩ := hor.get hd
        obtain ⟨w', hw, rw'⟩ := RelO.some_of ro
        refine go a e dd.typeIs (wpAny_getItem_of hk dd.mapOf hw ⟨z, H, I.tok _, rw', rPs.fz k sm rz⟩)
      · subst eu
        obtain ⟨z, rfl, rz⟩ := hor.get hd
        obtain ⟨w', hw, rw'⟩ := RelO.some_of ro
        obtain ⟨p, hp1, hp2⟩ := Option.map_eq_some_iff.mp hw
        refine go a e dd.typeIs (wpAny_getItem_heap (nroom hu) hk dd hp1 ?_)
        rw [hp2]
        exact ⟨z, H, I.tok _, rw', rPs.fz k sm rz⟩
    · cases hp
  · cases hp
theorem op_dinP (hu : X.A.units + 65 < cLine) : OpR X (compareOp .In) (rP2 (gl X cl) pDIn) := by
  intro pins s σ H x y v u Q I rx ry h
  obtain ⟨M, ds, w, sm, pr, hp, k⟩ := h
  unfold pDIn at hp
  split at hp
  · split at hp
    · rename_i hok
      cases hp
      obtain ⟨q1, q2⟩ := preps2 pr
      refine dread I sm q2 q1 rx hok (fun a k' vs o e ha dd hk ro hor => ?_) (fun a b k' ys o e eu ha dd hk ro hor => ?_)
      · subst e
        obtain rfl : u = Value.ref a := ry
        refine wpAny_in_of hk ha dd.mapOf ?_
        rw [← ro.isSome_eq, hor.isSome]
        exact ⟨.bl _, H, I.tok _, rfl, rPs.fz k sm (.bl _)⟩
      · subst e eu
        obtain rfl : u = Value.ref a := ry
        refine wpAny_in_heap (nroom hu) hk ha dd ?_
        have q := ro.isSome_eq
        rw [Option.isSome_map] at q
        rw [← q, hor.isSome]
        exact ⟨.bl _, H, I.tok _, rfl, rPs.fz k sm (.bl _)⟩
    · cases hp
  · cases hp
theorem op_dnotInP (hu : X.A.units + 65 < cLine) : OpR X (compareOp .NotIn) (rP2 (gl X cl) pDNotIn) := by
  intro pins s σ H x y v u Q I rx ry h
  obtain ⟨M, ds, w, sm, pr, hp, k⟩ := h
  unfold pDNotIn at hp
  split at hp
  · split at hp
    · rename_i hok
      cases hp
      obtain ⟨q1, q2⟩ := preps2 pr
      refine dread I sm q2 q1 rx hok (fun a k' vs o e ha dd hk ro hor => ?_) (fun a b k' ys o e eu ha dd hk ro hor => ?_)
      · subst e
        obtain rfl : u = Value.ref a := ry
        refine wpAny_notIn_of hk ha dd.mapOf ?_
        rw [← ro.isSome_eq, hor.isSome]
        exact ⟨.bl _, H, I.tok _, rfl, rPs.fz k sm (.bl _)⟩
      · subst e eu
        obtain rfl : u = Value.ref a := ry
        refine wpAny_notIn_heap (nroom hu) hk ha dd ?_
        have q := ro.isSome_eq
        rw [Option.isSome_map] at q
        rw [← q, hor.isSome]
        exact ⟨.bl _, H, I.tok _, rfl, rPs.fz k sm (.bl _)⟩
    · cases hp
  · cases hp
theorem repK_keys {g : Gl0} : ∀ {kvs : List (Key × V)} {ds : List (D × D)}, RepK g M kvs ds → Reps g M (kvs.map fun p => kV p.1) (ds.map (·.1))
  | _, _, .nil => .nil
  | _, _, .cons q _ t => .cons q (repK_keys t)
theorem repT_keys {g : Gl0} : ∀ {kvs : List (NestedKey × Addr × V)} {ds : List (D × D)}, RepT g M kvs ds → Reps g M (kvs.map fun p => V.ref p.2.1) (ds.map (·.1))
  | _, _, .nil => .nil
  | _, _, .cons _ _ q _ t => .cons q (repT_keys t)
theorem draw_of {o : HO} (I : Inv X pins σ H s) (sm : Sub M H) (e : H a = some o) (r : RepO (gl X cl) M a o (.dic ds)) :
    (a == sysModules) = false ∧ ds.length ≤ sizeLine ∧ ∃ es ep, s.heap.DictRaw a es ep ∧ es.size = ds.length ∧ ∃ ks : List V, Reps (gl X cl) M ks (ds.map (·.1)) ∧ Vals ks (es.toList.map (·.key)) := by
  cases r with
  | dik r =>
    obtain ⟨h1, h2, ys, h3, h4⟩ := dk_of I.hok e
    obtain ⟨o, es, ep, g1, g2, g3, g4, g5, g6⟩ := h4
    rename_i kvs
    refine ⟨h2, by rw [← r.length]; exact h1, es, ep, ⟨o, g1, g2, g3⟩, ?_, kvs.map (fun p => kV p.1), ?_, ?_⟩
    · rw [← Array.length_toList, g5.length, ← h3.length, r.length]
    · exact repK_keys r
    · have g5' := g5
      clear r e h1 g1 g2 g3 g4 g5 g6
      generalize es.toList = l at g5'
      unfold KV at h3
      induction h3 generalizing l with
      | nil => cases g5'; exact .nil
      | cons q t ih =>
        cases g5' with
        | cons z1 z2 z3 =>
          refine .cons ?_ (ih _ z3)
          have q1 := relV_key (show keyIs _ _ = true from z1)
          rw [← q.1] at q1
          exact q1
  | dit r hne =>
    obtain ⟨h1, h2, ys, h3, h4⟩ := dit_at I sm e r
    obtain ⟨o, es, ep, g1, g2, g3, g4, g5, g6⟩ := h4
    rename_i kvs
    refine ⟨h2, by rw [← r.length]; exact h1, es, ep, ⟨o, g1, g2, g3⟩, ?_, kvs.map (fun p => V.ref p.2.1), ?_, ?_⟩
    · rw [← Array.length_toList, g4, List.length_map, ← h3.length, r.length]
    · exact repT_keys r
    · rw [g4]
      clear r e h1 g1 g2 g3 g4 g5 g6
      induction h3 with
      | nil => exact .nil
      | cons q t ih =>
        refine .cons ?_ ih
        have q1 := q.2.1
        show Value.ref _ = Value.ref _
        rw [q1]
theorem draw_ofD {o : HO} (I : Inv X pins σ H s) (sm : Sub M H) (e : H a = some o) (r : RepD (gl X cl) M a o (.dic ds)) :
    (a == sysModules) = false ∧ ds.length ≤ sizeLine ∧ ∃ es ep, s.heap.DictRaw a es ep ∧ es.size = ds.length ∧ ∃ ks : List V, Reps (gl X cl) M ks (ds.map (·.1)) ∧ Vals ks (es.toList.map (·.key)) := by
  cases r with
  | own r => exact draw_of I sm e r
  | frz r =>
    obtain ⟨h1, h2, ys, h3, h4⟩ := dk_frz I e
    obtain ⟨o, es, ep, g1, g2, g3, g4, g5, g6⟩ := h4
    rename_i kvs
    refine ⟨h2, by rw [← r.length]; exact h1, es, ep, ⟨o, g1, g2, g3⟩, ?_, kvs.map (fun p => kV p.1), ?_, ?_⟩
    · rw [← Array.length_toList, g5.length, ← h3.length, r.length]
    · exact repK_keys r
    · have g5' := g5
      clear r e h1 g1 g2 g3 g4 g5 g6
      generalize es.toList = l at g5'
      unfold KV at h3
      induction h3 generalizing l with
      | nil => cases g5'; exact .nil
      | cons q t ih =>
        cases g5' with
        | cons z1 z2 z3 =>
          refine .cons ?_ (ih _ z3)
          have q1 := relV_key (show keyIs _ _ = true from z1)
          rw [← q.1] at q1
          exact q1
def rDPut (g : Gl0) (y z : V) (D : Addr) (H : Hp) (Nx : Hp → Prop) : Prop := ∃ M o ds kd d, H D = some o ∧ RepO g M D o (.dic ds) ∧ Sub M H ∧ Rep g M y kd ∧ Rep g M z d ∧ dkOk ds kd = true ∧ ds.length < sizeLine ∧ ∀ o', RepO g M D o' (.dic (dput ds kd d)) → Nx (upd H D o')
theorem dput_len (ds : List (D × D)) (k v : D) : (dput ds k v).length ≤ ds.length + 1 := by
  unfold dput
  split
  · rw [List.length_map]; omega
  · simp
theorem dput_ne (ds : List (D × D)) (k v : D) : dput ds k v ≠ [] := by
  unfold dput
  split
  · rename_i h
    intro e
    have : ds = [] := List.map_eq_nil_iff.mp e
    subst this
    revert h
    simp [dget]
  · simp
theorem dput_go {y z : V} {D : Addr} {u r : Value} {Nx : Hp → Prop} {P : Prop} (I : Inv X pins σ H s) (h : rDPut (gl X cl) y z D H Nx) (ry : RelV y u) (rz : RelV z r)
    (h1 : ∀ k vs, vs.length ≤ sizeLine → (mixKind X.prog X.w).is k u = true → s.heap.DictOf (mixKind X.prog X.w) D vs → (∀ h' t', h'.DictOf (mixKind X.prog X.w) D (stored vs k r) → Heap.SameBut D s.heap h' → ∃ H', Inv X pins σ H' { s with heap := h', toks := t' } ∧ Nx H') → P)
    (h2 : ∀ k b vs, vs.length ≤ sizeLine → u = .ref b → (nestedKind X.prog X.w).is s.heap k b → s.heap.DictOfH (nestedKind X.prog X.w) D vs → (∀ h' t', h'.DictOfH (nestedKind X.prog X.w) D (storedH vs k b r) → Heap.SameBut D s.heap h' → ∃ H', Inv X pins σ H' { s with heap := h', toks := t' } ∧ Nx H') → P) : P := by
  obtain ⟨M, o, ds, kd, d, hD, ro, sm, hk, hz, ok, hl, nx⟩ := h
  rcases dk_cases ok with ⟨k', rfl, hk1⟩ | ⟨l, k', rfl, hk1, hdp, hk2⟩
  · obtain ⟨ha, hl', xs, ys, g1, g2, g3⟩ := view_K I hD ro hk1
    obtain ⟨rfl, hr⟩ := prep_kD (H := H) (.inl hk)
    have hls : ys.length = ds.length := by rw [← g2.length, g1.length]
    refine h1 k' ys (by omega) (kV_is ry) g3 fun h' t' dd' hs => ?_
    have q := repK_put hr hz g1
    refine ⟨upd H D (.dK (putK xs k' z)), d_write I (by rw [hD]; exact mut_dic ro) hs (let ⟨q, _, _, hq, _⟩ := dd'; ⟨q, hq⟩) (dk_new ?_ ha (g2.put k' rz) dd'), nx _ (.dik q)⟩
    rw [q.length]
    have := dput_len ds (kD k') d
    omega
  · obtain ⟨ha, hl', xs, ys, g1, g2, g3⟩ := view_T I sm hD ro hk2
    obtain ⟨b, vs, rfl, _, _, hr, _⟩ := PRep.tup (H := H) sm (.inl hk)
    obtain rfl : u = Value.ref b := ry
    have hls : ys.length = ds.length := by rw [← g2.length, g1.length]
    refine h2 k' b ys (by omega) rfl ⟨nested_is I sm hr hk1 rfl, hdp⟩ g3 fun h' t' dd' hs => ?_
    have q := repT_put hk1 hdp hk hz g1
    refine ⟨upd H D (dtO X.prog X.w D (tput xs k' b z)), d_write I (by rw [hD]; exact mut_dic ro) hs (let ⟨q, _, _, hq, _⟩ := dd'; ⟨q, hq⟩) (dit_new ?_ ha (g2.put k' rz) dd'), nx _ (.dit q (dput_ne _ _ _))⟩
    rw [q.length]
    have := dput_len ds (.tup l) d
    omega
theorem dput_set {y z : V} {D : Addr} {u r : Value} {Nx : Hp → Prop} {E : Value → Shared → Prop} (hu : X.A.units + 65 < cLine) (I : Inv X pins σ H s) (h : rDPut (gl X cl) y z D H Nx) (ry : RelV y u) (rz : RelV z r) :
    wpAny (model X.prog X.w) X.A (dictSet D u r) (fun _ s' => ∃ H', Inv X pins σ H' s' ∧ Nx H') E s := by
  refine dput_go I h ry rz (fun k vs hz hk dd fin => ?_) fun k b vs hz eu hk dd fin => ?_
  · exact wpAny_dictSet_pairs (hsz := hz) hk dd fun h' dd' hs => fin h' _ dd' hs
  · subst eu
    refine wpAny_dictSet_heap (hsz := hz) ?_ hk dd fun h' dd' hs => fin h' _ dd' hs
    show X.A.units + 8 < cLine
    omega
theorem len_raw {d : Addr} {es : Array DictEntry} {ep : Nat} {Q : Value → Shared → Prop} (hd : (d == sysModules) = false) (hm : s.heap.DictRaw d es ep) (hfit : (es.size : Int) < 2 ^ 63)
    (h : Q (.int es.size (s.toks + 1)) { s with toks := s.toks + 1 + 1 }) : wpAny (model X.prog X.w) A (call (.builtin "len") [.ref d]) Q E s := by
  refine Calls.call_function_entry kind_len plain_len entry_len (args_len1 _) ?_
  unfold Builtin.«len»
  refine wpAny_bind (m := oneArg "len" _) (wpAny_pure ?_)
  refine wpAny_bind (m := callSpecial? (.ref d) (Str.ofString "__len__")) (wpAny_callSpecial?_slot (name := Str.ofString "__len__") hm.typeIs F.slot_dict_len (call_len_raw hd hm ?_))
  show wpAny _ _ _ _ _ { s with toks := s.toks + 1 }
  refine wpAny_bind (wpAny_holding (wpAny_pure ?_))
  refine wpAny_bind (wpAny_letGo ?_)
  show wpAny _ _ (if ((es.size : Nat) : Int) < 0 then _ else _) _ _ _
  rw [if_neg (by omega)]
  show wpAny _ _ (if ((es.size : Nat) : Int) ≥ 2 ^ 63 then _ else _) _ _ _
  rw [if_neg (by omega)]
  exact wpAny_bind (wpAny_mkInt (wpAny_pure ⟨_, rfl, h⟩))
theorem cr_dlenP : CallR X (.builtin "len") (rPs (gl X cl) pDLen) := by
  intro pins s σ H xs us Q I r h
  obtain ⟨M, ds, w, sm, pr, hp, k⟩ := h
  unfold pDLen at hp
  split at hp
  · cases hp
    obtain ⟨x, rfl, q⟩ := preps1 pr
    obtain ⟨a, o, rfl, ea, ro⟩ := q.dic sm
    rw [Vals.ref1 r]
    obtain ⟨ha, hl, es, ep, h1, h2, _⟩ := draw_ofD I sm ea ro
    refine len_raw ha h1 (by rw [h2]; rw [sizeLine_eq] at hl; omega) ?_
    rw [h2]
    exact ⟨.int _, H, I.tok _, ⟨_, rfl⟩, rPs.fz k sm (.int _)⟩
  · cases hp
theorem collect_raw {d : Addr} {es : Array DictEntry} {ep : Nat} {R : List Value → Shared → Prop} (hd : (d == sysModules) = false) (hm : s.heap.DictRaw d es ep) (hh : A.handled = none) (hn : es.size ≤ sizeLine)
    (h : ∀ (h' : Heap) (tk : Nat), (∀ b o, s.heap.get? b = some o → h'.get? b = some o) → s.heap.objs.size < h'.objs.size → R (es.toList.map (·.key)) { s with heap := h', toks := tk }) : wpAny (model X.prog X.w) A (collect (.ref d)) R E s := by
  have K := KdlSrc.rawDict (prog := X.prog) (w := X.w) (es := es) (ep := ep) hd
  have hlt := K.there _ hm
  have hnew : (s.heap.push { cls := .type "list", data := .seq ([] : List Value).toArray }).get? s.heap.objs.size = some { cls := .type "list", data := .seq #[] } := Heap.get?_push_size _ rfl
  unfold collect
  refine wpAny_bind (wpAny_runValue (codeAny_builtin entry_proto_collect' ?_))
  rw [Around.under_plainId PySem.F.plain_proto_collect _]
  show wpAny _ A.in1 (newList [] >>= fun l => again (.builtin "list.__iadd__" ⟨[l, .ref d], []⟩)) _ _ s
  refine wpAny_bind (wpAny_newObj_type (wpAny_pure ⟨plainId_quiet PySem.F.plain_list_iadd _, codeAny_builtin entry_list_iadd' ?_⟩))
  rw [Around.under_plainId PySem.F.plain_list_iadd _]
  have fin : ∀ (h' : Heap) (tk : Nat) (acc : Array Value) (c : Nat), (∀ b o, b ≠ s.heap.objs.size → (s.heap.push { cls := .type "list", data := .seq ([] : List Value).toArray }).get? b = some o → h'.get? b = some o) →
      h'.get? s.heap.objs.size = some { cls := .type "list", dict := none, data := .seq acc c, slots := #[] } → ItemsOf (fun i v => ∃ hi : i < es.size, v = es[i].key) acc es.size →
      wpAny (model X.prog X.w) A (load s.heap.objs.size) (fun o s' => wpAny (model X.prog X.w) A (match o.data with | .seq xs _ => pure xs.toList | _ => unsupported "internal:collect") R E s') E { s with heap := h', toks := tk } := by
    intro h' tk acc c hk hS hacc
    refine wpAny_load hS (wpAny_pure ?_)
    have e1 : acc.toList = es.toList.map (·.key) := by
      apply List.ext_getElem
      · rw [List.length_map, Array.length_toList, Array.length_toList]; exact hacc.1
      · intro i h1 h2
        obtain ⟨hi, e⟩ := hacc.2 i acc.toList[i] (by rw [← Array.getElem?_toList]; exact List.getElem?_eq_getElem h1)
        rw [e, List.getElem_map, Array.getElem_toList]
    show R acc.toList _
    rw [e1]
    exact h h' tk (fun b o e => hk b o (Nat.ne_of_lt (Heap.lt_size e)) (Heap.get?_push_of_some _ e)) (Heap.lt_size hS)
  have key := PySem.W.kdl_extend (A := A) (s := { s with heap := s.heap.push { cls := .type "list", data := .seq ([] : List Value).toArray } })
    (R := fun (q : Result) (s' : Shared) => ∃ (h' : Heap) (tk : Nat) (acc : Array Value) (c : Nat), q = .ok (.ret (.ref s.heap.objs.size)) ∧ s' = { s with heap := h', toks := tk } ∧
      (∀ b o, b ≠ s.heap.objs.size → (s.heap.push { cls := .type "list", data := .seq ([] : List Value).toArray }).get? b = some o → h'.get? b = some o) ∧ h'.get? s.heap.objs.size = some { cls := .type "list", dict := none, data := .seq acc c, slots := #[] } ∧ ItemsOf (fun i v => ∃ hi : i < es.size, v = es[i].key) acc es.size)
    K hh (K.keep _ _ hm fun b _ o e => Heap.get?_push_of_some _ e) s.heap.objs.size (Nat.ne_of_gt hlt.1) (Nat.ne_of_gt hlt.2) (.ref s.heap.objs.size) 0 hnew
    (fun h' tk acc c hk hS hacc => ⟨h', tk, acc, c, rfl, rfl, hk, hS, hacc⟩) hn
  refine wpAny_mono key (fun fi s' x => ?_) fun e s' x => ?_
  · cases fi with
    | done f =>
      obtain ⟨h', tk, acc, c, e, rfl, hk, hS, hacc⟩ := x
      cases e
      exact wpAny_bind (fin h' tk acc c hk hS hacc)
    | again c₁ =>
      refine ⟨x.1, codeAny_mono x.2 fun q s₂ y => ?_⟩
      obtain ⟨h', tk, acc, c, rfl, rfl, hk, hS, hacc⟩ := y
      exact wpAny_bind (fin h' tk acc c hk hS hacc)
  · obtain ⟨_, _, _, _, e', _⟩ := x
    cases e'
theorem sorted_raw {d : Addr} {es : Array DictEntry} {ep : Nat} {Q : Value → Shared → Prop} (hd : (d == sysModules) = false) (hm : s.heap.DictRaw d es ep) (hh : A.handled = none) (hn : es.size ≤ sizeLine)
    (h : ∀ (h' : Heap) (tk : Nat), (∀ b o, s.heap.get? b = some o → h'.get? b = some o) → s.heap.objs.size < h'.objs.size →
      wpAny (model X.prog X.w) A.in1 (call (.builtin "list.sort") [.ref h'.objs.size]) (fun _ s' => Q (.ref h'.objs.size) s') E { s with heap := h'.push { cls := .type "list", data := .seq (es.toList.map (·.key)).toArray }, toks := tk }) :
    wpAny (model X.prog X.w) A (call (.builtin "sorted") [.ref d]) Q E s := by
  refine Calls.call_function_entry kind_sorted plain_sorted entry_sorted (args_sorted1 _) ?_
  unfold Builtin.«sorted»
  refine wpAny_bind (m := checkCount "sorted" 1 1 _) (wpAny_pure ?_)
  refine wpAny_bind (collect_raw (A := A.in1) hd hm hh hn fun h' tk hk hlt => ?_)
  refine wpAny_bind (wpAny_newList ?_ (by rw [List.length_map, Array.length_toList]; exact hn))
  refine wpAny_bind (wpAny_holding (wpAny_mono (h h' tk hk hlt) (fun _ s' x => ?_) fun _ _ e => e))
  exact wpAny_pure ⟨_, rfl, x⟩
end
mutual
theorem reads_lt {h : Heap} : ∀ {v : Value} {d : PyData} {as : List Addr}, Reads h v d as → ∀ b ∈ as, b < h.objs.size
  | _, _, _, .none, b, hb => (List.not_mem_nil hb).elim
  | _, _, _, .bool _, b, hb => (List.not_mem_nil hb).elim
  | _, _, _, .int _ _, b, hb => (List.not_mem_nil hb).elim
  | _, _, _, .str _ _, b, hb => (List.not_mem_nil hb).elim
  | _, _, _, .list h1 _ _ h4, b, hb => by
    rcases List.mem_cons.mp hb with e | hb
    · rw [e]; exact Heap.lt_size h1
    · exact reads_lts h4 b hb
  | _, _, _, .tuple _ _ _ h4, b, hb => reads_lts h4 b hb
  | _, _, _, .dict h1 _ _ h4 h5, b, hb => by
    rcases List.mem_cons.mp hb with e | hb
    · rw [e]; exact Heap.lt_size h1
    · rcases List.mem_append.mp hb with hb | hb
      · exact reads_lts h4 b hb
      · exact reads_lts h5 b hb
theorem reads_lts {h : Heap} : ∀ {v : List Value} {d : List PyData} {as : List Addr}, ReadsAll h v d as → ∀ b ∈ as, b < h.objs.size
  | _, _, _, .nil, b, hb => (List.not_mem_nil hb).elim
  | _, _, _, .cons h1 h2, b, hb => by
    rcases List.mem_append.mp hb with hb | hb
    · exact reads_lt h1 b hb
    · exact reads_lts h2 b hb
end
open Classical in
noncomputable def pDSorted : List D → Option Vl
  | [.dic ds] => pSorted [.lst (ds.map (·.1))]
  | _ => none
section
variable {X : Cx} {cl : Str → Option Addr}
theorem cr_dsortedP (hc : X.calm = true) (hu : X.A.units + 64 < cLine) : CallR X (.builtin "sorted") (rPs (gl X cl) pDSorted) := by
  intro pins s σ H xs us Q I r h
  obtain ⟨M, ds, w, sm, pr, hp, k⟩ := h
  unfold pDSorted at hp
  split at hp
  · rename_i ds
    unfold pSorted at hp
    dsimp only at hp
    split at hp
    · rename_i hcd
      obtain ⟨h1, h2, h3⟩ := hcd
      cases hp
      obtain ⟨x, rfl, q⟩ := preps1 pr
      obtain ⟨a, o, rfl, ea, ro⟩ := q.dic sm
      rw [Vals.ref1 r]
      obtain ⟨ha, hl, es, ep, g1, g2, ks, g3, g4⟩ := draw_ofD I sm ea ro
      refine sorted_raw ha g1 (I.ok.hd hc) (by rw [g2]; exact hl) fun h' tk hk hlt0 => ?_
      have er := each_reads (X := X) (cl := cl) I sm g4 g3 fun d hd => (h3 d hd).1
      have e := each_reps g4 g3
      refine PySem.W.list_sort_data (n := 0) (enc := D.py) (R := fun u d => ∃ v, RelV v u ∧ Rep (gl X cl) M v d) (Heap.get?_push_size _ rfl) e ?_ h1 h2 (by rw [List.length_map]; exact hl) (fun b hb => ?_) fun out hlen ho => ?_
      · refine er.mono fun v b ⟨as, rd⟩ => ⟨as, PyProof.Rows.Reads.keeps (fun c ob q => Heap.get?_push_of_some _ (hk c ob q)) rd, fun z => ?_⟩
        have l1 := reads_lt rd _ z
        exact absurd l1 (Nat.not_lt.mpr (Nat.le_of_lt hlt0))
      · have := (h3 b hb).2
        show X.A.units + 1 + 1 + (D.py b).depth < cLine
        omega
      · obtain ⟨ep', he'⟩ := PyProof.Rows.sortedHeap_at (h := h'.push { cls := .type "list", data := .seq (es.toList.map (·.key)).toArray }) (a := h'.objs.size) (vs := es.toList.map (·.key)) (n := 0) (out := out.toArray) (Heap.get?_push_size _ rfl)
        obtain ⟨vs', rv', rr'⟩ := reps_each ho
        have hlen' : vs'.length ≤ sizeLine := by rw [rv'.length, hlen, List.length_map]; exact hl
        have l2 := Nat.le_of_lt hlt0
        refine ⟨.ref _, upd H h'.objs.size (.lst vs'), I.laid (t' := tk) (fun b ob q => ?_) l2 ⟨hlen', out, ep', rv', he'⟩, rfl, rPs.nwl k sm rr' (by rw [List.length_mergeSort, List.length_map]; exact hl) _ (I.hok.fresh l2)⟩
        have hb : b < s.heap.objs.size := Heap.lt_size q
        rw [PyProof.Rows.sortedHeap_old (Nat.ne_of_lt (Nat.lt_trans hb hlt0)) (by rw [Heap.size_push]; exact Nat.lt_succ_of_lt (Nat.lt_trans hb hlt0))]
        exact Heap.get?_push_of_some _ (hk b ob q)
    · cases hp
  · cases hp
end
end Ev
set_option Elab.async false
set_option linter.all false
set_option autoImplicit false
set_option maxRecDepth 100000
namespace Ev
open PySem L2 PySem.Spec PyProof.Rows
inductive MTy where
  | lst | dic | str | tup
def MTy.is : MTy → D → Bool
  | .lst, .lst _ => true
  | .dic, .dic _ => true
  | .str, .str _ => true
  | .tup, .tup l => l.all D.isStr
  | _, _ => false
def MTy.nm : MTy → String
  | .lst => "list"
  | .dic => "dict"
  | .str => "str"
  | .tup => "tuple"
def tyG (g : Gl0) (T : MTy) (x : V) (H : Hp) : Prop := ∃ M d, Sub M H ∧ PRep g M H x d ∧ T.is d = true
def tBMG (g : Gl0) (T : MTy) (r : V → List V → Hp → VK → Prop) (to : TE) (t : TA) : TE := fun σ H Q => to σ H fun x H1 => tyG g T x H1 ∧ t σ H1 fun xs H2 => r x xs H2 Q
section
variable {X : Cx} {cl : Str → Option Addr} {pins : List (Addr × Obj)} {σ : L2.St} {H : Hp} {s : Shared}
theorem tyG_is {T : MTy} {x : V} {v : Value} (I : Inv X pins σ H s) (r : RelV x v) (h : tyG (gl X cl) T x H) : s.TypeIs v T.nm ∧ ∀ a, v = .ref a → ∃ ob, s.heap.get? a = some ob ∧ ob.dict = none := by
  obtain ⟨M, d, sm, pr, e⟩ := h
  cases T with
  | lst =>
    cases d with
    | lst ds =>
      obtain ⟨a, vs, rfl, hs, _, _⟩ := pr.lst sm
      obtain rfl : v = Value.ref a := r
      obtain ⟨its, _, pl, _⟩ := I.list (.of hs)
      refine ⟨pl.isList.typeIs, fun b e => ?_⟩
      cases e
      obtain ⟨o, n, e, c, hd, _⟩ := pl
      exact ⟨o, e, hd⟩
    | _ => cases e
  | dic =>
    cases d with
    | dic ds =>
      obtain ⟨a, o, rfl, ea, ro⟩ := pr.dic sm
      obtain rfl : v = Value.ref a := r
      obtain ⟨_, _, es, ep, hr, _⟩ := draw_ofD I sm ea ro
      refine ⟨hr.typeIs, fun b e => ?_⟩
      cases e
      obtain ⟨o, h1, h2, _⟩ := hr
      exact ⟨o, h1, h2.2.1⟩
    | _ => cases e
  | str =>
    cases d with
    | str z =>
      obtain ⟨rfl, _⟩ := pr.str
      obtain ⟨t, rfl⟩ := r
      exact ⟨typeIs_str s z t, fun _ e => nomatch e⟩
    | _ => cases e
  | tup =>
    cases d with
    | tup ds =>
      obtain ⟨a, vs, rfl, hs, _, rp, _⟩ := pr.tup sm
      obtain rfl : v = Value.ref a := r
      obtain ⟨its, _, pl, _⟩ := I.tuple hs
      refine ⟨pl.typeIs, fun b e' => ?_⟩
      cases e'
      cases rp with
      | tup _ _ _ n =>
        obtain ⟨o, u, h1, h2⟩ := n e
        exact ⟨o, (I.hok a _ (sm _ _ h1)).1, h2⟩
    | _ => cases e
variable {o e : Expr} {es : List Expr} {to : TE} {t : TA} {name : Str} {apos cpos : Pos} {T : MTy} {id : String} {r : V → List V → Hp → VK → Prop}
theorem pe_bmG (pa : PlainAttrs T.nm) (slot : PySem.Slot T.nm name id) (hty : typeOf (.builtin id) = pure (.type "method_descriptor")) (hm : MtR X id r) (ho : PE X o to) (ha : PA X (e :: es) t)
    (hbase : attributeBase o name X.env (eval o X.env) = eval o X.env)
    (hfew : ((backTo cpos (starEach (e :: es) X.env)).all (fun x => !x.1) && (backToKw cpos (keywordEach [] X.env)).all (fun x => x.1.isSome)
      && decide ((e :: es).length + ([] : List Keyword).length + (if ([] : List Keyword).isEmpty then 0 else 1) < 30)) = true)
    (hline : (apos.endLine == cpos.line) = true) (hs : starEach (e :: es) X.env = (false, eval e X.env) :: starEach es X.env) (hplain : (backTo cpos (starEach es X.env)).any (·.1) = false) :
    PE X (.Call (.Attribute o name apos) (e :: es) [] cpos) (tBMG (gl X cl) T r to t) := by
  refine ⟨fun pins s σ H Q I h => ?_⟩
  refine wpAny_Call_method_late hbase hfew hline rfl (thn (ho.run pins s σ H _ I h) fun v s1 ⟨x, H1, I1, r1, ty, q1⟩ => ?_)
  obtain ⟨h1, h2⟩ := tyG_is I1 r1 ty
  refine ⟨T.nm, id, pa, slot, hty, h1, h2, ?_⟩
  have hA := ha.run cpos pins s1 σ H1 _ I1 q1
  rw [hs] at hA ⊢
  refine Calls.callWith_builtin (by show (false || (backTo cpos (starEach es X.env)).any (·.1)) = false; rw [hplain] <;> rfl) (Calls.evalArgs_plain ?_)
  exact thn hA fun us s2 ⟨vs, H2, I2, r2, q2⟩ => hm pins s2 σ H2 x vs v us Q I2 r1 r2 q2
end
def sMeth (T : MTy) (p : D → List D → Option (D × D)) (modes : List Bool) (i : Nat) (ms : List (Sx Opd)) : Sx Vl := fun e => match res e (.sl i) with
  | some d0 => if T.is d0 = true then (sOps ms e).bind fun os e => if okModes modes os = true then (match ress e os, e[i]? with
    | some ds, some (.ow d) => (match p d ds with
      | some (v, d') => .ok (fz v) (e.set i (.ow d'))
      | none => .stuck)
    | some ds, some (.bx d) => (match p d ds with
      | some (v, d') => .ok (fz v) (e.set i (.bx d'))
      | none => .stuck)
    | _, _ => .stuck) else .stuck else .stuck
  | none => .stuck
def rMut (g : Gl0) (modes : List Bool) (p : D → List D → Option (D × D)) : V → List V → Hp → VK → Prop := fun x xs H Q => ∃ a M o d ds v d', x = .ref a ∧ H a = some o ∧ RepO g M a o d ∧ M a = none ∧ Sub M H ∧ ArgR g M H modes xs ds ∧ p d ds = some (v, d') ∧
  ∀ z o', RepO g M a o' d' → Rep g M z v → Q z (upd H a o')
def pAppend : D → List D → Option (D × D)
  | .lst ds, [d] => if ds.length < sizeLine then some (.non, .lst (ds ++ [d])) else none
  | _, _ => none
def pExtend : D → List D → Option (D × D)
  | .lst ds, [.lst es] => if ds.length + es.length ≤ sizeLine then some (.non, .lst (ds ++ es)) else none
  | _, _ => none
section
variable {X : Cx} {cl : Str → Option Addr}
theorem RepO.lstI {g : Gl0} {M : Hp} {a : Addr} {o : HO} {ds : List D} (h : RepO g M a o (.lst ds)) : ∃ vs, o = .lst vs ∧ Reps g M vs ds ∧ ds.length ≤ sizeLine := by
  cases h with
  | lst r z => exact ⟨_, rfl, r, z⟩
theorem mt_appendP : MtR X "list.append" (rMut (gl X cl) [false] pAppend) := by
  intro pins s σ H x xs v us Q I rx rxs h
  obtain ⟨a, M, o, d, ds, w, d', rfl, ha, ro, mn, sm, ar, hp, k⟩ := h
  unfold pAppend at hp
  split at hp
  · split at hp
    · rename_i hl
      cases hp
      obtain ⟨vs, rfl, hr, hz⟩ := ro.lstI
      cases ar with
      | held q t =>
        cases t
        refine mt_append pins s σ H _ _ v us Q I rx rxs ⟨a, vs, _, rfl, rfl, ha, by rw [hr.length]; exact hl, ?_⟩
        exact k _ _ (.lst (hr.append (.cons q .nil)) (by rw [List.length_append]; exact hl)) .non
    · cases hp
  · cases hp
variable {W : WX}
theorem meth_end {g : Gl0} {G : Gh} {e : En} {M H : Hp} {σ : L2.St} {Q : VK} {p : D → List D → Option (D × D)} {modes : List Bool} {i : Nat} {x : V} {os : List Opd} {xs : List V} (r : Rel g G e M σ H) (hx : σ[i]? = some (some x)) (x1 : OpdRs g M σ xs os)
    (h : tPost g W (VR g) G σ Q (if okModes modes os = true then (match ress e os, e[i]? with
    | some ds, some (.ow d) => (match p d ds with
      | some (v, d') => Out.ok (fz v) (e.set i (.ow d'))
      | none => .stuck)
    | some ds, some (.bx d) => (match p d ds with
      | some (v, d') => .ok (fz v) (e.set i (.bx d'))
      | none => .stuck)
    | _, _ => .stuck) else .stuck)) : rMut g modes p x xs H Q := by
  by_cases hm : okModes modes os = true
  · rw [if_pos hm] at h
    cases hr : ress e os with
    | none => rw [hr] at h; exact h.elim
    | some ds =>
      have ar := args_of r hm hr x1
      rw [hr] at h
      cases hs : e[i]? with
      | none => rw [hs] at h; exact h.elim
      | some s =>
        rw [hs] at h
        have sl := r.slot i s _ hs hx
        cases s with
        | ow d =>
          obtain ⟨a, o, e2, ha, ro, ma, _⟩ := sl
          cases e2
          have h' : tPost g W (VR g) G σ Q (match p d ds with | some (v, d') => Out.ok (fz v) (e.set i (.ow d')) | none => .stuck) := h
          cases hp : p d ds with
          | none => rw [hp] at h'; exact h'.elim
          | some q =>
            obtain ⟨v, d'⟩ := q
            rw [hp] at h'
            exact ⟨a, M, o, d, ds, v, d', rfl, ha, ro, ma, r.sub, ar, hp, fun z o' ro' rz => h' z M _ (r.mut hs hx (.inl ⟨d, rfl, rfl⟩) ro') rz⟩
        | bx d =>
          obtain ⟨a, o, e2, ha, ro, ma, _⟩ := sl
          cases e2
          have h' : tPost g W (VR g) G σ Q (match p d ds with | some (v, d') => Out.ok (fz v) (e.set i (.bx d')) | none => .stuck) := h
          cases hp : p d ds with
          | none => rw [hp] at h'; exact h'.elim
          | some q =>
            obtain ⟨v, d'⟩ := q
            rw [hp] at h'
            exact ⟨a, M, o, d, ds, v, d', rfl, ha, ro, ma, r.sub, ar, hp, fun z o' ro' rz => h' z M _ (r.mut hs hx (.inr ⟨d, rfl, rfl⟩) ro') rz⟩
        | _ => exact h.elim
  · rw [if_neg hm] at h
    exact h.elim
theorem slot_val {g : Gl0} {G : Gh} {e : En} {M H : Hp} {σ : L2.St} {i : Nat} {d : D} (r : Rel g G e M σ H) (h : res e (.sl i) = some d) : ∃ x, σ[i]? = some (some x) ∧ PRep g M H x d := by
  have h' : (match e[i]? with | some s => s.look | none => none) = some d := h
  cases hs : e[i]? with
  | none => rw [hs] at h'; cases h'
  | some s =>
    rw [hs] at h'
    obtain ⟨x, h1, q⟩ := r.at hs
    have : ∃ y, x = some y := by
      cases s with
      | unb => cases h'
      | sh d => obtain ⟨v, rfl, _⟩ := q; exact ⟨v, rfl⟩
      | ow d => obtain ⟨a, o, rfl, _⟩ := q; exact ⟨_, rfl⟩
      | bx d => obtain ⟨a, o, rfl, _⟩ := q; exact ⟨_, rfl⟩
      | ro d => obtain ⟨v, rfl, _⟩ := q; exact ⟨v, rfl⟩
    obtain ⟨y, rfl⟩ := this
    exact ⟨y, h1, r.res h h1⟩
variable {nm : Str} {pp : Pos} {e : Expr} {es : List Expr} {name : Str} {apos cpos : Pos} {T : MTy} {id : String} {p : D → List D → Option (D × D)} {modes : List Bool} {i : Nat} {ms : List (Sx Opd)}
theorem ve_meth (pa : PlainAttrs T.nm) (slot : PySem.Slot T.nm name id) (hty : typeOf (.builtin id) = pure (.type "method_descriptor")) (hm : MtR X id (rMut (gl X cl) modes p))
    (hN : X.N[i]? = some nm) (hv : Vis X.env.scope nm) (hd : (nm == ("__debug__" : Str)) = false) (hcd : (nm == ("__classdict__" : Str)) = false) (ha : PA X (e :: es) (tAs (gl X cl) W (sOps ms)))
    (hbase : attributeBase (.Name nm pp) name X.env (eval (.Name nm pp) X.env) = eval (.Name nm pp) X.env)
    (hfew : ((backTo cpos (starEach (e :: es) X.env)).all (fun x => !x.1) && (backToKw cpos (keywordEach [] X.env)).all (fun x => x.1.isSome)
      && decide ((e :: es).length + ([] : List Keyword).length + (if ([] : List Keyword).isEmpty then 0 else 1) < 30)) = true)
    (hline : (apos.endLine == cpos.line) = true) (hs : starEach (e :: es) X.env = (false, eval e X.env) :: starEach es X.env) (hplain : (backTo cpos (starEach es X.env)).any (·.1) = false) :
    PE X (.Call (.Attribute (.Name nm pp) name apos) (e :: es) [] cpos) (tE (gl X cl) W (sMeth T p modes i ms)) :=
  PE_imp (pe_bmG (cl := cl) (T := T) pa slot hty hm (pe_var hN hv hd hcd) ha hbase hfew hline hs hplain) fun σ H Q ⟨G, e, M, r, h⟩ => by
    unfold sMeth at h
    cases hr : res e (.sl i) with
    | none => rw [hr] at h; exact h.elim
    | some d0 =>
      rw [hr] at h
      have h' : tPost (gl X cl) W (VR (gl X cl)) G σ Q (if T.is d0 = true then (sOps ms e).bind fun os e => if okModes modes os = true then (match ress e os, e[i]? with
        | some ds, some (.ow d) => (match p d ds with
          | some (v, d') => .ok (fz v) (e.set i (.ow d'))
          | none => .stuck)
        | some ds, some (.bx d) => (match p d ds with
          | some (v, d') => .ok (fz v) (e.set i (.bx d'))
          | none => .stuck)
        | _, _ => .stuck) else .stuck else .stuck) := h
      by_cases ht : T.is d0 = true
      · rw [if_pos ht] at h'
        obtain ⟨x, hx, pr⟩ := slot_val r hr
        refine ⟨x, hx, ⟨M, d0, r.sub, pr, ht⟩, ?_⟩
        exact tG_last r h' fun os e1 xs M1 H1 _ r1 _ x1 h1 => meth_end r1 hx x1 h1
      · rw [if_neg ht] at h'
        exact h'.elim
end
end Ev
set_option Elab.async false
set_option linter.all false
set_option autoImplicit false
set_option maxRecDepth 100000
namespace Ev
open PySem L2 PySem.Spec PyProof.Rows
def rVM (g : Gl0) (p : List D → Option Vl) : V → List V → Hp → VK → Prop := fun x xs H Q => rPs g p (x :: xs) H Q
section
variable {X : Cx} {cl : Str → Option Addr} {W : WX}
variable {o e : Expr} {es : List Expr} {m : Sx Opd} {ms : List (Sx Opd)} {name : Str} {apos cpos pos : Pos} {T : MTy} {id : String} {p : List D → Option Vl}
open Classical in
noncomputable def pIs : List D → Option Vl
  | [d, .non] => some (fz (.bl (decide (d = .non))))
  | [.bl a, .bl b] => some (fz (.bl (decide (a = b))))
  | _ => none
open Classical in
noncomputable def pIsNot : List D → Option Vl
  | [d, .non] => some (fz (.bl (!decide (d = .non))))
  | [.bl a, .bl b] => some (fz (.bl (!decide (a = b))))
  | _ => none
theorem prep_isN {g : Gl0} {M H : Hp} {x : V} {d : D} (h : PRep g M H x d) : x = .non ↔ d = .non := by
  rcases h with h | ⟨a, o, rfl, _, r⟩
  · cases h <;> simp
  · cases r <;> simp
theorem op_isNotP : OpR X (compareOp .IsNot) (rP2 (gl X cl) pIsNot) := by
  intro pins s σ H x y v u Q I rx ry h
  obtain ⟨M, ds, w, sm, pr, hp, k⟩ := h
  unfold pIsNot at hp
  split at hp
  · cases hp
    obtain ⟨q1, q2⟩ := preps2 pr
    refine op_notN pins s σ H x y v u Q I rx ry ⟨q2.non, ?_⟩
    rw [decide_eq_decide.mpr (prep_isN q1)]
    exact rPs.fz k sm (.bl _)
  · cases hp
    obtain ⟨q1, q2⟩ := preps2 pr
    refine op_notBl pins s σ H x y v u Q I rx ry ⟨_, _, q1.bl, q2.bl, ?_⟩
    rw [show ∀ (a b : Bool) (i j : Decidable (a = b)), @decide _ i = @decide _ j from fun a b i j => by congr]
    exact rPs.fz k sm (.bl _)
  · cases hp
end
end Ev
set_option Elab.async false
set_option linter.all false
set_option autoImplicit false
set_option maxRecDepth 100000
namespace Ev
open PySem L2 PySem.Spec PyProof.Rows
def sChain (p q : List D → Option Vl) (ma mb mc : Sx Opd) : Sx Vl := fun e => (ma e).bind fun a e => (mb e).bind fun b e => match ress e [a, b] with
  | some ds => (match p ds with
    | some ⟨.bl true, _⟩ => (mc e).bind fun c e => (match ress e [b, c] with
      | some ds => (match q ds with
        | some v => .ok v e
        | none => .stuck)
      | none => .stuck)
    | some ⟨.bl false, _⟩ => .ok (fz (.bl false)) e
    | _ => .stuck)
  | none => .stuck
section
variable {X : Cx} {cl : Str → Option Addr} {W : WX} {a b c : Expr} {ma mb mc : Sx Opd} {p q : List D → Option Vl} {pos : Pos}
theorem chain_read {σ : L2.St} {H : Hp} {Q : VK} (h : tE (gl X cl) W (sChain p q ma mb mc) σ H Q) : tChain (rP2 (gl X cl) p) (rP2 (gl X cl) q) (tO (gl X cl) W ma) (tO (gl X cl) W mb) (tO (gl X cl) W mc) σ H Q := by
  obtain ⟨G, e, M, r, h⟩ := h
  unfold sChain at h
  refine tG_last r h fun oa e1 x M1 H1 _ r1 _ x1 h1 => ?_
  refine tG_bind r1 h1 fun ob e2 y M2 H2 _ r2 y2 h2 => ?_
  have r2' := r1.back r2
  have xs2 : OpdRs (gl X cl) M2 σ [x, y] [oa, ob] := .cons (x1.mono r2.base) (.cons y2 .nil)
  cases hr : ress e2 [oa, ob] with
  | none => rw [hr] at h2; exact h2.elim
  | some ds =>
    rw [hr] at h2
    have h2' : tPost (gl X cl) W (VR (gl X cl)) G σ Q (match p ds with
      | some ⟨.bl true, _⟩ => (mc e2).bind fun c e => (match ress e [ob, c] with
        | some ds => (match q ds with
          | some v => .ok v e
          | none => .stuck)
        | none => .stuck)
      | some ⟨.bl false, _⟩ => .ok (fz (.bl false)) e2
      | _ => .stuck) := h2
    cases hp : p ds with
    | none => rw [hp] at h2'; exact h2'.elim
    | some v =>
      rw [hp] at h2'
      refine ⟨M2, ds, v, r2'.sub, r2'.ress hr xs2, hp, fun z M' H' w px hm => ?_⟩
      obtain ⟨r3, vr⟩ := r2'.px w px hm
      obtain ⟨d, bb⟩ := v
      cases d with
      | bl k =>
        refine ⟨k, vr_bl vr, ?_⟩
        cases k with
        | false =>
          rw [if_neg (by decide)]
          exact h2' _ M' H' r3 (.bl false)
        | true =>
          rw [if_pos rfl]
          have h3 : tPost (gl X cl) W (VR (gl X cl)) G σ Q ((mc e2).bind fun c e => (match ress e [ob, c] with
            | some ds => (match q ds with
              | some v => .ok v e
              | none => .stuck)
            | none => .stuck)) := h2'
          refine tG_bind r3 h3 fun oc e4 u M4 H4 _ r4 u4 h4 => ?_
          have h4' : tPost (gl X cl) W (VR (gl X cl)) G σ Q ((match ress e4 [ob, oc] with | some ds => Out.ok ds e4 | none => .stuck).bind fun ds e => match q ds with | some v => .ok v e | none => .stuck) := by
            cases hq : ress e4 [ob, oc] with
            | none => rw [hq] at h4; exact h4
            | some ds => rw [hq] at h4; exact h4
          exact prim_end (r3.back r4) (.cons ((y2.mono w.mono).mono r4.base) (.cons u4 .nil)) h4'
      | _ => exact h2'.elim
theorem ve_chain {op op' : CmpOp} (ho : OpR X (compareOp op) (rP2 (gl X cl) p)) (ho' : OpR X (compareOp op') (rP2 (gl X cl) q)) (ha : PE X a (tO (gl X cl) W ma)) (hb : PE X b (tO (gl X cl) W mb)) (hc : PE X c (tO (gl X cl) W mc)) (hm : lastMarks [op, op'] [b, c] = false) :
    PE X (.Compare a [op, op'] [b, c] pos) (tE (gl X cl) W (sChain p q ma mb mc)) := PE_imp (pe_chain ho ho' ha hb hc hm) fun _ _ _ h => chain_read h
theorem vt_chain {op op' : CmpOp} (ho : OpR X (compareOp op) (rP2 (gl X cl) p)) (ho' : OpR X (compareOp op') (rP2 (gl X cl) q)) (ha : PE X a (tO (gl X cl) W ma)) (hb : PE X b (tO (gl X cl) W mb)) (hc : PE X c (tO (gl X cl) W mc)) (hm : lastMarks [op, op'] [b, c] = false) :
    PT X (.Compare a [op, op'] [b, c] pos) (tT (gl X cl) W (tBool (sChain p q ma mb mc))) :=
  PT_imp (pt_chain ho ho' ha hb hc hm) fun _ _ _ ⟨_, _, _, r, h⟩ => test_of (fun _ _ _ h => chain_read h) r h
end
def sSetI (p : D → List D → Option D) (i : Nat) (mk : Sx Opd) (mv : Sx Vl) : SS := fun e => match mv e with
  | .ok v e1 => (match e1[i]? with
    | some s => (match s.look with
      | some _ => (match mk e1 with
        | .ok o e2 => (match res e2 o, e2[i]? with
          | some k, some (.ow d) => (match p d [k, v.d] with
            | some d' => .nx (e2.set i (.ow d'))
            | none => .stuck)
          | some k, some (.bx d) => (match p d [k, v.d] with
            | some d' => .nx (e2.set i (.bx d'))
            | none => .stuck)
          | _, _ => .stuck)
        | .exc x e2 => .exc x e2
        | .stuck => .stuck)
      | none => .stuck)
    | none => .stuck)
  | .exc x e1 => .exc x e1
  | .stuck => .stuck
def rSet1 (g : Gl0) (p : D → List D → Option D) : TSet := fun o i v H Q => ∃ a M ob d k dv d', o = .ref a ∧ H a = some ob ∧ RepO g M a ob d ∧ M a = none ∧ Sub M H ∧ PRep g M H i k ∧ Rep g M v dv ∧ p d [k, dv] = some d' ∧
  ∀ o', RepO g M a o' d' → Q (upd H a o')
def pSetL : D → List D → Option D
  | .lst ds, [.int k, v] => (ixN ds.length k).map fun j => .lst (ds.set j v)
  | _, _ => none
section
variable {X : Cx} {cl : Str → Option Addr} {W : WX}
theorem set_listP : PSet X (rSet1 (gl X cl) pSetL) := by
  intro pins s σ H o i v ov iv u Q I ro ri rv h
  obtain ⟨a, M, ob, d, k, dv, d', rfl, ha, rr, mn, sm, pr, rvv, hp, q⟩ := h
  unfold pSetL at hp
  split at hp
  · rename_i e
    obtain ⟨j, hj, rfl⟩ := Option.map_eq_some_iff.mp hp
    cases e
    obtain ⟨vs, rfl, hr, hz⟩ := rr.lstI
    refine set_list pins s σ H _ i v ov iv u Q I ro ri rv ⟨a, vs, _, j, rfl, pr.int, ha, by rw [hr.length]; exact hj, q _ (.lst (hr.set rvv j) (by rw [List.length_set]; exact hz))⟩
  · cases hp
variable {i : Nat} {nm : Str} {pp p2 pos : Pos} {k value : Expr} {mk : Sx Opd} {mv : Sx Vl} {p : D → List D → Option D}
theorem vs_setItem (hset : PSet X (rSet1 (gl X cl) p)) (hN : X.N[i]? = some nm) (hv : Vis X.env.scope nm) (hd : (nm == ("__debug__" : Str)) = false) (hcd : (nm == ("__classdict__" : Str)) = false) (hk : PE X k (tO (gl X cl) W mk)) (he : PE X value (tE (gl X cl) W mv))
    (ha : ∀ v, assign (.Subscript (.Name nm pp) k p2) X.env v = (do
      let ov ← holding [v] (eval (.Name nm pp) X.env)
      let iv ← holding [v, ov] (eval k X.env)
      standAt p2
      holding [v, ov, iv] (setItem ov iv v)
      release [v, ov, iv] []))
    (hs : swapsWithSole [.Subscript (.Name nm pp) k p2] value pos.line X.env = pure false) (hw : swappedStores [.Subscript (.Name nm pp) k p2] value X.env = pure none)
    (h1 : (assignEach [.Subscript (.Name nm pp) k p2] X.env).map (·.2) = [assign (.Subscript (.Name nm pp) k p2) X.env]) :
    PS X (.Assign [.Subscript (.Name nm pp) k p2] value pos) (tS (gl X cl) W (sSetI p i mk mv)) :=
  PS_imp (ps_asg he (pg_sub (pe_var hN hv hd hcd) hk hset ha) hs hw h1) fun D σ H ⟨G, e, M, r, h⟩ => by
    unfold sSetI at h
    refine stm_expr r h fun v e1 y M1 H1 _ r1 v1 h1 => ?_
    obtain ⟨M2, s2, r2, rv⟩ := r1.freeze v1
    cases hs : e1[i]? with
    | none => rw [hs] at h1; exact h1.elim
    | some sl =>
      rw [hs] at h1
      cases hl : sl.look with
      | none =>
        have h1' : sPost (gl X cl) W G D (match sl.look with
          | some _ => (match mk e1 with
            | .ok o e2 => (match res e2 o, e2[i]? with
              | some k, some (.ow d) => (match p d [k, v.d] with
                | some d' => .nx (e2.set i (.ow d'))
                | none => .stuck)
              | some k, some (.bx d) => (match p d [k, v.d] with
                | some d' => .nx (e2.set i (.bx d'))
                | none => .stuck)
              | _, _ => .stuck)
            | .exc x e2 => .exc x e2
            | .stuck => .stuck)
          | none => .stuck) := h1
        rw [hl] at h1'
        exact h1'.elim
      | some d0 =>
        have h1' : sPost (gl X cl) W G D (match sl.look with
          | some _ => (match mk e1 with
            | .ok o e2 => (match res e2 o, e2[i]? with
              | some k, some (.ow d) => (match p d [k, v.d] with
                | some d' => .nx (e2.set i (.ow d'))
                | none => .stuck)
              | some k, some (.bx d) => (match p d [k, v.d] with
                | some d' => .nx (e2.set i (.bx d'))
                | none => .stuck)
              | _, _ => .stuck)
            | .exc x e2 => .exc x e2
            | .stuck => .stuck)
          | none => .stuck) := h1
        rw [hl] at h1'
        obtain ⟨x, hx, _⟩ := slot_val (i := i) (d := d0) r2 (by show (match e1[i]? with | some s => s.look | none => none) = some d0; rw [hs]; exact hl)
        refine ⟨x, hx, ?_⟩
        have h2 : sPost (gl X cl) W G D (match mk e1 with
          | .ok o e2 => (match res e2 o, e2[i]? with
            | some k, some (.ow d) => (match p d [k, v.d] with
              | some d' => .nx (e2.set i (.ow d'))
              | none => .stuck)
            | some k, some (.bx d) => (match p d [k, v.d] with
              | some d' => .nx (e2.set i (.bx d'))
              | none => .stuck)
            | _, _ => .stuck)
          | .exc x e2 => .exc x e2
          | .stuck => .stuck) := h1'
        refine ⟨G.here e1 M2 σ H1, e1, M2, r2.here, ?_⟩
        cases qk : mk e1 with
        | stuck => rw [qk] at h2; exact h2
        | exc z e2 => rw [qk] at h2; exact fun c d M3 H3 r3 x3 => h2 c d σ M3 H3 (r2.back r3) x3
        | ok o e2 =>
          rw [qk] at h2
          intro ky M3 H3 r3' k3
          have sM : Sub M2 M3 := r3'.base
          have r3 := r2.back r3'
          have h3 : sPost (gl X cl) W G D (match res e2 o, e2[i]? with
            | some k, some (.ow d) => (match p d [k, v.d] with
              | some d' => .nx (e2.set i (.ow d'))
              | none => .stuck)
            | some k, some (.bx d) => (match p d [k, v.d] with
              | some d' => .nx (e2.set i (.bx d'))
              | none => .stuck)
            | _, _ => .stuck) := h2
          cases hk : res e2 o with
          | none => rw [hk] at h3; exact h3.elim
          | some kd =>
            rw [hk] at h3
            have pk := r3.res hk k3
            cases hs2 : e2[i]? with
            | none => rw [hs2] at h3; exact h3.elim
            | some s2 =>
              rw [hs2] at h3
              have sl2 := r3.slot i s2 _ hs2 hx
              cases s2 with
              | ow d =>
                obtain ⟨a, ob, ea, ha, ro, ma, _⟩ := sl2
                cases ea
                have h4 : sPost (gl X cl) W G D (match p d [kd, v.d] with | some d' => .nx (e2.set i (.ow d')) | none => .stuck) := h3
                cases hp : p d [kd, v.d] with
                | none => rw [hp] at h4; exact h4.elim
                | some d' =>
                  rw [hp] at h4
                  exact ⟨a, M3, ob, d, kd, v.d, d', rfl, ha, ro, ma, r3.sub, pk, rv.mono sM, hp, fun o' ro' => h4 σ M3 _ (r3.mut hs2 hx (.inl ⟨d, rfl, rfl⟩) ro')⟩
              | bx d =>
                obtain ⟨a, ob, ea, ha, ro, ma, _⟩ := sl2
                cases ea
                have h4 : sPost (gl X cl) W G D (match p d [kd, v.d] with | some d' => .nx (e2.set i (.bx d')) | none => .stuck) := h3
                cases hp : p d [kd, v.d] with
                | none => rw [hp] at h4; exact h4.elim
                | some d' =>
                  rw [hp] at h4
                  exact ⟨a, M3, ob, d, kd, v.d, d', rfl, ha, ro, ma, r3.sub, pk, rv.mono sM, hp, fun o' ro' => h4 σ M3 _ (r3.mut hs2 hx (.inr ⟨d, rfl, rfl⟩) ro')⟩
              | _ => exact h3.elim
end
def putD (f : Str) (v : D) : List (Str × D) → List (Str × D)
  | [] => [(f, v)]
  | (g, x) :: r => if g = f then (g, v) :: r else (g, x) :: putD f v r
theorem repF_put {g : Gl0} {M : Hp} {f : Str} {v : V} {d : D} (h : Rep g M v d) : ∀ {fs : List (Str × V)} {ds : List (Str × D)}, RepF g M fs ds → RepF g M (putF f v fs) (putD f d ds)
  | _, _, .nil => .cons h .nil
  | _, _, .cons (f := f') q t => by
    unfold putF putD
    by_cases e : f' = f
    · rw [if_pos e, if_pos e]; exact .cons h t
    · rw [if_neg e, if_neg e]; exact .cons q (repF_put h t)
theorem RepF.length {g : Gl0} {M : Hp} : ∀ {fs : List (Str × V)} {ds : List (Str × D)}, RepF g M fs ds → fs.length = ds.length
  | _, _, .nil => rfl
  | _, _, .cons _ t => congrArg (· + 1) (RepF.length t)
def sSetF (at_ : Str → Str → Bool) (f : Str) (i : Nat) (mv : Sx Vl) : SS := fun e => match mv e with
  | .ok v e1 => (match e1[i]? with
    | some (.ow (.obj c fs)) => if at_ c f = true ∧ fs.length < 1000 then .nx (e1.set i (.ow (.obj c (putD f v.d fs)))) else .stuck
    | some (.bx (.obj c fs)) => if at_ c f = true ∧ fs.length < 1000 then .nx (e1.set i (.bx (.obj c (putD f v.d fs)))) else .stuck
    | _ => .stuck)
  | .exc x e1 => .exc x e1
  | .stuck => .stuck
section
variable {X : Cx} {cl : Str → Option Addr} {W : WX} {i : Nat} {nm : Str} {pp p2 pos : Pos} {value : Expr} {mv : Sx Vl}
theorem vs_setF {at_ : Str → Str → Bool} {f : Str} (hat : ∀ c f C, at_ c f = true → cl c = some C → Cls X.K C ∧ NoAttr X.K C f) (hN : X.N[i]? = some nm) (hv : Vis X.env.scope nm) (hd : (nm == ("__debug__" : Str)) = false) (hcd : (nm == ("__classdict__" : Str)) = false)
    (he : PE X value (tE (gl X cl) W mv)) (hs : swapsWith value (some (.Attribute (.Name nm pp) f p2)) pos.line X.env = pure false) :
    PS X (.Assign [.Attribute (.Name nm pp) f p2] value pos) (tS (gl X cl) W (sSetF at_ f i mv)) :=
  PS_imp (ps_fld (pe_var hN hv hd hcd) he hs) fun D σ H ⟨G, e, M, r, h⟩ => by
    unfold sSetF at h
    refine stm_expr r h fun v e1 y M1 H1 _ r1 v1 h1 => ?_
    obtain ⟨M2, s2, r2, rv⟩ := r1.freeze v1
    cases hs : e1[i]? with
    | none => rw [hs] at h1; exact h1.elim
    | some sl =>
      rw [hs] at h1
      obtain ⟨x, hx, q⟩ := r2.at hs
      have go : ∀ (d : Ev.D) (mk : Ev.D → Ev.Slot) (a : Addr) (ob : HO), x = some (.ref a) → H1 a = some ob → RepO (gl X cl) M2 a ob d → (∀ d', (sl = .ow d ∧ mk d' = .ow d') ∨ (sl = .bx d ∧ mk d' = .bx d')) →
          sPost (gl X cl) W G D (match d with | .obj c fs => if at_ c f = true ∧ fs.length < 1000 then .nx (e1.set i (mk (.obj c (putD f v.d fs)))) else .stuck | _ => .stuck) →
          ∃ x, σ[i]? = some (some x) ∧ ∃ a C dx fs, x = .ref a ∧ H1 a = some (.ins C dx fs) ∧ Cls X.K C ∧ NoAttr X.K C f ∧ fs.length < 1000 ∧ D.nx σ (upd H1 a (.ins C dx (putF f y fs))) := by
        intro d mk a ob ex ha ro hk h2
        cases d with
        | obj c fs =>
          have h2' : sPost (gl X cl) W G D (if at_ c f = true ∧ fs.length < 1000 then .nx (e1.set i (mk (.obj c (putD f v.d fs)))) else .stuck) := h2
          by_cases hc : at_ c f = true ∧ fs.length < 1000
          · rw [if_pos hc] at h2'
            cases ro with
            | obj hcl hf =>
              rename_i C dx gs
              obtain ⟨c1, c2⟩ := hat _ _ C hc.1 hcl
              subst ex
              refine ⟨_, hx, a, C, dx, gs, rfl, ha, c1, c2, by rw [hf.length]; exact hc.2, ?_⟩
              exact h2' σ M2 _ (r2.mut hs hx (by rcases hk (.obj c (putD f v.d fs)) with ⟨e1, e2⟩ | ⟨e1, e2⟩; exact .inl ⟨_, e1, e2⟩; exact .inr ⟨_, e1, e2⟩) (.obj hcl (repF_put rv hf)))
          · rw [if_neg hc] at h2'; exact h2'.elim
        | _ => exact h2.elim
      cases sl with
      | ow d =>
        obtain ⟨a, ob, ea, ha, ro, ma, _⟩ := q
        refine go d Slot.ow a ob ea ha ro (fun d' => .inl ⟨rfl, rfl⟩) ?_
        cases d <;> first | exact h1 | exact h1.elim
      | bx d =>
        obtain ⟨a, ob, ea, ha, ro, ma, _⟩ := q
        refine go d Slot.bx a ob ea ha ro (fun d' => .inr ⟨rfl, rfl⟩) ?_
        cases d <;> first | exact h1 | exact h1.elim
      | _ => exact h1.elim
end
end Ev
set_option Elab.async false
set_option linter.all false
set_option autoImplicit false
set_option maxRecDepth 100000
namespace Ev
open PySem L2 PySem.Spec PyProof.Rows RZ
def pairUp (p : D × D) : D := .tup [p.1, p.2]
def zipItems (ds es : List D) : List D := (ds.zip es).map pairUp
def sZip (m n : Sx Opd) : Sx Src := fun e => (m e).bind fun o e => (n e).bind fun o2 e => match o2 with
  | .dt d2 => (match res e o, d2 with
    | some (.lst ds), .lst es => .ok ⟨zipItems ds es, chkOf o (.lst ds)⟩ e
    | _, _ => .stuck)
  | _ => .stuck
theorem zip_len (ds es : List D) : (zipItems ds es).length = min ds.length es.length := by simp [zipItems]
theorem zip_get {ds es : List D} {i : Nat} {d e : D} (h : ds[i]? = some d) (h' : es[i]? = some e) : (zipItems ds es)[i]? = some (.tup [d, e]) := by
  unfold zipItems
  rw [List.getElem?_map, (List.getElem?_zip_eq_some (z := (d, e))).mpr ⟨h, h'⟩]
  rfl
theorem two_line : (2 : Nat) ≤ sizeLine := by decide
theorem pair_repN {g : Gl0} {M H : Hp} {T : Addr} {x y : V} {d e : D} {ob : Obj} (ho : ob.dict = none) (sm : Sub M H) (hT : H T = none) (rx : Rep g M x d) (ry : Rep g M y e) : ∃ M', Ext M H M' (upd H T (.frz ob (.tup [x, y]))) ∧ Rep g M' (.ref T) (.tup [d, e]) :=
  ⟨upd M T (.frz ob (.tup [x, y])), .newM sm hT, .tup (.inl (.inr ⟨_, upd_same⟩)) (.cons (rx.mono (.upd (sm.none hT))) (.cons (ry.mono (.upd (sm.none hT))) .nil)) two_line fun _ => ⟨_, _, upd_same, ho⟩⟩
theorem jok_zip {g : Gl0} {a b : Addr} {ds es : List D} : JOk g (ItzN g.K a b) (zipItems ds es) (fun M H => PRep g M H (.ref a) (.lst ds) ∧ PRep g M H (.ref b) (.lst es)) where
  go := fun i M H st sm hi => by
    obtain ⟨b1, vs, e1, hs, hr, _⟩ := st.1.lst sm
    obtain ⟨b2, ws, e2, hs2, hr2, _⟩ := st.2.lst sm
    cases e1; cases e2
    rw [zip_len] at hi
    obtain ⟨v, hv, _⟩ := hr.get (List.getElem?_eq_getElem (show i < ds.length by omega))
    obtain ⟨w, hw, _⟩ := hr2.get (List.getElem?_eq_getElem (show i < es.length by omega))
    exact ⟨vs, ws, v, w, .of hs, .of hs2, hv, hw⟩
  stop := fun M H st sm => by
    obtain ⟨b1, vs, e1, hs, hr, _⟩ := st.1.lst sm
    obtain ⟨b2, ws, e2, hs2, hr2, _⟩ := st.2.lst sm
    cases e1; cases e2
    exact ⟨vs, ws, .of hs, .of hs2, by rw [hr.length, hr2.length, zip_len]; omega⟩
  yld := fun i M H x H' st sm y d hd => by
    obtain ⟨b1, vs, e1, hs, hr, _⟩ := st.1.lst sm
    obtain ⟨b2, ws, e2, hs2, hr2, _⟩ := st.2.lst sm
    cases e1; cases e2
    obtain ⟨T, x0, y0, ob, ho, rfl, hT, rfl, hx, hy⟩ := y
    have hl : i < min ds.length es.length := by rw [← zip_len]; exact (List.getElem?_eq_some_iff.mp hd).1
    have hg := List.getElem?_eq_getElem (show i < ds.length by omega)
    have hg2 := List.getElem?_eq_getElem (show i < es.length by omega)
    rw [zip_get hg hg2] at hd
    cases hd
    obtain ⟨v, hv, rv⟩ := hr.get hg
    obtain ⟨w, hw, rw'⟩ := hr2.get hg2
    have h1 := hx vs (.of hs)
    have h2 := hy ws (.of hs2)
    rw [hv] at h1; cases h1
    rw [hw] at h2; cases h2
    exact pair_repN ho sm hT rv rw'
section
variable {X : Cx} {cl : Str → Option Addr} {W : WX} {e e2 : Expr} {m n : Sx Opd} {p pos tpos : Pos} {elts : List Expr} {kk : Nat}
theorem opd_stay {g : Gl0} {M1 : Hp} {σ : L2.St} {o : Opd} {x : V} {e1 : En} (x1 : OpdR g M1 σ x o) {d : D} (hd : res e1 o = some d) : ∀ (G' : Gh) (e' : En) (M' H' : Hp) (σ' : L2.St), Rel g G' e' M' σ' H' → Sub M1 M' → (Src.mk [] (chkOf o d)).ok e' → (∀ i d', chkOf o d = some (i, d') → σ'[i]? = σ[i]?) → PRep g M' H' x d := by
  intro G' e' M' H' σ' r' sm hok hσ
  cases o with
  | dt d' => cases hd; exact .inl (Rep.mono sm x1)
  | sl i => exact r'.res hok (by show σ'[i]? = some (some x); rw [hσ i d rfl]; exact x1)
theorem vi_zip (hg : Gl X "zip") (hm : X.mg "zip" = none) (ha : PA X [e, e2] (tAs (gl X cl) W (sOps [m, n])))
    (hs : starEach [e, e2] X.env = (false, eval e X.env) :: starEach [e2] X.env) (hpl : (backTo pos (starEach [e2] X.env)).any (·.1) = false) :
    PI X (.Tuple elts kk tpos) (.Call (.Name "zip" p) [e, e2] [] pos) (tI (gl X cl) W (sZip m n)) :=
  PI_imp (pi_zipN hg hm ha hs hpl) fun σ H Q ⟨G, e, M, r, h⟩ => by
    unfold sZip at h
    have h0 : tPost (gl X cl) W (SrcR (gl X cl)) G σ Q ((sOps [m, n] e).bind fun os e => match os with
      | [o, .dt d2] => (match res e o, d2 with
        | some (.lst ds), .lst es => .ok ⟨zipItems ds es, chkOf o (.lst ds)⟩ e
            | _, _ => .stuck)
      | _ => .stuck) := by
      unfold sOps
      rw [Out.bind_assoc]
      unfold sOps
      simp only [Out.bind_assoc]
      unfold sOps
      simp only [Out.bind_ok]
      cases hme : m e with
      | stuck => rw [hme] at h; exact h
      | exc x e1 => rw [hme] at h; exact h
      | ok o e1 =>
        rw [hme] at h
        simp only [Out.bind_ok] at h ⊢
        cases hn : n e1 with
        | stuck => rw [hn] at h; exact h
        | exc x e2 => rw [hn] at h; exact h
        | ok o2 e2 =>
          rw [hn] at h
          simp only [Out.bind_ok] at h ⊢
          cases o2 <;> exact h
    refine tG_last r h0 fun os e1 xs M1 H1 _ r1 _ x1 h1 => ?_
    cases x1 with
    | nil => exact h1.elim
    | @cons x xs o os x1 x2 =>
      cases x2 with
      | nil => exact h1.elim
      | @cons y ys o2 os2 x2 x3 =>
        cases x3 with
        | cons _ _ => cases o2 <;> exact h1.elim
        | nil =>
          cases o2 with
          | sl j => exact h1.elim
          | dt d2 =>
            have h2 : tPost (gl X cl) W (SrcR (gl X cl)) G σ Q (match (generalizing := false) res e1 o, d2 with
              | some (.lst ds), .lst es => .ok ⟨zipItems ds es, chkOf o (.lst ds)⟩ e1
              | _, _ => .stuck) := h1
            cases hr : res e1 o with
            | none => rw [hr] at h2; exact h2.elim
            | some d =>
              rw [hr] at h2
              have pr := r1.res hr x1
              have pr2 : PRep (gl X cl) M1 H1 y d2 := .inl x2
              cases d with
              | lst ds =>
                cases d2 with
                | lst es =>
                  obtain ⟨a, vs, rfl, hs, _, hz⟩ := pr.lst r1.sub
                  obtain ⟨b, ws, rfl, hs2, _, hz2⟩ := pr2.lst r1.sub
                  exact ⟨a, b, vs, ws, rfl, .of hs, .of hs2, h2 _ M1 H1 r1 ⟨_, jok_zip, by show (zipItems ds es).length ≤ _; rw [zip_len]; omega, fun G' e' M' H' σ' q1 q2 q3 q4 => ⟨opd_stay x1 hr G' e' M' H' σ' q1 q2 q3 q4, .inl (Rep.mono q2 x2)⟩⟩⟩
                | _ => exact h2.elim
              | _ => exact h2.elim
end
end Ev
set_option Elab.async false
set_option linter.all false
set_option autoImplicit false
set_option maxRecDepth 100000
namespace Ev
open PySem L2 PySem.Spec PyProof.Rows
section
variable {X : Cx} {cl : Str → Option Addr}
def tDcG (g : Gl0) (wi : TI) (gt : TG) (tt : TT) (tk tv : TE) (vs : List Nat) : TE := fun σ H Q => wi σ H fun J H1 => ∀ D, H1 D = none → ∃ W : Nat → Nat → Hp → Prop, (∃ m, W 0 m (upd H1 D (.dK []))) ∧ ∀ i m H, W i m H →
  (J.stop i H ∧ Q (.ref D) H) ∨ (J.go i H ∧ ∃ Nx : Hp → Prop, (∀ H', Nx H' → ∃ m', m' < m ∧ W (i + 1) m' H') ∧ ∀ x H', J.yld i H x H' → gt x (wipe σ vs) H' fun σ2 H2 => wipe σ2 vs = wipe σ vs ∧ tt σ2 H2 fun b H3 =>
    if b = true then tk σ2 H3 fun y H4 => tv σ2 H4 fun z H5 => rDPut g y z D H5 Nx else Nx H3)
theorem dcG_core (hu : X.A.units + 65 < cLine) {kx vx tg iter : Expr} {ifs : List Expr} {scope : Scope} {own : List (Str × Nat)} {pos pos2 : Pos} {wi : TI} {gt : TG} {tt : TT} {tk tv : TE} {pins : List (Addr × Obj)} {s : Shared} {σ : L2.St} {H : Hp} {Q : VK} {use : Option (Value → Sem Unit)} {Qf : Value → Shared → Prop} (hc : X.calm = true) (hN : X.N.Nodup) (hi : PI X tg iter wi) (ok : BlkOk X.N X.env.scope scope own)
    (hg : ∀ (s : Shared) (H : Hp) (C : Addr) (cl : List (Str × Addr)) (fp : List Addr), PG (X.blk s H scope (compEnvC scope cl C X.env) fp) tg gt) (ht : ∀ (s : Shared) (H : Hp) (C : Addr) (cl : List (Str × Addr)) (fp : List Addr), PTs (X.blk s H scope (compEnvC scope cl C X.env) fp) ifs tt)
    (hk : ∀ (s : Shared) (H : Hp) (C : Addr) (cl : List (Str × Addr)) (fp : List Addr), PE (X.blk s H scope (compEnvC scope cl C X.env) fp) kx tk)
    (he : ∀ (s : Shared) (H : Hp) (C : Addr) (cl : List (Str × Addr)) (fp : List Addr), PE (X.blk s H scope (compEnvC scope cl C X.env) fp) vx tv) (hs : ∀ x, foldedSetIterable iter X.env x = pure x)
    (I : Inv X pins σ H s) (h : tDcG (gl X cl) wi gt tt tk tv (own.map (·.2)) σ H Q)
    (last : ∀ D C s' m H', Inv X pins σ H' s' → Q (.ref D) H' → s'.heap.Ns C m → FpOk X pins H' C → compPost (model X.prog X.w) X.A X.xe use Qf (.ref D) C (.ok .next) s') :
    wpAny (model X.prog X.w) X.A (comprehension (.DictComp kx vx [⟨tg, iter, ifs, 0⟩] scope pos) scope X.env pos2 newDict false (eval iter X.env) use) Qf X.xe s := by
  have hfree : ∀ y ∈ scope.names, y.2 = .free → ∃ c, X.env.cells.lookup y.1 = some c := fun y hy e => (ok.free y hy e).elim (fun k => I.ok.has _ (.inl k)) (fun k => I.ok.has _ (.inr k))
  refine wpAny_comprehension_free (use := use) rfl hs (closure_ok hfree) ok.kind (fun y hy e => by rw [ok.uniq y hy, e]) (thn (hi.run pins s σ H _ I h) fun xv s1 hx => thn hx fun itv s2 h2 => ?_)
  obtain ⟨it, fp, tn, J, H2, e, I2, T, st2, f2, q⟩ := h2
  subst e
  refine wpAny_newObj_type (newEnv_comp ?_)
  generalize hD : s2.heap.objs.size = D
  have hDn : H2 D = none := I2.hok.fresh (Nat.le_of_eq hD)
  obtain ⟨W, ⟨m0, w0⟩, turn⟩ := q D hDn
  generalize hs3 : ({ s2 with heap := s2.heap.push { cls := .type "dict", data := .dict #[] } } : Shared) = s3
  have h3 : s3.heap = s2.heap.push { cls := .type "dict", data := .dict #[] } := by rw [← hs3]
  have I3 : Inv X pins σ (upd H2 D (.dK [])) s3 := by
    rw [← hs3]
    refine I2.laid (t' := s2.toks) (fun b o e => Heap.get?_push_of_some _ e) (Nat.le_of_eq hD) ?_
    rw [← hD]
    exact dk_empty s2.heap I2.big
  have f3 : ∀ b ∈ fp, FpOk X pins (upd H2 D (.dK [])) b ∧ b < s3.heap.objs.size := fun b hb => by
    obtain ⟨o, e, _⟩ := T.obj _ _ st2 b hb
    have hlt := Heap.lt_size e
    refine ⟨⟨?_, (f2 b hb).2⟩, by rw [h3, Heap.size_push]; exact Nat.lt_succ_of_lt hlt⟩
    rw [upd_ne (by rw [← hD]; exact Nat.ne_of_lt hlt)]
    exact (f2 b hb).1
  have st3 : tn 0 s3.heap := T.keep _ _ _ st2 fun b _ o e => by rw [h3]; exact Heap.get?_push_of_some _ e
  have I4 := block_start I3 ok hN f3
  have all := fun (P : Cx → Prop) (h : ∀ (s : Shared) (H : Hp) (C : Addr) (cl : List (Str × Addr)) (fp : List Addr), P (X.blk s H scope (compEnvC scope cl C X.env) fp)) => h s3 (upd H2 D (.dK [])) s3.heap.objs.size (cellsFrom (s3.heap.objs.size + 1) scope.names (cloFrom X.env.cells scope.names [])) fp
  have pg := all (fun Y => PG Y tg gt) hg
  have pt := all (fun Y => PTs Y ifs tt) ht
  have pk := all (fun Y => PE Y kx tk) hk
  have pe := all (fun Y => PE Y vx tv) he
  clear all
  show codeAny _ _ (.compStart (.DictComp kx vx [⟨tg, iter, ifs, 0⟩] scope pos) 0 (.ref it) (.ref D) (compEnvC scope (cellsFrom (s3.heap.objs.size + 1) scope.names (cloFrom X.env.cells scope.names [])) s3.heap.objs.size X.env)) (compPost (model X.prog X.w) X.A X.xe use Qf (.ref D) s3.heap.objs.size) { s3 with heap := pushCells (s3.heap.push { cls := .type "dict", data := .dict #[] }) scope.names }
  have nfp : ∀ b ∈ fp, (upd H2 D (.dK [])) b = none := fun b hb => (f3 b hb).1.1
  generalize hce : compEnvC scope (cellsFrom (s3.heap.objs.size + 1) scope.names (cloFrom X.env.cells scope.names [])) s3.heap.objs.size X.env = ce at I4 pg pt pk pe ⊢
  have cL : ce.locals = s3.heap.objs.size := by subst hce; rfl
  generalize hH3 : upd H2 D (.dK []) = H3 at I3 I4 pg pt pk pe w0 nfp f3
  generalize hs4 : ({ s3 with heap := pushCells (s3.heap.push { cls := .type "dict", data := .dict #[] }) scope.names } : Shared) = s4 at I4 ⊢
  have st4 : tn 0 s4.heap := T.keep _ _ _ st3 fun b _ o e => by rw [← hs4]; exact pushCells_keeps _ _ _ _ (Heap.get?_push_of_some _ e)
  have stat : ∀ {σ' : L2.St} {H' : Hp} {s' : Shared}, Inv (X.blk s3 H3 scope ce fp) [] σ' H' s' → (∀ b ∈ fp, H' b = none) → ∀ b ∈ fp, FpOk (X.blk s3 H3 scope ce fp) [] H' b := fun {σ' H' s'} I' hn b hb =>
    ⟨hn b hb, (I'.ok.exf b hb).1, I'.ok.exfs b hb, .inl hb, fun x c e => (I'.ok.exf b hb).2 x c e, fun p hp => absurd (show p ∈ ([] : List (Addr × Obj)) ++ [] from hp) (by simp)⟩
  have loop : codeAny (model X.prog X.w) X.A (.compLoop (.DictComp kx vx [⟨tg, iter, ifs, 0⟩] scope pos) 0 (.ref it) (.ref D) ce) (compPost (model X.prog X.w) X.A X.xe use Qf (.ref D) s3.heap.objs.size) s4 := by
    refine compLoop_anyD (fun n s' => ∃ i H', Inv (X.blk s3 H3 scope ce fp) [] (wipe σ (own.map (·.2))) H' s' ∧ tn i s'.heap ∧ (∀ b ∈ fp, H' b = none) ∧ W i n H') ?_ m0 ⟨0, H3, I4, st4, nfp, w0⟩
    rintro n s5 ⟨i, H5, I5, st5, n5, w5⟩
    rcases turn i n H5 w5 with ⟨stop, qq⟩ | ⟨go, Nx, hNx, step⟩
    · refine thnF (T.done (X.blk s3 H3 scope ce fp) rfl rfl rfl hc i [] s5 _ H5 (fun _ _ => False) I5 (stat I5 n5) st5 stop) fun r s6 ⟨hr, I6⟩ => ?_
      subst hr
      have I7 : Inv X pins σ H5 s6 := I3.call' (ch := fp) I6.os I6.base I6.hok I6.bare fun b hb => ⟨(f3 b hb).1.2.2.2.1, (f3 b hb).1.2.1, (f3 b hb).1.2.2.2.2.1, (f3 b hb).1.2.2.2.2.2⟩
      have nC : H5 s3.heap.objs.size = none := by
        have z : H5 ce.locals = none := I6.free
        rw [cL] at z
        exact z
      obtain ⟨m, hn, _⟩ := I6.loc
      have hn : s6.heap.Ns ce.locals m := hn
      rw [cL] at hn
      exact last D s3.heap.objs.size s6 m H5 I7 qq hn (I3.fpOk (Nat.le_refl _) nC)
    · refine thnF (T.item (X.blk s3 H3 scope ce fp) rfl rfl rfl hc i [] s5 _ H5 (fun _ _ => False) I5 (stat I5 n5) st5 go) fun r s6 ⟨u, hr, h6⟩ => ?_
      subst hr
      refine thnF h6 fun _ s7 ⟨x, H7, I7, r7, y7, st7, n7⟩ => ?_
      refine thnF (pg.run _ s7 _ H7 x u _ (I7.pinned (stat I7 n7) (T.obj _ _ st7)) r7 (step x H7 y7)) fun _ s8 ⟨σ8, H8, I8, hw8, q8⟩ => ?_
      refine thnF (pt.run _ s8 σ8 H8 _ I8 q8) fun b s9 ⟨H9, I9, q9⟩ => ?_
      have fin : ∀ {s' : Shared} {H' : Hp}, Inv (X.blk s3 H3 scope ce fp) ([] ++ pinsAt fp s7.heap) σ8 H' s' → Nx H' → ∃ m, m < n ∧ ∃ i H', Inv (X.blk s3 H3 scope ce fp) [] (wipe σ (own.map (·.2))) H' s' ∧ tn i s'.heap ∧ (∀ b ∈ fp, H' b = none) ∧ W i m H' := fun {s' H'} I' nx => by
        obtain ⟨m', hm, w'⟩ := hNx H' nx
        have pin' : ∀ b ∈ fp, ∀ o, s7.heap.get? b = some o → s'.heap.get? b = some o ∧ H' b = none := fun b hb o e =>
          let z := I'.pin (b, o) (List.mem_append_right _ (List.mem_append_right _ (mem_pinsAt hb e)))
          ⟨z.1, z.2.1⟩
        refine ⟨m', hm, i + 1, H', (I'.unpinned (pins := [])).weak (by rw [← hw8, wipe_length]) (fun j v e => by rw [← hw8] at e; exact (wipe_some e).1), T.keep _ _ _ st7 fun b hb o e => (pin' b hb o e).1, fun b hb => ?_, w'⟩
        obtain ⟨o, e, _⟩ := T.obj _ _ st7 b hb
        exact (pin' b hb o e).2
      cases b with
      | false =>
        simp only [Bool.false_eq_true, if_false] at q9 ⊢
        exact fin I9 q9
      | true =>
        simp only [if_true] at q9 ⊢
        refine thnF (pk.run _ s9 σ8 H9 _ I9 q9) fun z s10 ⟨yk, H10, I10, r10, q10⟩ => ?_
        refine thnF (pe.run _ s10 σ8 H10 _ I10 q10) fun z2 s11 ⟨yv, H11, I11, r11, nx⟩ => ?_
        exact wpAny_mono (dput_set (X := X.blk s3 H3 scope ce fp) (cl := cl) hu I11 nx r10 r11) (fun _ s12 ⟨H12, I12, q12⟩ => fin I12 q12) fun _ _ e => e
  exact codeAny_compStart_dict loop (T.self X.A 0 _ _ _ st4 loop)
theorem pe_dcG (hu : X.A.units + 65 < cLine) {kx vx tg iter : Expr} {ifs : List Expr} {scope : Scope} {own : List (Str × Nat)} {pos : Pos} {wi : TI} {gt : TG} {tt : TT} {tk tv : TE} (hc : X.calm = true) (hN : X.N.Nodup) (hi : PI X tg iter wi) (ok : BlkOk X.N X.env.scope scope own)
    (hg : ∀ (s : Shared) (H : Hp) (C : Addr) (cl : List (Str × Addr)) (fp : List Addr), PG (X.blk s H scope (compEnvC scope cl C X.env) fp) tg gt) (ht : ∀ (s : Shared) (H : Hp) (C : Addr) (cl : List (Str × Addr)) (fp : List Addr), PTs (X.blk s H scope (compEnvC scope cl C X.env) fp) ifs tt)
    (hk : ∀ (s : Shared) (H : Hp) (C : Addr) (cl : List (Str × Addr)) (fp : List Addr), PE (X.blk s H scope (compEnvC scope cl C X.env) fp) kx tk)
    (he : ∀ (s : Shared) (H : Hp) (C : Addr) (cl : List (Str × Addr)) (fp : List Addr), PE (X.blk s H scope (compEnvC scope cl C X.env) fp) vx tv) (hs : ∀ x, foldedSetIterable iter X.env x = pure x) :
    PE X (.DictComp kx vx [⟨tg, iter, ifs, 0⟩] scope pos) (tDcG (gl X cl) wi gt tt tk tv (own.map (·.2))) :=
  ⟨fun pins s σ H Q I h => by
    rw [arm_eval_DictComp]
    exact dcG_core (cl := cl) hu hc hN hi ok hg ht hk he hs I h fun D C s' m H' J q hn ⟨f0, f1, _, f3, f4, f5⟩ => ⟨m, hn, fun h2 sb => ⟨.ref D, H', J.turned (t' := s'.toks) (fun b o hb e => (sb.2 b hb).trans e) f0 f1 f3 f4 f5, rfl, q⟩⟩⟩
end
end Ev
set_option Elab.async false
set_option linter.all false
set_option autoImplicit false
set_option maxRecDepth 100000
namespace Ev
open PySem L2 PySem.Spec PyProof.Rows
open Classical in
noncomputable def dcGo (s : Src) (vs : List Nat) (tg : Tg) (t : Sx Bool) (mk mv : Sx Opd) : List D → List (D × D) → En → Out (List (D × D))
  | [], acc, e => if s.ok e then .ok acc e else .stuck
  | x :: xs, acc, e => if s.ok e then (match setTg tg x e with
    | none => .stuck
    | some e1 => (noX t e1).bind fun k e2 => if k = true then ((noX mk e2).bind fun o e3 => (noX mv e3).bind fun o2 e4 => match o, o2 with
        | .dt kd, .dt d => if dkOk acc kd = true ∧ acc.length < sizeLine then dcGo s vs tg t mk mv xs (dput acc kd d) (wipeE vs e4) else .stuck
        | _, _ => .stuck)
      else dcGo s vs tg t mk mv xs acc (wipeE vs e2)) else .stuck
noncomputable def sDComp (vs : List Nat) (tg : Tg) (s : Sx Src) (t : Sx Bool) (mk mv : Sx Opd) : Sx Vl := fun e => (s e).bind fun src e1 => if (hidOk vs e1 && src.apart vs && tg.ix.all vs.contains) = true then
    ((dcGo src vs tg t mk mv src.items [] (wipeE vs e1)).bind fun ds e2 => .ok (nw (.dic ds)) (restoreE vs e1 e2)) else .stuck
theorem noX_exc {α : Type} (m : Sx α) (e : En) (x : Exn) (e' : En) : noX m e ≠ .exc x e' := by
  intro q
  unfold noX at q
  split at q <;> cases q
theorem dcGo_exc {s : Src} {vs : List Nat} {tg : Tg} {t : Sx Bool} {mk mv : Sx Opd} : ∀ (xs : List D) (acc : List (D × D)) (e : En) (x : Exn) (e' : En), dcGo s vs tg t mk mv xs acc e ≠ .exc x e' := by
  intro xs
  induction xs with
  | nil => intro acc e x e' q; unfold dcGo at q; split at q <;> cases q
  | cons y ys ih =>
    intro acc e x e' q
    unfold dcGo at q
    split at q
    · split at q
      · cases q
      · cases q1 : noX t _ with
        | stuck => rw [q1] at q; cases q
        | exc x2 e2 => exact noX_exc _ _ _ _ q1
        | ok k e2 =>
          rw [q1, Out.bind_ok] at q
          split at q
          · cases q2 : noX mk e2 with
            | stuck => rw [q2] at q; cases q
            | exc x2 e3 => exact noX_exc _ _ _ _ q2
            | ok o e3 =>
              rw [q2, Out.bind_ok] at q
              cases q3 : noX mv e3 with
              | stuck => rw [q3] at q; cases q
              | exc x2 e4 => exact noX_exc _ _ _ _ q3
              | ok o2 e4 =>
                rw [q3, Out.bind_ok] at q
                split at q
                · split at q
                  · exact ih _ _ _ _ q
                  · cases q
                · cases q
          · exact ih _ _ _ _ q
    · cases q
theorem restore_vr {g : Gl0} {G : Gh} {e1 e : En} {M1 M H1 Hi : Hp} {σ : L2.St} {vs : List Nat} {D : Addr} {d : Ev.D} (r1 : Rel g G e1 M1 σ H1) (hhid : hidOk vs e1 = true) (vi : VR g G e M (wipe σ vs) Hi (.ref D) (nw d)) : VR g G (restoreE vs e1 e) M σ Hi (.ref D) (nw d) := by
  obtain ⟨q, o, e2, hp, ro, mp, h0, nb, nr, ne⟩ := vi
  cases e2
  refine ⟨D, o, rfl, hp, ro, mp, h0, nb, nr, fun j oj => ?_⟩
  obtain ⟨sl, q1, q2, q3⟩ := oj
  by_cases hj : j ∈ vs
  · have : ∀ (us : List Nat) (a : En), hidOk us e1 = true → j ∈ us → ∀ sl, (restoreE us e1 a)[j]? = some sl → ¬ sl.own := by
      intro us
      induction us with
      | nil => intro a _ hm; cases hm
      | cons u us ih =>
        intro a hh hm sl hsl
        unfold hidOk at hh
        rw [List.all_cons, Bool.and_eq_true] at hh
        unfold restoreE at hsl
        cases hu : e1[u]? with
        | none => rw [hu] at hh; exact absurd hh.1 (by simp)
        | some t0 =>
          rw [hu] at hsl hh
          by_cases huj : u = j
          · subst huj
            have hl := (List.getElem?_eq_some_iff.mp hsl).1
            rw [List.length_set] at hl
            rw [List.getElem?_set_self hl] at hsl
            cases hsl
            intro so
            cases sl with
            | ow d => exact absurd hh.1 (by simp)
            | bx d => exact absurd hh.1 (by simp)
            | _ => exact so
          · rw [List.getElem?_set_ne huj] at hsl
            rcases List.mem_cons.mp hm with z | z
            · exact absurd z.symm huj
            · exact ih a hh.2 z sl hsl
    exact this vs _ hhid hj sl q1 q2
  · have : ∀ (us : List Nat) (a : En), j ∉ us → (restoreE us e1 a)[j]? = a[j]? := by
      intro us
      induction us with
      | nil => intro a _; rfl
      | cons u us ih =>
        intro a hm
        unfold restoreE
        cases hu : e1[u]? with
        | none => exact ih a fun z => hm (List.mem_cons_of_mem _ z)
        | some t0 =>
          show ((restoreE us e1 a).set u t0)[j]? = a[j]?
          rw [List.getElem?_set_ne (fun z => hm (by rw [z]; exact List.mem_cons_self)), ih a fun z => hm (List.mem_cons_of_mem _ z)]
    rw [this vs _ hj] at q1
    exact ne j ⟨sl, q1, q2, by rw [wipe_get, if_neg hj]; exact q3⟩
theorem dcomp_read {g : Gl0} {W : WX} {vs : List Nat} {tg : Tg} {s : Sx Src} {t : Sx Bool} {mk mv : Sx Opd} {tt : TT} (htt : ∀ σ H Q, tT g W0 t σ H Q → tt σ H Q) {σ : L2.St} {H : Hp} {Q : VK} (h : tE g W (sDComp vs tg s t mk mv) σ H Q) :
    tDcG g (tI g W s) (gTg g.K tg) tt (tO g W0 mk) (tO g W0 mv) vs σ H Q := by
  obtain ⟨G, e, M, r, h⟩ := h
  unfold sDComp at h
  refine tG_last r h fun src e1 J M1 H1 _ r1 _ x1 h1 => ?_
  obtain ⟨S, jok, hlen, per⟩ := x1
  intro D hD
  by_cases hc : (hidOk vs e1 && src.apart vs && tg.ix.all vs.contains) = true
  · rw [if_pos hc] at h1
    rw [Bool.and_eq_true, Bool.and_eq_true] at hc
    obtain ⟨⟨hhid, hap⟩, htg⟩ := hc
    cases hgo : dcGo src vs tg t mk mv src.items [] (wipeE vs e1) with
    | stuck => rw [hgo] at h1; exact h1.elim
    | exc x e' => exact absurd hgo (dcGo_exc _ _ _ _ _)
    | ok dsA e4 =>
      rw [hgo, Out.bind_ok] at h1
      have rD := r1.ext (.new r1.sub (o := .dK []) hD)
      have vD : VR g G e1 M1 σ (upd H1 D (.dK [])) (.ref D) (nw (.dic [])) :=
        ⟨D, _, rfl, upd_same, .dik .nil, r1.sub.none hD, r1.h0none hD, fun z => r1.bl D z hD, fun z => (r1.lent D z).1 hD, fun i q => by
          obtain ⟨_, _, o, ho⟩ := r1.owned q
          rw [hD] at ho; cases ho⟩
      refine ⟨fun i m H => m = src.items.length - i ∧ i ≤ src.items.length ∧ ∃ e M dacc, Rel g G e M (wipe σ vs) H ∧ VR g G e M (wipe σ vs) H (.ref D) (nw (.dic dacc)) ∧ Sub M1 M ∧ dcGo src vs tg t mk mv (src.items.drop i) dacc e = .ok dsA e4,
        ⟨src.items.length, rfl, Nat.zero_le _, _, M1, [], rD.wipe vs, VR.wipe rD vD vs, .refl, by rw [List.drop_zero]; exact hgo⟩, ?_⟩
      rintro i m Hi ⟨rfl, hi, e, M, dacc, ri, vi, sM, hrun⟩
      have stands : src.ok e → S M Hi := fun ok => per G e M Hi (wipe σ vs) ri sM ok fun j d hj => by
        rw [wipe_get, if_neg]
        intro hm
        unfold Src.apart at hap
        rw [hj] at hap
        have hap' : (!vs.contains j) = true := hap
        rw [Bool.not_eq_true', List.contains_eq_mem] at hap'
        exact absurd hm (by simpa using hap')
      by_cases hlt : i < src.items.length
      · refine .inr ?_
        have hdrop : src.items.drop i = src.items[i] :: src.items.drop (i + 1) := List.drop_eq_getElem_cons hlt
        rw [hdrop] at hrun
        unfold dcGo at hrun
        split at hrun
        · rename_i hok
          have st := stands hok
          refine ⟨jok.go i M Hi st ri.sub hlt, fun H' => src.items.length - (i + 1) = src.items.length - (i + 1) ∧ i + 1 ≤ src.items.length ∧ ∃ e M dacc, Rel g G e M (wipe σ vs) H' ∧ VR g G e M (wipe σ vs) H' (.ref D) (nw (.dic dacc)) ∧ Sub M1 M ∧ dcGo src vs tg t mk mv (src.items.drop (i + 1)) dacc e = .ok dsA e4,
            fun H' q => ⟨src.items.length - (i + 1), by omega, q⟩, fun x H' hy => ?_⟩
          obtain ⟨M', w, rx⟩ := jok.yld i M Hi x H' st ri.sub hy _ (List.getElem?_eq_getElem hlt)
          have ri' := ri.ext w
          have vi' := vi.ext w
          split at hrun
          · cases hrun
          · rename_i e' hset
            obtain ⟨σ2, r2, v2, s2, k2⟩ := tg_ok rx hset ri' vi'
            have hw2 : wipe σ2 vs = wipe σ vs := by
              have : Same' vs (wipe σ vs) σ2 := ⟨s2.1, fun j hj => s2.2 j fun hm => hj (by
                have := List.all_eq_true.mp htg j hm
                rw [List.contains_eq_mem] at this
                simpa using this)⟩
              rw [wipe_same this, wipe_wipe]
            refine k2 _ ⟨hw2, ?_⟩
            obtain ⟨k, e2, hk, hrun⟩ := bind_ok' hrun
            have hk' := noX_ok hk
            refine htt σ2 H' _ ⟨G.here e' M' σ2 H', e', M', r2.here, ?_⟩
            rw [hk']
            intro b M3 H3 r3 eb
            subst eb
            have r3' := r2.back r3
            have v3 := v2.stay r2 r3 r3.base
            have s13 : Sub M1 M3 := (sM.trans w.mono).trans r3.base
            cases b with
            | true =>
              have hrun' : ((noX mk e2).bind fun o e3 => (noX mv e3).bind fun o2 e4 => match o, o2 with
                | .dt kd, .dt d => if dkOk dacc kd = true ∧ dacc.length < sizeLine then dcGo src vs tg t mk mv (src.items.drop (i + 1)) (dput dacc kd d) (wipeE vs e4) else .stuck
                | _, _ => .stuck) = .ok dsA e4 := hrun
              obtain ⟨o, e3, ho, hrun2⟩ := bind_ok' hrun'
              obtain ⟨o2, e5, ho2, hrun3⟩ := bind_ok' hrun2
              have ho' := noX_ok ho
              have ho2' := noX_ok ho2
              rw [if_pos rfl]
              refine ⟨G.here e2 M3 σ2 H3, e2, M3, r3'.here, ?_⟩
              rw [ho']
              intro y M5 H5 r5 oy
              have r5' := r3'.back r5
              have v5 := v3.stay r3' r5 r5.base
              refine ⟨G.here e3 M5 σ2 H5, e3, M5, r5'.here, ?_⟩
              rw [ho2']
              intro z M6 H6 r6 oz
              have r6' := r5'.back r6
              have v6 := v5.stay r5' r6 r6.base
              have oy' := oy.mono r6.base
              cases o with
              | sl j => cases o2 <;> cases hrun3
              | dt kd =>
                cases o2 with
                | sl j => cases hrun3
                | dt d =>
                  have hrun4 : (if dkOk dacc kd = true ∧ dacc.length < sizeLine then dcGo src vs tg t mk mv (src.items.drop (i + 1)) (dput dacc kd d) (wipeE vs e5) else .stuck) = .ok dsA e4 := hrun3
                  by_cases hkd : dkOk dacc kd = true ∧ dacc.length < sizeLine
                  · rw [if_pos hkd] at hrun4
                    obtain ⟨q, o6, eq, hp6, ro6, _⟩ := id v6
                    cases eq
                    refine ⟨M6, o6, dacc, kd, d, hp6, ro6, r6'.sub, oy', oz, hkd.1, hkd.2, fun o' ro' => ?_⟩
                    obtain ⟨r7, v7⟩ := r6'.upT v6 ro'
                    refine ⟨rfl, hlt, wipeE vs e5, M6, dput dacc kd d, ?_, ?_, (s13.trans r5.base).trans r6.base, hrun4⟩
                    · have := r7.wipe vs
                      rw [hw2] at this
                      exact this
                    · have := VR.wipe r7 v7 vs
                      rw [hw2] at this
                      exact this
                  · rw [if_neg hkd] at hrun4
                    cases hrun4
            | false =>
              have hrun' : dcGo src vs tg t mk mv (src.items.drop (i + 1)) dacc (wipeE vs e2) = .ok dsA e4 := hrun
              rw [if_neg Bool.false_ne_true]
              refine ⟨rfl, hlt, wipeE vs e2, M3, dacc, ?_, ?_, s13, hrun'⟩
              · have := r3'.wipe vs
                rw [hw2] at this
                exact this
              · have := VR.wipe r3' v3 vs
                rw [hw2] at this
                exact this
        · cases hrun
      · refine .inl ?_
        have ei : i = src.items.length := by omega
        subst ei
        rw [List.drop_length] at hrun
        unfold dcGo at hrun
        split at hrun
        · rename_i hok
          cases hrun
          refine ⟨jok.stop M Hi (stands hok) ri.sub, ?_⟩
          have rr := Rel.restore r1 vs hhid ri sM ⟨wipe_length σ vs, fun j hj => by rw [wipe_get, if_neg hj]⟩
          exact h1 (.ref D) M Hi rr (restore_vr r1 hhid vi)
        · cases hrun
  · rw [if_neg hc] at h1
    exact h1.elim
section
variable {X : Cx} {cl : Str → Option Addr} {W : WX} {pos : Pos}
theorem ve_dcomp (hu : X.A.units + 65 < cLine) {kx vx tgt iter : Expr} {ifs : List Expr} {scope : Scope} {own : List (Str × Nat)} {tg : Tg} {s : Sx Src} {t : Sx Bool} {mk mv : Sx Opd} {tt : TT} (htt : ∀ σ H Q, tT (gl X cl) W0 t σ H Q → tt σ H Q) (hc : X.calm = true) (hN : X.N.Nodup) (hi : PI X tgt iter (tI (gl X cl) W s)) (ok : BlkOk X.N X.env.scope scope own)
    (hg : ∀ (s : Shared) (H : Hp) (C : Addr) (cl : List (Str × Addr)) (fp : List Addr), PG (X.blk s H scope (compEnvC scope cl C X.env) fp) tgt (gTg X.K tg)) (ht : ∀ (s : Shared) (H : Hp) (C : Addr) (cl : List (Str × Addr)) (fp : List Addr), PTs (X.blk s H scope (compEnvC scope cl C X.env) fp) ifs tt)
    (hk : ∀ (s : Shared) (H : Hp) (C : Addr) (cl' : List (Str × Addr)) (fp : List Addr), PE (X.blk s H scope (compEnvC scope cl' C X.env) fp) kx (tO (gl X cl) W0 mk))
    (he : ∀ (s : Shared) (H : Hp) (C : Addr) (cl' : List (Str × Addr)) (fp : List Addr), PE (X.blk s H scope (compEnvC scope cl' C X.env) fp) vx (tO (gl X cl) W0 mv)) (hs : ∀ x, foldedSetIterable iter X.env x = pure x) :
    PE X (.DictComp kx vx [⟨tgt, iter, ifs, 0⟩] scope pos) (tE (gl X cl) W (sDComp (own.map (·.2)) tg s t mk mv)) :=
  PE_imp (pe_dcG (cl := cl) hu hc hN hi ok hg ht hk he hs) fun σ H Q h => dcomp_read htt h
end
end Ev
set_option Elab.async false
set_option linter.all false
set_option autoImplicit false
set_option maxRecDepth 100000
namespace Ev
open PySem L2 PySem.Spec PyProof.Rows
section
variable {X : Cx} {cl : Str → Option Addr} {W : WX} {pos : Pos} {k v : Expr} {mk mv : Sx Opd}
def D.tyn : D → Option String
  | .non => some "NoneType"
  | .bl _ => some "bool"
  | .int _ => some "int"
  | .str _ => some "str"
  | .tup _ => some "tuple"
  | .lst _ => some "list"
  | _ => none
def pIsi (f : String → Option Bool) : List D → Option Vl
  | [d] => (d.tyn.bind f).map fun b => fz (.bl b)
  | _ => none
def pIsiO (c : Str) : List D → Option Vl
  | [.obj c' _] => if c' = c then some (fz (.bl true)) else none
  | _ => none
theorem tyn_of {M H : Hp} {x : V} {d : D} {t : String} (sm : Sub M H) (h : PRep (gl X cl) M H x d) (e : d.tyn = some t) : TyX X.K H x (.type t) := by
  cases d with
  | non => cases e; rw [h.non]; exact .base .non
  | bl b => cases e; rw [h.bl]; exact .base (.bl b)
  | int i => cases e; rw [h.int]; exact .base (.int i)
  | str z => cases e; rw [h.str.1]; exact .base (.str z)
  | lst l =>
    cases e
    obtain ⟨a, vs, rfl, hs, _⟩ := h.lst sm
    exact .base (.lst hs)
  | tup l =>
    cases e
    obtain ⟨a, vs, rfl, hs, _⟩ := h.tup sm
    rcases hs with (hs | ⟨o, hs⟩) | hs
    · exact .base (.tup hs)
    · exact .fTuple hs
    · obtain ⟨o, its, n, h1, h2, _⟩ := hs
      exact .kTuple h1 h2
  | dic l => cases e
  | obj c fs => cases e
  | scr l => cases e
  | adr a => cases e
theorem pa_two {a b : Expr} {ta tb : TE} (ha : PE X a ta) (hb : PE X b tb) (hs : starEach [a, b] X.env = (false, eval a X.env) :: starEach [b] X.env) (hs2 : starEach [b] X.env = (false, eval b X.env) :: starEach [] X.env) : PA X [a, b] (tCons ta (tCons tb tNil)) := pa_cons ha (pa_cons hb pa_nil hs2) hs
theorem ve_isi {x : Str} {u : Str} {T : String} {pp p2 : Pos} {e : Expr} {m : Sx Opd} {f : String → Option Bool} (hf : ∀ t b, f t = some b → kitB t T = some b) (he : PE X e (tO (gl X cl) W m)) (hg : Gl X x) (hm : X.mg x = none) (hv : bootBuiltins x = some (.builtin "isinstance")) (hn : x ≠ "__name__") (hdb : (x == ("__debug__" : Str)) = false)
    (hg2 : Gl X u) (hm2 : X.mg u = none) (hv2 : bootBuiltins u = some (.type T)) (hn2 : u ≠ "__name__") (hdb2 : (u == ("__debug__" : Str)) = false)
    (hs : starEach [e, .Name u p2] X.env = (false, eval e X.env) :: starEach [.Name u p2] X.env) (hs2 : starEach [.Name u p2] X.env = (false, eval (.Name u p2) X.env) :: starEach [] X.env) (hpl : (backTo pos (starEach [.Name u p2] X.env)).any (·.1) = false) :
    PE X (.Call (.Name x pp) [e, .Name u p2] [] pos) (tE (gl X cl) W (sPrim (pIsi f) [m])) :=
  PE_imp (pe_callB call_isi hg hm hv (pa_two he (pe_bltn (v := .ty T) hg2 hm2 hv2 rfl hn2 hdb2) hs hs2) hn hdb hs hpl) fun σ H Q ⟨G, e, M, r, h⟩ => by
    obtain ⟨G', e', M', r', h'⟩ := one_op r h
    refine ⟨G', e', M', r', ?_⟩
    cases q : m e' with
    | stuck => rw [q] at h'; exact h'
    | exc x e1 => rw [q] at h'; exact h'
    | ok o e1 =>
      rw [q] at h'
      intro x M1 H1 r1 x1
      obtain ⟨M2, ds, v, sm, pr, hp, k⟩ := h' x M1 H1 r1 x1
      unfold pIsi at hp
      split at hp
      · obtain ⟨b, hb, rfl⟩ := Option.map_eq_some_iff.mp hp
        obtain ⟨t, ht, hft⟩ := Option.bind_eq_some_iff.mp hb
        obtain ⟨y, e, q⟩ := preps1 pr
        cases e
        exact ⟨_, .ty T, .type t, .type T, b, rfl, .ty T, tyn_of sm q ht, kit_ty (hf t b hft), rPs.fz k sm (.bl _)⟩
      · cases hp
theorem ve_isiO {x : Str} {u : Str} {C : Addr} {c : Str} {pp p2 : Pos} {e : Expr} {m : Sx Opd} (hC : cl c = some C) (hTy : ∀ (H : Hp) (a dx : Addr) (fs : List (Str × V)), H a = some (.ins C dx fs) → TyX X.K H (.ref a) (.ref C)) (hkit : PySem.W.kitOne X.K (.ref C) (.ref C) = some true)
    (he : PE X e (tO (gl X cl) W m)) (hg : Gl X x) (hm : X.mg x = none) (hv : bootBuiltins x = some (.builtin "isinstance")) (hn : x ≠ "__name__") (hdb : (x == ("__debug__" : Str)) = false)
    (hg2 : Gl X u) (hm2 : X.mg u = some (.ref C)) (hdb2 : (u == ("__debug__" : Str)) = false)
    (hs : starEach [e, .Name u p2] X.env = (false, eval e X.env) :: starEach [.Name u p2] X.env) (hs2 : starEach [.Name u p2] X.env = (false, eval (.Name u p2) X.env) :: starEach [] X.env) (hpl : (backTo pos (starEach [.Name u p2] X.env)).any (·.1) = false) :
    PE X (.Call (.Name x pp) [e, .Name u p2] [] pos) (tE (gl X cl) W (sPrim (pIsiO c) [m])) :=
  PE_imp (pe_callB call_isi hg hm hv (pa_two he (pe_glob (v := .ref C) hg2 hm2 rfl hdb2) hs hs2) hn hdb hs hpl) fun σ H Q ⟨G, e, M, r, h⟩ => by
    obtain ⟨G', e', M', r', h'⟩ := one_op r h
    refine ⟨G', e', M', r', ?_⟩
    cases q : m e' with
    | stuck => rw [q] at h'; exact h'
    | exc x e1 => rw [q] at h'; exact h'
    | ok o e1 =>
      rw [q] at h'
      intro x M1 H1 r1 x1
      obtain ⟨M2, ds, v, sm, pr, hp, k⟩ := h' x M1 H1 r1 x1
      unfold pIsiO at hp
      split at hp
      · split at hp
        · rename_i hcc
          cases hp
          subst hcc
          obtain ⟨y, e, q⟩ := preps1 pr
          cases e
          obtain ⟨a, C', dx, fs, rfl, ha, hc', _⟩ := q.obj sm
          have hc2 : cl _ = some C' := hc'
          rw [hC] at hc2
          cases hc2
          exact ⟨_, .ref C, .ref C, .ref C, true, rfl, .own C, hTy H1 a dx fs ha, hkit, rPs.fz k sm (.bl _)⟩
        · cases hp
      · cases hp
end
end Ev
set_option Elab.async false
set_option linter.all false
set_option autoImplicit false
set_option maxRecDepth 100000
namespace Ev
open PySem L2 PySem.Spec PyProof.Rows
def startE (modes : List Bool) (ds : List D) (n : Nat) : En := List.zipWith (fun b d => if b = true then Slot.ro d else Slot.sh d) modes ds ++ List.replicate (n - ds.length) .unb
def startB (d0 : D) (ds : List D) (n : Nat) : En := .bx d0 :: (ds.map Slot.sh ++ List.replicate (n - (ds.length + 1)) .unb)
def runF (t : SS) (modes : List Bool) (n : Nat) : List D → Res Vl := fun ds => if ds.length = modes.length then (match t (startE modes ds n) with
  | .rt v _ => .ok v
  | .nx _ => .ok (fz .non)
  | _ => .stuck) else .stuck
def boxOf (v : Vl) (e : En) : ResB := match e[0]? with
  | some (Slot.bx d) => .ok v d
  | _ => .stuck
def runB (t : SS) (m n : Nat) : D → List D → ResB := fun d0 ds => if ds.length = m then (match t (startB d0 ds n) with
  | .rt v e => boxOf v e
  | .nx e => boxOf (fz .non) e
  | _ => .stuck) else .stuck
section
variable {g : Gl0} {M H : Hp}
theorem argR_len2 : ∀ {bs : List Bool} {vs : List V} {ds : List D}, ArgR g M H bs vs ds → ds.length = bs.length
  | _, _, _, .nil => rfl
  | _, _, _, .held _ t => congrArg (· + 1) (argR_len2 t)
  | _, _, _, .lent _ t => congrArg (· + 1) (argR_len2 t)
theorem startE_slot : ∀ {bs : List Bool} {vs : List V} {ds : List D} {n : Nat} {i : Nat} {s : Slot}, ArgR g M H bs vs ds → (startE bs ds n)[i]? = some s →
    s = .unb ∨ ∃ v d, vs[i]? = some v ∧ ((s = .sh d ∧ Rep g M v d) ∨ (s = .ro d ∧ PRep g M H v d))
  | _, _, _, n, i, s, .nil, h => by
    left
    have h' : (List.replicate (n - 0) Slot.unb)[i]? = some s := h
    obtain ⟨hl, e⟩ := List.getElem?_eq_some_iff.mp h'
    rw [List.getElem_replicate] at e
    exact e.symm
  | _, _, _, n, 0, s, .held (d := d) r t, h => by
    right
    cases h
    exact ⟨_, d, rfl, .inl ⟨rfl, r⟩⟩
  | _, _, _, n, 0, s, .lent (d := d) r t, h => by
    right
    cases h
    exact ⟨_, d, rfl, .inr ⟨rfl, r⟩⟩
  | _, _, _, n, i + 1, s, .held (bs := bs) (ds := ds) r t, h => by
    have h' : (startE bs ds (n - 1))[i]? = some s := by
      unfold startE
      unfold startE at h
      simpa [List.length_cons, Nat.sub_sub, Nat.add_comm] using h
    have q := startE_slot t h'
    simpa using q
  | _, _, _, n, i + 1, s, .lent (bs := bs) (ds := ds) r t, h => by
    have h' : (startE bs ds (n - 1))[i]? = some s := by
      unfold startE
      unfold startE at h
      simpa [List.length_cons, Nat.sub_sub, Nat.add_comm] using h
    have q := startE_slot t h'
    simpa using q
theorem startE_len {bs : List Bool} {vs : List V} {ds : List D} {N : List Str} (h : ArgR g M H bs vs ds) : (startE bs ds N.length).length = (L2.start N vs).length := by
  have h1 := argR_len h
  have h2 := argR_len2 h
  unfold startE L2.start
  simp [h1, h2]
theorem start_get {N : List Str} {vs : List V} {i : Nat} {v : V} (h : vs[i]? = some v) : (L2.start N vs)[i]? = some (some v) := by
  unfold L2.start
  have hl := (List.getElem?_eq_some_iff.mp h).1
  rw [List.getElem?_append_left (by simpa using hl), List.getElem?_map, h]
  rfl
theorem rel_start {modes : List Bool} {ds : List D} {vs : List V} {N : List Str} (sm : Sub M H) (ar : ArgR g M H modes vs ds) : Rel g ⟨H, M, none, fun _ => False, fun a => H a ≠ none⟩ (startE modes ds N.length) M (L2.start N vs) H where
  sub := sm
  keep := fun _ _ h _ => h
  live := fun _ h => h
  fresh := fun _ h => .inl h
  base := .refl
  slot := fun i s x h1 h2 => by
    rcases startE_slot ar h1 with rfl | ⟨v, d, hv, ⟨rfl, r⟩ | ⟨rfl, r⟩⟩
    · trivial
    · rw [start_get hv] at h2; cases h2
      exact ⟨v, rfl, r⟩
    · rw [start_get hv] at h2; cases h2
      refine ⟨v, rfl, ?_⟩
      rcases r with r | ⟨a, o, e, ha, ro⟩
      · exact .inl r
      · exact .inr ⟨a, o, e, ha, by show H a ≠ none; rw [ha]; exact Option.some_ne_none o, ro⟩
  len := startE_len ar
  dist := fun i j a hij ⟨s, h1, h2, _⟩ _ => by
    rcases startE_slot ar h1 with rfl | ⟨v, d, hv, ⟨rfl, r⟩ | ⟨rfl, r⟩⟩ <;> exact h2
  lent := fun a h => ⟨h, fun z => by rcases z with z | z; cases z; exact z, fun j ⟨s, h1, h2, _⟩ => by
    rcases startE_slot ar h1 with rfl | ⟨v, d, hv, ⟨rfl, r⟩ | ⟨rfl, r⟩⟩ <;> exact h2⟩
  bl := fun a h => by rcases h with h | h; cases h; exact h.elim
theorem nB {a : Addr} : ¬ (Gh.mk H M none (fun _ => False) (fun a => H a ≠ none)).B a := fun z => by rcases z with z | z; cases z; exact z
theorem pure_fn {t : SS} {modes : List Bool} {N : List Str} {vs : List V} {Q : VK} {E : XK} (h : spFn g modes (runF t modes N.length) vs H Q E) : tS g W0 t { nx := fun _ H' => Q .non H', rt := Q } (L2.start N vs) H := by
  obtain ⟨M, ds, sm, ar, hF⟩ := h
  refine ⟨_, _, M, rel_start sm ar, ?_⟩
  unfold runF at hF
  rw [if_pos (argR_len2 ar)] at hF
  have ext : ∀ {e M' σ' H'}, Rel g ⟨H, M, none, fun _ => False, fun a => H a ≠ none⟩ e M' σ' H' → Ext M H M' H' := fun {e M' σ' H'} r => ⟨fun a o e => r.keep a o e nB, r.base, r.sub, fun a ha => by
    rcases r.fresh a ha with z | z | z
    · exact .inl z
    · exact .inr z
    · exact z.elim⟩
  cases q : t (startE modes ds N.length) with
  | rt v e =>
    rw [q] at hF
    intro x σ' M' H' r' vr
    have hF' : Gives g M H v Q := hF
    refine hF' x M' H' (ext r') ?_ ?_
    · obtain ⟨d, b⟩ := v
      cases b with
      | false => exact vr
      | true =>
        obtain ⟨p, o, e1, hp, ro, mp, h0⟩ := vr
        refine ⟨p, o, e1, ?_, hp, ro⟩
        rcases h0 with h0 | h0
        · exact h0
        · exact h0.elim
    · obtain ⟨d, b⟩ := v
      cases b with
      | false => exact fun z => by cases z
      | true =>
        intro _ q0 eq
        obtain ⟨p, o, e1, hp, ro, mp, h0⟩ := vr
        rw [e1] at eq; cases eq
        exact mp
  | nx e =>
    rw [q] at hF
    intro σ' M' H' r'
    have hF' : Gives g M H (fz .non) Q := hF
    exact hF' .non M' H' (ext r') .non (fun z => by cases z)
  | bk e => rw [q] at hF; exact hF.elim
  | ct e => rw [q] at hF; exact hF.elim
  | exc x e => rw [q] at hF; exact hF.elim
  | stuck => rw [q] at hF; exact hF.elim
theorem all_held : ∀ {m : Nat} {vs : List V} {ds : List D}, ArgR g M H (List.replicate m false) vs ds → Reps g M vs ds
  | 0, _, _, h => by cases h; exact .nil
  | m + 1, _, _, h => by
    rw [List.replicate_succ] at h
    cases h with
    | held r t => exact .cons r (all_held t)
theorem startB_slot {d0 : D} {ds : List D} {b : Addr} {us : List V} {n i : Nat} {s : Slot} (h : Reps g M us ds) (hs : (startB d0 ds n)[i]? = some s) : s = .unb ∨ (i = 0 ∧ s = .bx d0) ∨ ∃ v d, (V.ref b :: us)[i]? = some v ∧ s = .sh d ∧ Rep g M v d := by
  cases i with
  | zero => cases hs; exact .inr (.inl ⟨rfl, rfl⟩)
  | succ i =>
    have hs' : (ds.map Slot.sh ++ List.replicate (n - (ds.length + 1)) Slot.unb)[i]? = some s := hs
    by_cases hl : i < ds.length
    · right; right
      rw [List.getElem?_append_left (by simpa using hl), List.getElem?_map, List.getElem?_eq_getElem hl] at hs'
      cases hs'
      obtain ⟨v, hv, rv⟩ := h.get (List.getElem?_eq_getElem hl)
      exact ⟨v, _, hv, rfl, rv⟩
    · left
      rw [List.getElem?_append_right (by simpa using hl)] at hs'
      obtain ⟨hl2, e⟩ := List.getElem?_eq_some_iff.mp hs'
      rw [List.getElem_replicate] at e
      exact e.symm
theorem rel_startB {d0 : D} {ds : List D} {b : Addr} {o : HO} {us : List V} {N : List Str} (sm : Sub M H) (hb : H b = some o) (ro : RepO g M b o d0) (mb : M b = none) (hr : Reps g M us ds) :
    Rel g ⟨H, M, some b, fun _ => False, fun _ => False⟩ (startB d0 ds N.length) M (L2.start N (.ref b :: us)) H where
  sub := sm
  keep := fun _ _ h _ => h
  live := fun _ h => h
  fresh := fun _ h => .inl h
  base := .refl
  slot := fun i s x h1 h2 => by
    rcases startB_slot (b := b) hr h1 with rfl | ⟨rfl, rfl⟩ | ⟨v, d, hv, rfl, r⟩
    · trivial
    · have : (L2.start N (.ref b :: us))[0]? = some (some (.ref b)) := start_get rfl
      rw [this] at h2; cases h2
      exact ⟨b, o, rfl, hb, ro, mb, rfl⟩
    · rw [start_get hv] at h2; cases h2
      exact ⟨v, rfl, r⟩
  len := by
    unfold startB L2.start
    have := hr.length
    simp [this]
  dist := fun i j a hij ⟨s, h1, h2, _⟩ ⟨s', h1', h2', _⟩ => by
    rcases startB_slot (b := b) hr h1 with rfl | ⟨rfl, rfl⟩ | ⟨v, d, hv, rfl, r⟩
    · exact h2
    · rcases startB_slot (b := b) hr h1' with rfl | ⟨rfl, rfl⟩ | ⟨v, d, hv, rfl, r⟩
      · exact h2'
      · exact hij rfl
      · exact h2'
    · exact h2
  lent := fun a h => h.elim
  bl := fun a h => by
    rcases h with h | h
    · cases h; rw [hb]; exact Option.some_ne_none o
    · exact h.elim
theorem pure_bx {t : SS} {m : Nat} {N : List Str} {vs : List V} {Q : VK} {E : XK} (h : spBx g (List.replicate m false) (runB t m N.length) vs H Q E) : tS g W0 t { nx := fun _ H' => Q .non H', rt := Q } (L2.start N vs) H := by
  obtain ⟨b, o, d0, M, us, ds, rfl, hb, ro, mb, sm, ar, hF⟩ := h
  have hl : ds.length = m := by rw [argR_len2 ar, List.length_replicate]
  refine ⟨_, _, M, rel_startB (N := N) sm hb ro mb (all_held ar), ?_⟩
  unfold runB at hF
  rw [if_pos hl] at hF
  have ext : ∀ {e M' σ' H'}, Rel g ⟨H, M, some b, fun _ => False, fun _ => False⟩ e M' σ' H' → ExtB b M H M' H' := fun {e M' σ' H'} r => ⟨fun a o ne e => r.keep a o e (fun z => by rcases z with z | z; cases z; exact ne rfl; exact z), r.base, r.sub, fun a ha => by
    rcases r.fresh a ha with z | z | z
    · exact .inl z
    · exact .inr z
    · exact z.elim⟩
  have box : ∀ {e M' σ' H' d}, Rel g ⟨H, M, some b, fun _ => False, fun _ => False⟩ e M' σ' H' → e[0]? = some (.bx d) → ∃ o', H' b = some o' ∧ RepO g M' b o' d := fun {e M' σ' H' d} r he => by
    obtain ⟨x, _, a, o', _, ha, ro', _, e2⟩ := r.at he
    have : a = b := by
      have e3 : (some b : Option Addr) = some a := e2
      cases e3; rfl
    subst this
    exact ⟨o', ha, ro'⟩
  cases q : t (startB d0 ds N.length) with
  | rt v e =>
    rw [q] at hF
    intro x σ' M' H' r' vr
    have hF' : (match boxOf v e with
      | .ok v d1 => ∀ z M' H' o', ExtB b M H M' H' → H' b = some o' → RepO g M' b o' d1 → PX g M H M' H' z v → (v.nw = true → ∀ q, z = .ref q → M' q = none) → Q z H'
      | .exc x => ∀ c d M' H', ExtB b M H M' H' → ExR g M' c d x → E c d H'
      | .stuck => False) := hF
    unfold boxOf at hF'
    cases he : e[0]? with
    | none => rw [he] at hF'; exact hF'.elim
    | some s =>
      rw [he] at hF'
      cases s with
      | bx d =>
        obtain ⟨o', hb', ro'⟩ := box r' he
        refine hF' x M' H' o' (ext r') hb' ro' ?_ ?_
        · obtain ⟨d, bb⟩ := v
          cases bb with
          | false => exact vr
          | true =>
            obtain ⟨p, o, e1, hp, ro, mp, h0⟩ := vr
            refine ⟨p, o, e1, ?_, hp, ro⟩
            rcases h0 with h0 | h0
            · exact h0
            · exact h0.elim
        · obtain ⟨d, bb⟩ := v
          cases bb with
          | false => exact fun z => by cases z
          | true =>
            intro _ q0 eq
            obtain ⟨p, o, e1, hp, ro, mp, h0⟩ := vr
            rw [e1] at eq; cases eq
            exact mp
      | _ => exact hF'.elim
  | nx e =>
    rw [q] at hF
    intro σ' M' H' r'
    have hF' : (match boxOf (fz .non) e with
      | .ok v d1 => ∀ z M' H' o', ExtB b M H M' H' → H' b = some o' → RepO g M' b o' d1 → PX g M H M' H' z v → (v.nw = true → ∀ q, z = .ref q → M' q = none) → Q z H'
      | .exc x => ∀ c d M' H', ExtB b M H M' H' → ExR g M' c d x → E c d H'
      | .stuck => False) := hF
    unfold boxOf at hF'
    cases he : e[0]? with
    | none => rw [he] at hF'; exact hF'.elim
    | some s =>
      rw [he] at hF'
      cases s with
      | bx d =>
        obtain ⟨o', hb', ro'⟩ := box r' he
        exact hF' .non M' H' o' (ext r') hb' ro' .non (fun z => by cases z)
      | _ => exact hF'.elim
  | bk e => rw [q] at hF; exact hF.elim
  | ct e => rw [q] at hF; exact hF.elim
  | exc x e => rw [q] at hF; exact hF.elim
  | stuck => rw [q] at hF; exact hF.elim
end
end Ev
set_option Elab.async false
set_option linter.all false
set_option autoImplicit false
set_option maxRecDepth 100000
namespace Ev
open PySem L2 PySem.Spec PyProof.Rows
abbrev VE (X : Cx) (cl : Str → Option Addr) (W : WX) (e : Expr) (m : Sx Vl) : Prop := PE X e (tE (gl X cl) W m)
abbrev VO (X : Cx) (cl : Str → Option Addr) (W : WX) (e : Expr) (m : Sx Opd) : Prop := PE X e (tO (gl X cl) W m)
abbrev VT (X : Cx) (cl : Str → Option Addr) (W : WX) (e : Expr) (m : Sx Bool) : Prop := PT X e (tT (gl X cl) W m)
abbrev VW (X : Cx) (cl : Str → Option Addr) (W : WX) (e : Expr) (m : Sx Bool) : Prop := PW X e (tT (gl X cl) W m)
abbrev VA (X : Cx) (cl : Str → Option Addr) (W : WX) (e : List Expr) (m : List (Sx Opd)) : Prop := PA X e (tAs (gl X cl) W (sOps m))
abbrev VI (X : Cx) (cl : Str → Option Addr) (W : WX) (tg e : Expr) (m : Sx Src) : Prop := PI X tg e (tI (gl X cl) W m)
abbrev VS (X : Cx) (cl : Str → Option Addr) (W : WX) (s : Stmt) (m : SS) : Prop := PS X s (tS (gl X cl) W m)
abbrev VSs (X : Cx) (cl : Str → Option Addr) (W : WX) (s : List Stmt) (m : SS) : Prop := PSs X s (tS (gl X cl) W m)
def visB (sc : Scope) (x : Str) : Bool := match sc.names.lookup x with
  | some .local => true
  | some .cell => true
  | some .free => true
  | _ => false
def locB (sc : Scope) (x : Str) : Bool := match sc.names.lookup x with
  | some .local => true
  | some .cell => true
  | _ => false
theorem visB_vis {sc : Scope} {x : Str} (h : visB sc x = true) : Vis sc x := by
  unfold visB at h
  unfold Vis
  split at h <;> simp_all
theorem locB_loc {sc : Scope} {x : Str} (h : locB sc x = true) : Loc sc x := by
  unfold locB at h
  unfold L2.Loc
  split at h <;> simp_all
def nmB (X : Cx) (i : Nat) (x : Str) : Bool := decide (X.N[i]? = some x) && visB X.env.scope x && !(x == ("__debug__" : Str)) && !(x == ("__classdict__" : Str))
def glB (X : Cx) (x : Str) : Bool := decide (X.env.kindOf x = some .globalImplicit) && !(x == ("__debug__" : Str))
def tgB (X : Cx) (i : Nat) (x : Str) : Bool := decide (X.N[i]? = some x) && locB X.env.scope x && (X.fn x || decide (X.env.scope.names.lookup x = some .local))
def btB (X : Cx) (x : Str) (v : Value → Bool) : Bool := glB X x && !decide (x = ("__name__" : Str)) && (match bootBuiltins x with | some u => v u | none => false)
section
variable {X : Cx} {cl : Str → Option Addr} {W : WX} {pos pos2 : Pos} {x : Str} {i : Nat}
theorem nmB_of (h : nmB X i x = true) : X.N[i]? = some x ∧ Vis X.env.scope x ∧ (x == ("__debug__" : Str)) = false ∧ (x == ("__classdict__" : Str)) = false := by
  unfold nmB at h
  simp only [Bool.and_eq_true, Bool.not_eq_true', decide_eq_true_eq] at h
  exact ⟨h.1.1.1, visB_vis h.1.1.2, h.1.2, h.2⟩
theorem glB_of (h : glB X x = true) : Gl X x ∧ (x == ("__debug__" : Str)) = false := by
  unfold glB at h
  simp only [Bool.and_eq_true, Bool.not_eq_true', decide_eq_true_eq] at h
  exact h
theorem tgB_of (h : tgB X i x = true) : X.N[i]? = some x ∧ Loc X.env.scope x ∧ (X.fn x = true ∨ X.env.scope.names.lookup x = some .local) := by
  unfold tgB at h
  simp only [Bool.and_eq_true, Bool.or_eq_true, decide_eq_true_eq] at h
  exact ⟨h.1.1, locB_loc h.1.2, h.2⟩
theorem kN (i : Nat) (h : nmB X i x = true := by kernel_rfl) : VE X cl W (.Name x pos) (sName i) := let ⟨a, b, c, d⟩ := nmB_of h; ve_name a b c d
theorem kO (i : Nat) (h : nmB X i x = true := by kernel_rfl) : VO X cl W (.Name x pos) (oName i) := let ⟨a, b, c, d⟩ := nmB_of h; vo_name a b c d
theorem kV {e : Expr} {m : Sx Vl} (h : VE X cl W e m) : VO X cl W e (oVal m) := vo_val h
theorem const_ve {e : Expr} {v : V} {d : D} (h : PE X e (tC v)) (r : ∀ M : Hp, Rep (gl X cl) M v d) : VE X cl W e (sC d) := PE_imp h fun σ H Q ⟨G, e, M, rl, h⟩ => h v M H rl (r M)
theorem kInt {n : Int} {j : Nat} : VE X cl W (.Constant (.int n) j pos) (sC (.int n)) := const_ve pe_int fun _ => .int n
theorem kBool {b : Bool} {j : Nat} : VE X cl W (.Constant (.bool b) j pos) (sC (.bl b)) := const_ve pe_bl fun _ => .bl b
theorem kNone {j : Nat} : VE X cl W (.Constant .none j pos) (sC .non) := const_ve pe_non fun _ => .non
def strB (x : Str) : Bool := PyData.strOk x && decide (x.length ≤ 1000000)
theorem strB_of (h : strB x = true) : PyData.strOk x = true ∧ x.length ≤ sizeLine := by
  unfold strB at h
  simp only [Bool.and_eq_true, decide_eq_true_eq] at h
  refine ⟨h.1, ?_⟩
  rw [sizeLine_eq]
  omega
theorem kStr {j : Nat} (h : strB x = true := by kernel_rfl) : VE X cl W (.Constant (.str x) j pos) (sC (.str x)) := const_ve pe_str fun _ => .str x (strB_of h)
theorem kGInt {n : Int} {t : Tok} (hm : X.mg x = some (.int n t)) (h : glB X x = true := by kernel_rfl) : VE X cl W (.Name x pos) (sC (.int n)) := let ⟨a, b⟩ := glB_of h; const_ve (pe_glob (v := .int n) a hm ⟨t, rfl⟩ b) fun _ => .int n
theorem kGStr {z : Str} {t : Tok} (hm : X.mg x = some (.str z t)) (hz : strB z = true) (h : glB X x = true := by kernel_rfl) : VE X cl W (.Name x pos) (sC (.str z)) := let ⟨a, b⟩ := glB_of h; const_ve (pe_glob (v := .str z) a hm ⟨t, rfl⟩ b) fun _ => .str z (strB_of hz)
theorem kNil : VA X cl W [] [] := va_nil
theorem kCons {e : Expr} {es : List Expr} {m : Sx Opd} {ms : List (Sx Opd)} (h : VO X cl W e m) (hs : VA X cl W es ms) (hst : starEach (e :: es) X.env = (false, eval e X.env) :: starEach es X.env := by rfl) : VA X cl W (e :: es) (m :: ms) := va_cons h hs hst
noncomputable def pInA := orP pIn pDIn
noncomputable def pNotInA := orP pNotIn pDNotIn
noncomputable def pIxA := orP pIx pDIx
def pLenA := orP pLen pDLen
noncomputable def pSortedA := orP pSorted pDSorted
section
variable {a b c : Expr} {ma mb mc : Sx Opd}
theorem kAdd (ha : VO X cl W a ma) (hb : VO X cl W b mb) : VE X cl W (.BinOp a .Add b pos) (sPrim pAdd [ma, mb]) := ve_op op_addP ha hb
theorem kSub (ha : VO X cl W a ma) (hb : VO X cl W b mb) : VE X cl W (.BinOp a .Sub b pos) (sPrim pSub [ma, mb]) := ve_op op_subP ha hb
theorem kMul (ha : VO X cl W a ma) (hb : VO X cl W b mb) : VE X cl W (.BinOp a .Mult b pos) (sPrim pMul [ma, mb]) := ve_op op_mulP ha hb
theorem kFdiv (ha : VO X cl W a ma) (hb : VO X cl W b mb) : VE X cl W (.BinOp a .FloorDiv b pos) (sPrim pFdiv [ma, mb]) := ve_op op_fdivP ha hb
theorem kMod (ha : VO X cl W a ma) (hb : VO X cl W b mb) : VE X cl W (.BinOp a .Mod b pos) (sPrim pMod [ma, mb]) := ve_op op_modP ha hb
theorem kPow (ha : VO X cl W a ma) (hb : VO X cl W b mb) : VE X cl W (.BinOp a .Pow b pos) (sPrim pPow [ma, mb]) := ve_op op_powP ha hb
theorem kNeg (ha : VO X cl W a ma) : VE X cl W (.UnaryOp .USub a pos) (sPrim pNeg1 [ma]) := ve_neg ha
structure CmpS (X : Cx) (cl : Str → Option Addr) (op : CmpOp) (p : List D → Option Vl) : Prop where
  r : OpR X (compareOp op) (rP2 (gl X cl) p)
theorem cLt : CmpS X cl .Lt pLt := ⟨op_ltP⟩
theorem cLe : CmpS X cl .LtE pLe := ⟨op_leP⟩
theorem cGt : CmpS X cl .Gt pGt := ⟨op_gtP⟩
theorem cEq (hu : X.A.units + 65 < cLine) : CmpS X cl .Eq pEq := ⟨op_eqP (by omega)⟩
theorem cNe (hu : X.A.units + 65 < cLine) : CmpS X cl .NotEq pNe := ⟨op_neP (by omega)⟩
theorem cIn (hu : X.A.units + 65 < cLine) : CmpS X cl .In pInA := ⟨opP_or (op_inP hu) (op_dinP hu)⟩
theorem cNotIn (hu : X.A.units + 65 < cLine) : CmpS X cl .NotIn pNotInA := ⟨opP_or (op_notInP hu) (op_dnotInP hu)⟩
theorem cIsNot : CmpS X cl .IsNot pIsNot := ⟨op_isNotP⟩
variable {op op' : CmpOp} {p q : List D → Option Vl}
theorem kCmp (ho : CmpS X cl op p) (ha : VO X cl W a ma) (hb : VO X cl W b mb) (hm : behindInMarks op b = false := by first | with_unfolding_all rfl | exact nomark _) : VE X cl W (.Compare a [op] [b] pos) (sPrim p [ma, mb]) := ve_cmp ho.r ha hb hm
theorem tCmp (ho : CmpS X cl op p) (ha : VO X cl W a ma) (hb : VO X cl W b mb) (hm : behindInMarks op b = false := by first | with_unfolding_all rfl | exact nomark _) : VT X cl W (.Compare a [op] [b] pos) (tBool (sPrim p [ma, mb])) := vt_cmp ho.r ha hb hm
theorem kChain (ho : CmpS X cl op p) (ho' : CmpS X cl op' q) (ha : VO X cl W a ma) (hb : VO X cl W b mb) (hc : VO X cl W c mc) (hm : lastMarks [op, op'] [b, c] = false := by with_unfolding_all rfl) : VE X cl W (.Compare a [op, op'] [b, c] pos) (sChain p q ma mb mc) := ve_chain ho.r ho'.r ha hb hc hm
theorem tChain1 (ho : CmpS X cl op p) (ho' : CmpS X cl op' q) (ha : VO X cl W a ma) (hb : VO X cl W b mb) (hc : VO X cl W c mc) (hm : lastMarks [op, op'] [b, c] = false := by with_unfolding_all rfl) : VT X cl W (.Compare a [op, op'] [b, c] pos) (tBool (sChain p q ma mb mc)) := vt_chain ho.r ho'.r ha hb hc hm
theorem kIx (hu : X.A.units + 65 < cLine) (ha : VO X cl W a ma) (hb : VO X cl W b mb) (hs : PlainIx b := by intro _ _; rfl) : VE X cl W (.Subscript a b pos) (sPrim pIxA [ma, mb]) := ve_ix (ixP_or ix_P (ix_dicP hu)) ha hb hs
theorem tNot1 {t : Sx Bool} (hc : VT X cl W c t) : VT X cl W (.UnaryOp .Not c pos) (tNot t) := vt_not hc
theorem tTru (hc : VO X cl W c mc) (he : ∀ whole, isTrue c X.env whole = (do let v ← whole; standAt c.pos; holding [v] (truthy v)) := by intro _; rfl) : VT X cl W c (tVal mc) := vt_truth hc he
theorem wAnd1 {t : Sx Bool} (h : VT X cl W c t) : VW X cl W (.BoolOp .And [c] pos) t := vw_and1 h
theorem wOr1 {t : Sx Bool} (h : VT X cl W c t) : VW X cl W (.BoolOp .Or [c] pos) t := vw_or1 h
theorem wAnd {d : Expr} {rest : List Expr} {t u : Sx Bool} (h : VT X cl W c t) (h' : VW X cl W (.BoolOp .And (d :: rest) pos) u) : VW X cl W (.BoolOp .And (c :: d :: rest) pos) (Ev.tAnd t u) := vw_and h h'
theorem wOr {d : Expr} {rest : List Expr} {t u : Sx Bool} (h : VT X cl W c t) (h' : VW X cl W (.BoolOp .Or (d :: rest) pos) u) : VW X cl W (.BoolOp .Or (c :: d :: rest) pos) (Ev.tOr t u) := vw_or h h'
theorem tW {e : Expr} {t : Sx Bool} (h : VW X cl W e t) : VT X cl W e t := h.pt
theorem kOne {op : BoolOp} {m : Sx Vl} (h : VE X cl W c m) : VE X cl W (.BoolOp op [c] pos) m := ve_one h
theorem kAnd {d : Expr} {rest : List Expr} {m n : Sx Vl} (h : VE X cl W c m) (h' : VE X cl W (.BoolOp .And (d :: rest) pos) n) : VE X cl W (.BoolOp .And (c :: d :: rest) pos) (sAnd m n) := ve_and h h'
theorem kNot (hc : VO X cl W c mc) : VE X cl W (.UnaryOp .Not c pos) (sNot mc) := ve_not hc
end
theorem kTup {es : List Expr} {ms : List (Sx Opd)} {j : Nat} (h : VA X cl W es ms) : VE X cl W (.Tuple es j pos) (sTup ms) := ve_tup h
theorem kLst {es : List Expr} {ms : List (Sx Opd)} (h : VA X cl W es ms) : VE X cl W (.List es pos) (sLst ms) := ve_lst h
theorem pNone : PO X none (tPt (gl X cl) W (oPart none)) := vp_none
theorem pSome {c : Expr} {m : Sx Opd} (h : VO X cl W c m) : PO X (some c) (tPt (gl X cl) W (oPart (some m))) := vp_some h
theorem kSlice {c : Expr} {m : Sx Opd} {lo hi : Option Expr} {ml mh : Option (Sx Opd)} (h : VO X cl W c m) (hl : PO X lo (tPt (gl X cl) W (oPart ml))) (hh : PO X hi (tPt (gl X cl) W (oPart mh))) : VE X cl W (.Subscript c (.Slice lo hi none pos2) pos) (sSlice m ml mh) := ve_slice h hl hh
theorem kRev {c : Expr} {m : Sx Opd} {k : Nat} {p1 p2 p3 : Pos} (h : VO X cl W c m) : VE X cl W (.Subscript c (.Slice none none (some (.UnaryOp .USub (.Constant (.int 1) k p1) p2)) p3) pos) (sRev m) := ve_rev h
def HAt (K : PySem.W.Frag) (cl : Str → Option Addr) (at_ : Str → Str → Bool) : Prop := ∀ c f C, at_ c f = true → cl c = some C → Cls K C ∧ NoAttr K C f
theorem kFld {at_ : Str → Str → Bool} (hat : HAt X.K cl at_) {c : Expr} {f : Str} {m : Sx Opd} (h : VO X cl W c m) (hb : attributeBase c f X.env (eval c X.env) = eval c X.env := by rfl) : VE X cl W (.Attribute c f pos) (sFld at_ f m) := ve_fld hat h hb
section
variable {e : Expr} {es : List Expr} {ms : List (Sx Opd)} {p : List D → Option Vl}
def isB (id : String) : Value → Bool
  | .builtin n => n == id
  | _ => false
def isTy (T : String) : Value → Bool
  | .type n => n == T
  | _ => false
theorem btB_of {v : Value → Bool} (h : btB X x v = true) : Gl X x ∧ (x == ("__debug__" : Str)) = false ∧ x ≠ "__name__" ∧ ∃ u, bootBuiltins x = some u ∧ v u = true := by
  unfold btB at h
  simp only [Bool.and_eq_true, Bool.not_eq_true', decide_eq_false_iff_not] at h
  obtain ⟨⟨h1, h2⟩, h3⟩ := h
  obtain ⟨g1, g2⟩ := glB_of h1
  refine ⟨g1, g2, h2, ?_⟩
  split at h3
  · exact ⟨_, by assumption, h3⟩
  · cases h3
theorem kCallB {id : String} (hc : CallR X (.builtin id) (rPs (gl X cl) p)) (hm : X.mg x = none) (ha : VA X cl W (e :: es) ms) (h : btB X x (isB id) = true := by kernel_rfl)
    (he : starEach (e :: es) X.env = (false, eval e X.env) :: starEach es X.env := by rfl) (hpl : (backTo pos (starEach es X.env)).any (·.1) = false := by rfl) : VE X cl W (.Call (.Name x pos2) (e :: es) [] pos) (sPrim p ms) := by
  obtain ⟨a, b, c, u, hu, hv⟩ := btB_of h
  unfold isB at hv
  split at hv
  · have := beq_iff_eq.mp hv
    subst this
    exact ve_callB hc a hm hu ha c b he hpl
  · cases hv
theorem kCallTy {T : String} (hc : CallR X (.type T) (rPs (gl X cl) p)) (hm : X.mg x = none) (ha : VA X cl W (e :: es) ms) (h : btB X x (isTy T) = true := by kernel_rfl)
    (he : starEach (e :: es) X.env = (false, eval e X.env) :: starEach es X.env := by rfl) (hpl : (backTo pos (starEach es X.env)).any (·.1) = false := by rfl) : VE X cl W (.Call (.Name x pos2) (e :: es) [] pos) (sPrim p ms) := by
  obtain ⟨a, b, c, u, hu, hv⟩ := btB_of h
  unfold isTy at hv
  split at hv
  · have := beq_iff_eq.mp hv
    subst this
    exact ve_callTy hc a hm hu ha c b he hpl
  · cases hv
theorem bLen : CallR X (.builtin "len") (rPs (gl X cl) pLenA) := callP_or cr_len cr_dlenP
theorem bSorted (hc : X.calm = true) (hu : X.A.units + 65 < cLine) : CallR X (.builtin "sorted") (rPs (gl X cl) pSortedA) := callP_or (cr_sortedP (by omega)) (cr_dsortedP hc (by omega))
end
theorem kIsi {u : Str} {T : String} {f : String → Option Bool} {p1 p2 : Pos} {e : Expr} {m : Sx Opd} (hf : ∀ t b, f t = some b → kitB t T = some b) (he : VO X cl W e m) (hm : X.mg "isinstance" = none) (hm2 : X.mg u = none) (h : btB X "isinstance" (isB "isinstance") = true := by kernel_rfl) (h2 : btB X u (isTy T) = true := by kernel_rfl)
    (hs : starEach [e, .Name u p2] X.env = (false, eval e X.env) :: starEach [.Name u p2] X.env := by rfl) (hs2 : starEach [.Name u p2] X.env = (false, eval (.Name u p2) X.env) :: starEach [] X.env := by rfl) (hpl : (backTo pos (starEach [.Name u p2] X.env)).any (·.1) = false := by rfl) :
    VE X cl W (.Call (.Name "isinstance" p1) [e, .Name u p2] [] pos) (sPrim (pIsi f) [m]) := by
  obtain ⟨a, b, c, v, hv, hv2⟩ := btB_of h
  obtain ⟨a2, b2, c2, v2, hw, hw2⟩ := btB_of h2
  unfold isB at hv2
  split at hv2
  · have := beq_iff_eq.mp hv2
    subst this
    unfold isTy at hw2
    split at hw2
    · have := beq_iff_eq.mp hw2
      subst this
      exact ve_isi hf he a hm hv c b a2 hm2 hw c2 b2 hs hs2 hpl
    · cases hw2
  · cases hv2
end
end Ev
set_option Elab.async false
set_option linter.all false
set_option autoImplicit false
set_option maxRecDepth 100000
namespace Ev
open PySem L2 PySem.Spec PyProof.Rows
section
variable {X : Cx} {cl : Str → Option Addr} {W : WX} {pos pos2 : Pos} {x : Str} {i : Nat}
abbrev VG (X : Cx) (e : Expr) (t : Tg) : Prop := PG X e (gTg X.K t)
abbrev VGs (X : Cx) (es : List Expr) (is : List Nat) : Prop := PGs X es (is.foldr (fun i t => gCons (gName i) t) gNil)
theorem g1 (hN : X.N.Nodup) (i : Nat) (h : tgB X i x = true := by kernel_rfl) : VG X (.Name x pos) (.one i) := let ⟨a, b, c⟩ := tgB_of h; pg_name hN a b c
theorem gsNil : VGs X [] [] := pgs_nil
theorem gsCons (hN : X.N.Nodup) (i : Nat) {es : List Expr} {is : List Nat} (t : VGs X es is) (h : tgB X i x = true := by kernel_rfl) (hs : (assignEach (.Name x pos :: es) X.env).map (·.2) = assign (.Name x pos) X.env :: (assignEach es X.env).map (·.2) := by rfl) : VGs X (.Name x pos :: es) (i :: is) :=
  let ⟨a, b, c⟩ := tgB_of h; pgs_cons (pg_name hN a b c) t hs
theorem gN {es : List Expr} {is : List Nat} {k : Nat} (hc : X.calm = true) (t : VGs X es is) (hn : (assignEach es X.env).length = is.length := by rfl) (hst : (assignEach es X.env).findIdx? (·.1) = none := by rfl) : VG X (.Tuple es k pos) (.many is) := pg_tup hc t hn hst
theorem iSeq1 {tg l : Expr} {m : Sx Opd} (h : VO X cl W l m) : VI X cl W tg l (sSeq m) := vi_seq h
theorem iRange1 {tg a : Expr} {m : Sx Opd} (hm : X.mg "range" = none) (ha : VA X cl W [a] [m]) (h : glB X "range" = true := by kernel_rfl) (hs : starEach [a] X.env = [(false, eval a X.env)] := by rfl) : VI X cl W tg (.Call (.Name "range" pos2) [a] [] pos) (sRange [m]) := vi_range1 (glB_of h).1 hm ha hs
theorem iRange2 {tg a b : Expr} {m n : Sx Opd} (hm : X.mg "range" = none) (ha : VA X cl W [a, b] [m, n]) (h : glB X "range" = true := by kernel_rfl) (hs : starEach [a, b] X.env = [(false, eval a X.env), (false, eval b X.env)] := by rfl) (hs2 : starEach [b] X.env = [(false, eval b X.env)] := by rfl) :
    VI X cl W tg (.Call (.Name "range" pos2) [a, b] [] pos) (sRange [m, n]) := vi_range2 (glB_of h).1 hm ha hs hs2
theorem iZip1 {a b : Expr} {m n : Sx Opd} {elts : List Expr} {kk : Nat} {tpos : Pos} (hm : X.mg "zip" = none) (ha : VA X cl W [a, b] [m, n]) (h : glB X "zip" = true := by kernel_rfl) (hs : starEach [a, b] X.env = (false, eval a X.env) :: starEach [b] X.env := by rfl) (hpl : (backTo pos (starEach [b] X.env)).any (·.1) = false := by rfl) :
    VI X cl W (.Tuple elts kk tpos) (.Call (.Name "zip" pos2) [a, b] [] pos) (sZip m n) := vi_zip (glB_of h).1 hm ha hs hpl
abbrev Blk (X : Cx) (scope : Scope) (P : Cx → Prop) : Prop := ∀ (s : Shared) (H : Hp) (C : Addr) (cl : List (Str × Addr)) (fp : List Addr), P (X.blk s H scope (compEnvC scope cl C X.env) fp)
structure Tst (X : Cx) (cl : Str → Option Addr) (ifs : List Expr) (t : Sx Bool) : Prop where
  ex : ∃ tt, PTs X ifs tt ∧ ∀ σ H Q, tT (gl X cl) W0 t σ H Q → tt σ H Q
inductive CIf (X : Cx) (cl : Str → Option Addr) (scope : Scope) : List Expr → Sx Bool → Prop
  | none : CIf X cl scope [] tTrue
  | one {c : Expr} {t : Sx Bool} (h : Blk X scope fun Y => VT Y cl W0 c t) : CIf X cl scope [c] t
theorem kComp {elt tgt iter : Expr} {ifs : List Expr} {scope : Scope} (own : List (Str × Nat)) {tg : Tg} {s : Sx Src} {t : Sx Bool} {el : Sx Opd} (hc : X.calm = true) (hN : X.N.Nodup) (hi : VI X cl W tgt iter s) (hg : Blk X scope fun Y => VG Y tgt tg) (ht : CIf X cl scope ifs t) (he : Blk X scope fun Y => VO Y cl W0 elt el)
    (ok : blkC X.N X.env.scope scope own = true := by kernel_rfl) (hs : ∀ x, foldedSetIterable iter X.env x = pure x := by intro _; rfl) : VE X cl W (.ListComp elt [⟨tgt, iter, ifs, 0⟩] scope pos) (sComp (own.map (·.2)) tg s t el) := by
  cases ht with
  | none => exact ve_comp (tt := tYes) yes_of hc hN hi (blkOk_by ok) hg (fun _ _ _ _ _ => pts_nil) he hs
  | one h => exact ve_comp (tt := tT (gl X cl) W0 t) (fun _ _ _ z => z) hc hN hi (blkOk_by ok) hg (fun a b c d e => pts_one (h a b c d e)) he hs
theorem sCompS {y : Str} {py spos : Pos} {elt tgt iter : Expr} {ifs : List Expr} {scope : Scope} (own : List (Str × Nat)) {tg : Tg} {s : Sx Src} {t : Sx Bool} {el : Sx Opd} (i : Nat) (hc : X.calm = true) (hN : X.N.Nodup) (hi : VI X cl W tgt iter s) (hg : Blk X scope fun Y => VG Y tgt tg) (ht : CIf X cl scope ifs t) (he : Blk X scope fun Y => VO Y cl W0 elt el)
    (hy : (decide (X.N[i]? = some y) && decide (X.env.scope.names.lookup y = some .local)) = true := by kernel_rfl) (hsw : swapsWith (.ListComp elt [⟨tgt, iter, ifs, 0⟩] scope pos) (some (.Name y py)) spos.line X.env = pure true := by rfl)
    (ok : blkC X.N X.env.scope scope own = true := by kernel_rfl) (hs : ∀ x, foldedSetIterable iter X.env x = pure x := by intro _; rfl) :
    VS X cl W (.Assign [.Name y py] (.ListComp elt [⟨tgt, iter, ifs, 0⟩] scope pos) spos) (sAsg (sComp (own.map (·.2)) tg s t el) i) := by
  rw [Bool.and_eq_true, decide_eq_true_eq, decide_eq_true_eq] at hy
  cases ht with
  | none => exact vs_setComp (tt := tYes) yes_of hc hN hy.1 hy.2 hsw hi (blkOk_by ok) hg (fun _ _ _ _ _ => pts_nil) he hs
  | one h => exact vs_setComp (tt := tT (gl X cl) W0 t) (fun _ _ _ z => z) hc hN hy.1 hy.2 hsw hi (blkOk_by ok) hg (fun a b c d e => pts_one (h a b c d e)) he hs
theorem kDComp {kx vx tgt iter : Expr} {ifs : List Expr} {scope : Scope} (own : List (Str × Nat)) {tg : Tg} {s : Sx Src} {t : Sx Bool} {mk mv : Sx Opd} (hu : X.A.units + 65 < cLine) (hc : X.calm = true) (hN : X.N.Nodup) (hi : VI X cl W tgt iter s) (hg : Blk X scope fun Y => VG Y tgt tg) (ht : CIf X cl scope ifs t) (hk : Blk X scope fun Y => VO Y cl W0 kx mk) (he : Blk X scope fun Y => VO Y cl W0 vx mv)
    (ok : blkC X.N X.env.scope scope own = true := by kernel_rfl) (hs : ∀ x, foldedSetIterable iter X.env x = pure x := by intro _; rfl) : VE X cl W (.DictComp kx vx [⟨tgt, iter, ifs, 0⟩] scope pos) (sDComp (own.map (·.2)) tg s t mk mv) := by
  cases ht with
  | none => exact ve_dcomp hu (tt := tYes) yes_of hc hN hi (blkOk_by ok) hg (fun _ _ _ _ _ => pts_nil) hk he hs
  | one h => exact ve_dcomp hu (tt := tT (gl X cl) W0 t) (fun _ _ _ z => z) hc hN hi (blkOk_by ok) hg (fun a b c d e => pts_one (h a b c d e)) hk he hs
section
variable {C f : Addr} {fd : FuncData} {ps : List Str} {sp : Sp} {ds : List Value} {dvs : List V} {k : Nat} {CX : CXT} {p : Pos} {e : Expr} {es : List Expr} {t : TA}
theorem run_makeSD {E : XK} {pins : List (Addr × Obj)} {σ : L2.St} {H : Hp} {s : Shared} {Q : VK} {us : List Value} {vs : List V} (M : Mk X.K C f) (F : FnOk X.prog X.w X.K X.mg X.base CX k f fd ps sp) (hr : Room (k + 1) X.A) (hb : Binds X.K fd ps ds) (hd : Vals dvs ds)
    (hx : PassesAt CX X σ E) (I : Inv X pins σ H s) (r : Vals vs us)
    (h : ∀ x dx, H x = none → H dx = none → dx ≠ x → sp (.ref x :: (vs ++ dvs)) (upd (upd H dx (.own x)) x (.ins C dx [])) (fun v H2 => v = .non ∧ Q (.ref x) H2) E) :
    wpAny (model X.prog X.w) X.A (call (.ref C) us) (EP X pins σ Q) X.xe s := by
  have hq := h (s.heap.objs.size + 1) s.heap.objs.size (I.hok.fresh (Nat.le_succ _)) (I.hok.fresh (Nat.le_refl _)) (Nat.ne_of_lt (Nat.lt_succ_self _))
  have I2 := Inv.made (C := C) I
  have r2 : Vals (V.ref (s.heap.objs.size + 1) :: (vs ++ dvs)) (Value.ref (s.heap.objs.size + 1) :: (us ++ ds)) := .cons rfl (r.append hd)
  have hl : (Value.ref (s.heap.objs.size + 1) :: us ++ ds).length = ps.length := by
    have e := r2.length
    rw [F.len _ _ _ _ hq] at e
    exact e.symm
  refine wpAny_call (make_map (f := f) I.kIn M.makes M.init (beq_iff_eq.mp M.fn) (codeAny_mono (F.run _ X.stack _ _ ⟨Value.ref (s.heap.objs.size + 1) :: us, []⟩ (Value.ref (s.heap.objs.size + 1) :: (us ++ ds)) _ _ E (hr.make C us [])
    (I2.env0.make C us []) (hb _ (Value.ref (s.heap.objs.size + 1) :: us) I2.kIn hl) r2 hq) fun r s' hq' => ?_))
  cases r with
  | error e => exact hx pins _ _ e s' I2 hq'
  | ok fl =>
    cases fl with
    | ret u =>
      obtain ⟨v, H', I3, rv, ev, q3⟩ := I2.after hq'
      subst ev
      exact ⟨rv, ⟨V.ref (s.heap.objs.size + 1), H', I3, rfl, q3⟩⟩
    | next => exact False.elim hq'
    | brk => exact False.elim hq'
    | cont => exact False.elim hq'
theorem pe_makeSD {E : L2.St → XK} (M : Mk X.K C f) (F : FnOk X.prog X.w X.K X.mg X.base CX k f fd ps sp) (hr : Room (k + 1) X.A) (hg : Gl X x) (hm : X.mg x = some (.ref C)) (hb : Binds X.K fd ps ds) (hd : Vals dvs ds) (hx : ∀ σ, PassesAt CX X σ (E σ))
    (ha : PA X (e :: es) t) (hdb : (x == ("__debug__" : Str)) = false := by decide) (he : starEach (e :: es) X.env = (false, eval e X.env) :: starEach es X.env := by rfl) (hpl : (backTo pos (starEach es X.env)).any (·.1) = false := by rfl) :
    PE X (.Call (.Name x p) (e :: es) [] pos) (fun σ H Q => tMake C sp dvs (E σ) t σ H Q) := by
  refine ⟨fun pins s σ H Q I h => ?_⟩
  refine wpAny_Call_Name_kw (ld_glob I hg hm ?_ hdb)
  refine PySem.W.callWith_K (h₀ := X.base) I.ok.mod.kin M.kp (thn (ha.run pos pins s σ H _ I h) fun us s1 ⟨vs, H1, I1, r, q⟩ => ⟨I1.kIn, ?_⟩) he hpl
  exact run_makeSD M F hr hb hd (hx σ) I1 r q
end
abbrev CX0' : CXT := fun _ _ _ _ _ _ => False
structure FnD (P : Program) (w : World) (K : PySem.W.Frag) (mg : Str → Option Value) (base : Heap) (k : Nat) (x : Str) (n : Nat) (sp : Sp) : Prop where
  ex : ∃ f fd ps, FnOk P w K mg base CX0' k f fd ps sp ∧ mg x = some (.ref f) ∧ PySem.W.keepIn K (.ref f) = true ∧ Binds K fd ps []
structure ClD (P : Program) (w : World) (K : PySem.W.Frag) (mg : Str → Option Value) (base : Heap) (cl : Str → Option Addr) (k : Nat) (x : Str) (sp : Sp) : Prop where
  ex : ∃ C f fd ps, cl x = some C ∧ Mk K C f ∧ FnOk P w K mg base CX0' k f fd ps sp ∧ mg x = some (.ref C) ∧ Binds K fd ps []
section
variable {a : Expr} {es : List Expr} {ms : List (Sx Opd)} {modes : List Bool} {k k' : Nat}
theorem kCall {F : List D → Res Vl} (FO : FnD X.prog X.w X.K X.mg X.base k x modes.length (spFn (gl X cl) modes F)) {A : Around} (hr : Room k' A) (hk : k ≤ k') (ha : VA X cl W (a :: es) ms) (h : glB X x = true := by kernel_rfl) (eA : X.A = A := by rfl)
    (he : starEach (a :: es) X.env = (false, eval a X.env) :: starEach es X.env := by rfl) (hpl : (backTo pos (starEach es X.env)).any (·.1) = false := by rfl) : VE X cl W (.Call (.Name x pos2) (a :: es) [] pos) (sCall modes F ms) := by
  subst eA
  obtain ⟨f, fd, ps, ok, hm, hkp, hb⟩ := FO.ex
  obtain ⟨g1, g2⟩ := glB_of h
  exact ve_call (CX := CX0') ok (hr.mono hk) g1 hm hkp hb (fun _ _ _ _ _ _ _ z => z.elim) ha g2 he hpl
theorem kCallBx {F : D → List D → ResB} (FO : FnD X.prog X.w X.K X.mg X.base k x modes.length (spBx (gl X cl) modes F)) {A : Around} (hr : Room k' A) (hk : k ≤ k') (i : Nat) (ha : VA X cl W (a :: es) (oName i :: ms)) (h : glB X x = true := by kernel_rfl) (eA : X.A = A := by rfl)
    (he : starEach (a :: es) X.env = (false, eval a X.env) :: starEach es X.env := by rfl) (hpl : (backTo pos (starEach es X.env)).any (·.1) = false := by rfl) : VE X cl W (.Call (.Name x pos2) (a :: es) [] pos) (sCallB modes F i ms) := by
  subst eA
  obtain ⟨f, fd, ps, ok, hm, hkp, hb⟩ := FO.ex
  obtain ⟨g1, g2⟩ := glB_of h
  exact ve_callB' (CX := CX0') ok (hr.mono hk) g1 hm hkp hb (fun _ _ _ _ _ _ _ z => z.elim) ha g2 he hpl
theorem kMake {F : D → List D → ResB} (FO : ClD X.prog X.w X.K X.mg X.base cl k x (spBx (gl X cl) modes F)) {A : Around} (hr : Room k' A) (hk : k + 1 ≤ k') (ha : VA X cl W (a :: es) ms) (h : glB X x = true := by kernel_rfl) (eA : X.A = A := by rfl)
    (he : starEach (a :: es) X.env = (false, eval a X.env) :: starEach es X.env := by rfl) (hpl : (backTo pos (starEach es X.env)).any (·.1) = false := by rfl) : VE X cl W (.Call (.Name x pos2) (a :: es) [] pos) (sMake x modes F ms) := by
  subst eA
  obtain ⟨C, f, fd, ps, hC, MK, ok, hm, hb⟩ := FO.ex
  obtain ⟨g1, g2⟩ := glB_of h
  exact ve_make (CX := CX0') hC MK ok (hr.mono hk) g1 hm hb (fun t hp => pe_makeSD (E := WAt W) MK ok (hr.mono hk) g1 hm hb .nil (fun _ _ _ _ _ _ _ z => z.elim) hp g2 he hpl) ha
end
section
variable {nm : Str} {pp apos cpos : Pos} {e o : Expr} {es : List Expr} {ms : List (Sx Opd)} {m : Sx Opd} {name : Str}
structure MthM (X : Cx) (cl : Str → Option Addr) (name : Str) (T : MTy) (p : D → List D → Option (D × D)) (modes : List Bool) : Prop where
  ex : ∃ id, PlainAttrs T.nm ∧ PySem.Slot T.nm name id ∧ typeOf (.builtin id) = pure (.type "method_descriptor") ∧ MtR X id (rMut (gl X cl) modes p)
structure MthV (X : Cx) (cl : Str → Option Addr) (name : Str) (T : MTy) (p : List D → Option Vl) : Prop where
  ex : ∃ id, PlainAttrs T.nm ∧ PySem.Slot T.nm name id ∧ typeOf (.builtin id) = pure (.type "method_descriptor") ∧ MtR X id (rVM (gl X cl) p)
theorem mAppend : MthM X cl "append" .lst pAppend [false] := ⟨_, F.plainAttrs_list, F.slot_list_append, F.type_list_append, mt_appendP⟩
theorem kMeth {T : MTy} {p : D → List D → Option (D × D)} {modes : List Bool} (M : MthM X cl name T p modes) (i : Nat) (ha : VA X cl W (e :: es) ms) (h : nmB X i nm = true := by kernel_rfl)
    (hbase : attributeBase (.Name nm pp) name X.env (eval (.Name nm pp) X.env) = eval (.Name nm pp) X.env := by rfl)
    (hfew : ((backTo cpos (starEach (e :: es) X.env)).all (fun x => !x.1) && (backToKw cpos (keywordEach [] X.env)).all (fun x => x.1.isSome)
      && decide ((e :: es).length + ([] : List Keyword).length + (if ([] : List Keyword).isEmpty then 0 else 1) < 30)) = true := by rfl)
    (hline : (apos.endLine == cpos.line) = true := by rfl) (hs : starEach (e :: es) X.env = (false, eval e X.env) :: starEach es X.env := by rfl) (hplain : (backTo cpos (starEach es X.env)).any (·.1) = false := by rfl) :
    VE X cl W (.Call (.Attribute (.Name nm pp) name apos) (e :: es) [] cpos) (sMeth T p modes i ms) := by
  obtain ⟨id, a, b, c, d⟩ := M.ex
  obtain ⟨n1, n2, n3, n4⟩ := nmB_of h
  exact ve_meth a b c d n1 n2 n3 n4 ha hbase hfew hline hs hplain
end
section
variable {st : Stmt} {rest body : List Stmt} {a b : SS} {ex c : Expr} {m : Sx Vl} {t : Sx Bool}
theorem zNil : VSs X cl W [] sSkip := vs_nil
theorem zCons (h1 : VS X cl W st a) (h2 : VSs X cl W rest b) : VSs X cl W (st :: rest) (sThen a b) := vs_cons h1 h2
theorem zOne (h1 : VS X cl W st a) : VSs X cl W [st] a := vs_one h1
theorem zSet (hN : X.N.Nodup) (i : Nat) (he : VE X cl W ex m) (h : tgB X i x = true := by kernel_rfl) (hs : swapsWith ex (some (.Name x pos2)) pos.line X.env = pure false := by rfl) : VS X cl W (.Assign [.Name x pos2] ex pos) (sAsg m i) := let ⟨a, b, c⟩ := tgB_of h; vs_set hN a b he hs c
theorem zIf {u v : SS} {l1 l2 : List Stmt} (hc : VT X cl W c t) (ha : VSs X cl W l1 u) (hb : VSs X cl W l2 v) : VS X cl W (.If c l1 l2 pos) (sIfS t u v) := vs_if hc ha hb
theorem zRet (he : VE X cl W ex m) : VS X cl W (.Return (some ex) pos) (sRet m) := vs_ret he
theorem zRetName (i : Nat) (h : nmB X i x = true := by kernel_rfl) : VS X cl W (.Return (some (.Name x pos2)) pos) (sRetName i) := let ⟨a, b, c, d⟩ := nmB_of h; vs_retName a b c d
theorem zExpr (he : VE X cl W ex m) (hs : swapsWith ex none pos.line X.env = pure false := by rfl) : VS X cl W (.Expr ex pos) (sDrop m) := vs_expr he hs
theorem zFor {tgt iter : Expr} {tg : Tg} {s : Sx Src} (hp : PassesOwn (model X.prog X.w) X.A X.env X.xe) (hc : X.calm = true) (hi : VI X cl W tgt iter s) (hg : VG X tgt tg) (hb : VSs X cl W body b) (hs : ∀ x, foldedSetIterable iter X.env x = pure x := by intro _; rfl) : VS X cl W (.For tgt iter body [] pos) (sFor tg s b) := vs_for hp hc hi hg hb hs
theorem zSetI {k value : Expr} {mk : Sx Opd} {p : D → List D → Option D} {pp : Pos} (hset : PSet X (rSet1 (gl X cl) p)) (i : Nat) (hk : VO X cl W k mk) (he : VE X cl W value m) (h : nmB X i x = true := by kernel_rfl)
    (ha : ∀ v, assign (.Subscript (.Name x pp) k pos2) X.env v = (do
      let ov ← holding [v] (eval (.Name x pp) X.env)
      let iv ← holding [v, ov] (eval k X.env)
      standAt pos2
      holding [v, ov, iv] (setItem ov iv v)
      release [v, ov, iv] []) := by intro _; rfl)
    (hs : swapsWithSole [.Subscript (.Name x pp) k pos2] value pos.line X.env = pure false := by rfl) (hw : swappedStores [.Subscript (.Name x pp) k pos2] value X.env = pure none := by rfl)
    (h1 : (assignEach [.Subscript (.Name x pp) k pos2] X.env).map (·.2) = [assign (.Subscript (.Name x pp) k pos2) X.env] := by rfl) :
    VS X cl W (.Assign [.Subscript (.Name x pp) k pos2] value pos) (sSetI p i mk m) := let ⟨n1, n2, n3, n4⟩ := nmB_of h; vs_setItem hset n1 n2 n3 n4 hk he ha hs hw h1
theorem zSetF {at_ : Str → Str → Bool} {f : Str} {value : Expr} {pp : Pos} (hat : HAt X.K cl at_) (i : Nat) (he : VE X cl W value m) (h : nmB X i x = true := by kernel_rfl) (hs : swapsWith value (some (.Attribute (.Name x pp) f pos2)) pos.line X.env = pure false := by rfl) :
    VS X cl W (.Assign [.Attribute (.Name x pp) f pos2] value pos) (sSetF at_ f i m) := let ⟨n1, n2, n3, n4⟩ := nmB_of h; vs_setF hat n1 n2 n3 n4 he hs
end
end
section
variable {P : Program} {w : World} {K : PySem.W.Frag} {mg : Str → Option Value} {base : Heap} {cl : Str → Option Addr} {x qual : Str} {params : Arguments} {body : List Stmt} {scope : Scope} {f : Addr} {fd : FuncData} {N ps : List Str} {k : Nat}
theorem spFn_len {g : Gl0} {modes : List Bool} {F : List D → Res Vl} {vs : List V} {H : Hp} {Q : VK} {E : XK} (h : spFn g modes F vs H Q E) : vs.length = modes.length := by
  obtain ⟨M, ds, _, ar, _⟩ := h
  exact argR_len ar
theorem spBx_len {g : Gl0} {modes : List Bool} {F : D → List D → ResB} {vs : List V} {H : Hp} {Q : VK} {E : XK} (h : spBx g modes F vs H Q E) : vs.length = modes.length + 1 := by
  obtain ⟨b, o, d0, M, us, ds, rfl, _, _, _, _, ar, _⟩ := h
  simp [argR_len ar]
abbrev ctx (P : Program) (w : World) (K : PySem.W.Frag) (mg : Str → Option Value) (base : Heap) (N : List Str) (qual : Str) (scope : Scope) (f : Addr) (cdv : Value) (A : Around) (outer : List Env) (s : Shared) (H : Hp) (E : XK) : Cx := (cxOf CX0' P w K mg base N qual scope f cdv A outer s H E).nox
theorem def_ok {modes : List Bool} {t : SS} (F : FunD K x qual params body scope [] [] f fd) (S : FnScope N ps scope) (hl : modes.length = ps.length)
    (der : ∀ (cdv : Value) (A : Around) (outer : List Env) (s : Shared) (H : Hp) (E : XK), Room k (ctx P w K mg base N qual scope f cdv A outer s H E).A → VSs (ctx P w K mg base N qual scope f cdv A outer s H E) cl W0 body t) :
    FnOk P w K mg base CX0' (k + 1) f fd ps (spFn ⟨P, w, K, cl⟩ modes (runF t modes N.length)) :=
  F.ok S (fun vs H Q E h => (spFn_len h).trans hl) fun cdv A outer s H vs Q E hr h => ⟨_, (der cdv A outer s H E hr).nox, pure_fn h⟩
theorem bx_ok {m : Nat} {t : SS} (F : FunD K x qual params body scope [] [] f fd) (S : FnScope N ps scope) (hl : m + 1 = ps.length)
    (der : ∀ (cdv : Value) (A : Around) (outer : List Env) (s : Shared) (H : Hp) (E : XK), Room k (ctx P w K mg base N qual scope f cdv A outer s H E).A → VSs (ctx P w K mg base N qual scope f cdv A outer s H E) cl W0 body t) :
    FnOk P w K mg base CX0' (k + 1) f fd ps (spBx ⟨P, w, K, cl⟩ (List.replicate m false) (runB t m N.length)) :=
  F.ok S (fun vs H Q E h => by rw [spBx_len h, List.length_replicate]; exact hl) fun cdv A outer s H vs Q E hr h => ⟨_, (der cdv A outer s H E hr).nox, pure_bx h⟩
end
end Ev
set_option Elab.async false
set_option linter.all false
set_option autoImplicit false
set_option maxRecDepth 100000
namespace Ev
open PySem L2 PySem.Spec PyProof.Rows
theorem hu65 {k : Nat} {A : Around} (hr : Room k A) : A.units + 65 < cLine := by have := hr.un; omega
structure GInt (mg : Str → Option Value) (x : Str) (n : Int) : Prop where
  ex : ∃ t, mg x = some (.int n t)
structure GStr (mg : Str → Option Value) (x z : Str) : Prop where
  ex : ∃ t, mg x = some (.str z t)
  ok : strB z = true
theorem GInt.ve {mg : Str → Option Value} {x : Str} {n : Int} (h : GInt mg x n) {X : Cx} {cl : Str → Option Addr} {W : WX} {pos : Pos} (e : X.mg = mg := by rfl) (hb : glB X x = true := by kernel_rfl) : VE X cl W (.Name x pos) (sC (.int n)) := by
  obtain ⟨t, ht⟩ := h.ex
  exact kGInt (t := t) (by rw [e]; exact ht) hb
theorem GStr.ve {mg : Str → Option Value} {x z : Str} (h : GStr mg x z) {X : Cx} {cl : Str → Option Addr} {W : WX} {pos : Pos} (e : X.mg = mg := by rfl) (hb : glB X x = true := by kernel_rfl) : VE X cl W (.Name x pos) (sC (.str z)) := by
  obtain ⟨t, ht⟩ := h.ex
  exact kGStr (t := t) (by rw [e]; exact ht) h.ok hb
structure GIsi (K : PySem.W.Frag) (mg : Str → Option Value) (cl : Str → Option Addr) (c : Str) : Prop where
  ex : ∃ C, cl c = some C ∧ mg c = some (.ref C) ∧ (∀ (H : Hp) (a dx : Addr) (fs : List (Str × V)), H a = some (.ins C dx fs) → TyX K H (.ref a) (.ref C)) ∧ PySem.W.kitOne K (.ref C) (.ref C) = some true
  free : mg "isinstance" = none
theorem GIsi.ve {K : PySem.W.Frag} {mg : Str → Option Value} {cl : Str → Option Addr} {c : Str} (h : GIsi K mg cl c) {X : Cx} {W : WX} {pos p1 p2 : Pos} {e : Expr} {m : Sx Opd} (he : VO X cl W e m) (eK : X.K = K := by rfl) (eM : X.mg = mg := by rfl) (h1 : btB X "isinstance" (isB "isinstance") = true := by kernel_rfl) (h2 : glB X c = true := by kernel_rfl)
    (hs : starEach [e, .Name c p2] X.env = (false, eval e X.env) :: starEach [.Name c p2] X.env := by rfl) (hs2 : starEach [.Name c p2] X.env = (false, eval (.Name c p2) X.env) :: starEach [] X.env := by rfl) (hpl : (backTo pos (starEach [.Name c p2] X.env)).any (·.1) = false := by rfl) :
    VE X cl W (.Call (.Name "isinstance" p1) [e, .Name c p2] [] pos) (sPrim (pIsiO c) [m]) := by
  obtain ⟨C, hC, hm, hT, hk⟩ := h.ex
  obtain ⟨a, b, n, v, hv, hv2⟩ := btB_of h1
  obtain ⟨a2, b2⟩ := glB_of h2
  unfold isB at hv2
  split at hv2
  · have := beq_iff_eq.mp hv2
    subst this
    exact ve_isiO hC (by rw [eK]; exact hT) (by rw [eK]; exact hk) he a (by rw [eM]; exact h.free) hv n b a2 (by rw [eM]; exact hm) b2 hs hs2 hpl
  · cases hv2
def fIsi (T : String) (t : String) : Option Bool := if ["NoneType", "bool", "int", "str", "tuple", "list"].contains t = true then kitB t T else none
theorem fIsi_ok (T : String) : ∀ t b, fIsi T t = some b → kitB t T = some b := fun t b h => by
  unfold fIsi at h
  split at h
  · exact h
  · cases h
end Ev
set_option Elab.async false
set_option linter.all false
set_option autoImplicit false
set_option maxRecDepth 100000
namespace Ev
open PySem L2 PySem.Spec PyProof.Rows
end Ev
set_option Elab.async false
set_option linter.all false
set_option autoImplicit false
set_option maxRecDepth 100000
namespace Ev
open PySem
section
variable {i j : Int} {ds es : List D} {a b : Str} {x y : Bool}
@[simp] theorem pAdd_int : pAdd [.int i, .int j] = some (fz (.int (i + j))) := rfl
@[simp] theorem pSub_int : pSub [.int i, .int j] = some (fz (.int (i - j))) := rfl
@[simp] theorem pMul_r (n : Int) (h : -(2 ^ 64) < n ∧ n < 2 ^ 64) : pMul [.int i, .int n] = some (fz (.int (i * n))) := if_pos (.inr h)
@[simp] theorem pMul_l (n : Int) (h : -(2 ^ 64) < n ∧ n < 2 ^ 64) : pMul [.int n, .int i] = some (fz (.int (n * i))) := if_pos (.inl h)
@[simp] theorem pMod_int (h : j ≠ 0) : pMod [.int i, .int j] = some (fz (.int (i.fmod j))) := if_pos h
@[simp] theorem pFdiv_int (h : j ≠ 0 ∧ j.natAbs < 1073741824) : pFdiv [.int i, .int j] = some (fz (.int (i.fdiv j))) := if_pos h
@[simp] theorem pPow_int (h : 0 ≤ j ∧ j ≤ 1000000 ∧ i.natAbs < 2 ^ 64) : pPow [.int i, .int j] = some (fz (.int (i ^ j.toNat))) := if_pos h
theorem pAdd_str (h : a.length + b.length ≤ sizeLine) : pAdd [.str a, .str b] = some (fz (.str (a ++ b))) := if_pos h
theorem pAdd_lst (h : ds.length + es.length ≤ sizeLine) : pAdd [.lst ds, .lst es] = some (nw (.lst (ds ++ es))) := if_pos h
@[simp] theorem pNeg1_int : pNeg1 [.int i] = some (fz (.int (-i))) := rfl
@[simp] theorem pLt_int : pLt [.int i, .int j] = some (fz (.bl (decide (i < j)))) := rfl
@[simp] theorem pLe_int : pLe [.int i, .int j] = some (fz (.bl (decide (i ≤ j)))) := rfl
@[simp] theorem pGt_int : pGt [.int i, .int j] = some (fz (.bl (decide (j < i)))) := rfl
@[simp] theorem pGe_int : pGe [.int i, .int j] = some (fz (.bl (decide (j ≤ i)))) := rfl
@[simp] theorem pLt_str : pLt [.str a, .str b] = some (fz (.bl (decide (a.cps.toList < b.cps.toList)))) := rfl
@[simp] theorem pIxA_lst : pIxA [.lst ds, .int i] = (L2.atI ds i).map fz := by
  unfold pIxA orP
  show (match (L2.atI ds i).map fz with | some v => some v | none => pDIx [.lst ds, .int i]) = _
  cases L2.atI ds i <;> rfl
@[simp] theorem pIxA_tup : pIxA [.tup ds, .int i] = (L2.atI ds i).map fz := by
  unfold pIxA orP
  show (match (L2.atI ds i).map fz with | some v => some v | none => pDIx [.tup ds, .int i]) = _
  cases L2.atI ds i <;> rfl
@[simp] theorem pIxA_scr {ns : List Int} : pIxA [.scr ns, .int i] = (L2.atI ns i).map fun n => fz (.int n) := by
  unfold pIxA orP
  show (match (L2.atI ns i).map (fun n => fz (.int n)) with | some v => some v | none => pDIx [.scr ns, .int i]) = _
  cases L2.atI ns i <;> rfl
@[simp] theorem pIxA_dic {kvs : List (D × D)} {k : D} : pIxA [.dic kvs, k] = if dkOk kvs k = true then (dget kvs k).map fz else none := by
  unfold pIxA orP
  have : pIx [.dic kvs, k] = none := by cases k <;> rfl
  rw [this]
  rfl
@[simp] theorem pLenA_lst : pLenA [.lst ds] = some (fz (.int ds.length)) := rfl
@[simp] theorem pLenA_tup : pLenA [.tup ds] = some (fz (.int ds.length)) := rfl
@[simp] theorem pLenA_str : pLenA [.str a] = some (fz (.int a.length)) := rfl
@[simp] theorem pLenA_scr {ns : List Int} : pLenA [.scr ns] = some (fz (.int ns.length)) := rfl
@[simp] theorem pLenA_dic {kvs : List (D × D)} : pLenA [.dic kvs] = some (fz (.int kvs.length)) := rfl
@[simp] theorem pInt_int : pInt [.int i] = some (fz (.int i)) := rfl
@[simp] theorem pInt_bl : pInt [.bl x] = some (fz (.int (if x then 1 else 0))) := rfl
@[simp] theorem pAbs_int : pAbs [.int i] = some (fz (.int (if i < 0 then -i else i))) := rfl
@[simp] theorem pList_lst : pList [.lst ds] = some (nw (.lst ds)) := rfl
@[simp] theorem pList_tup : pList [.tup ds] = some (nw (.lst ds)) := rfl
@[simp] theorem pTuple_lst : pTuple [.lst ds] = some (fz (.tup ds)) := rfl
@[simp] theorem pTuple_tup : pTuple [.tup ds] = some (fz (.tup ds)) := rfl
@[simp] theorem pAll_bls (l : List Bool) : pAll [.lst (l.map D.bl)] = some (fz (.bl (l.all id))) := by show (D.bools (l.map D.bl)).map _ = _; rw [bools_map]; rfl
@[simp] theorem pAny_bls (l : List Bool) : pAny [.lst (l.map D.bl)] = some (fz (.bl (l.any id))) := by show (D.bools (l.map D.bl)).map _ = _; rw [bools_map]; rfl
@[simp] theorem pAppend_lst {d : D} (h : ds.length < sizeLine) : pAppend (.lst ds) [d] = some (.non, .lst (ds ++ [d])) := if_pos h
@[simp] theorem pExtend_lst (h : ds.length + es.length ≤ sizeLine) : pExtend (.lst ds) [.lst es] = some (.non, .lst (ds ++ es)) := if_pos h
@[simp] theorem atI0 {α : Type} {x : α} {l : List α} : L2.atI (x :: l) 0 = some x := by
  have : L2.ixN (x :: l).length 0 = some 0 := by unfold L2.ixN; rw [if_pos (by decide), if_pos (by simp)]; rfl
  unfold L2.atI
  rw [this]; rfl
@[simp] theorem atI1 {α : Type} {x y : α} {l : List α} : L2.atI (x :: y :: l) 1 = some y := by
  have : L2.ixN (x :: y :: l).length 1 = some 1 := by unfold L2.ixN; rw [if_pos (by decide), if_pos (by simp; omega)]; rfl
  unfold L2.atI
  rw [this]; rfl
@[simp] theorem atI2 {α : Type} {x y z : α} {l : List α} : L2.atI (x :: y :: z :: l) 2 = some z := by
  have : L2.ixN (x :: y :: z :: l).length 2 = some 2 := by unfold L2.ixN; rw [if_pos (by decide), if_pos (by simp; omega)]; rfl
  unfold L2.atI
  rw [this]; rfl
theorem atI_nat {α : Type} {l : List α} {i : Int} {n : Nat} (h : i = n) (hl : n < l.length) : L2.atI l i = some l[n] := by
  subst h
  have : L2.ixN l.length (n : Int) = some n := by unfold L2.ixN; rw [if_pos (by omega), if_pos (by omega)]; simp
  unfold L2.atI
  rw [this]
  simp [hl]
theorem atI_map {α β : Type} (f : α → β) (l : List α) (i : Int) : L2.atI (l.map f) i = (L2.atI l i).map f := by
  unfold L2.atI
  rw [List.length_map]
  cases L2.ixN l.length i with
  | none => rfl
  | some j => simp
@[simp] theorem pSetL_1 {x0 d v : D} : pSetL (.lst (x0 :: d :: ds)) [.int 1, v] = some (.lst (x0 :: v :: ds)) := by
  have : L2.ixN (x0 :: d :: ds).length 1 = some 1 := by unfold L2.ixN; rw [if_pos (by decide), if_pos (by simp; omega)]; rfl
  show (L2.ixN (x0 :: d :: ds).length 1).map _ = _
  rw [this]; rfl
@[simp] theorem truth_bl : truth (.bl x) = some x := rfl
@[simp] theorem truth_int : truth (.int i) = some (i != 0) := rfl
@[simp] theorem truth_lst : truth (.lst ds) = some (!ds.isEmpty) := rfl
end
section
variable {α : Type} {e : En} {m n : Sx Vl} {o o1 o2 : Sx Opd} {os : List (Sx Opd)} {t u : Sx Bool} {a b : SS} {i : Nat} {p q : List D → Option Vl}
@[simp] theorem e_skip : sSkip e = .nx e := rfl
@[simp] theorem e_then : sThen a b e = (match a e with | .nx e' => b e' | r => r) := rfl
@[simp] theorem e_asg : sAsg m i e = (match m e with | .ok v e' => .nx (e'.set i v.slot) | .exc x e' => .exc x e' | .stuck => .stuck) := rfl
@[simp] theorem e_ifS : sIfS t a b e = (match t e with | .ok k e' => if k = true then a e' else b e' | .exc x e' => .exc x e' | .stuck => .stuck) := rfl
@[simp] theorem e_ret : sRet m e = (match m e with | .ok v e' => .rt v e' | .exc x e' => .exc x e' | .stuck => .stuck) := rfl
@[simp] theorem e_retName : sRetName i e = (match e[i]? with | some (.sh d) => .rt (fz d) e | some (.ow d) => .rt (nw d) (e.set i .unb) | _ => .stuck) := rfl
@[simp] theorem e_drop : sDrop m e = (match m e with | .ok _ e' => .nx e' | .exc x e' => .exc x e' | .stuck => .stuck) := rfl
@[simp] theorem e_c {d : D} : sC d e = .ok (fz d) e := rfl
@[simp] theorem e_name : sName i e = (match e[i]? with | some (.sh d) => .ok (fz d) e | some (.ow d) => .ok (fz d) (e.set i (.sh d)) | _ => .stuck) := rfl
@[simp] theorem e_oName : oName i e = (match e[i]? with | some s => (match s.look with | some _ => .ok (.sl i) e | none => .stuck) | none => .stuck) := rfl
@[simp] theorem e_oVal : oVal m e = (m e).bind fun v e => .ok (.dt v.d) e := rfl
@[simp] theorem e_ops0 : sOps [] e = .ok [] e := rfl
@[simp] theorem e_ops1 : sOps (o :: os) e = (o e).bind fun x e => (sOps os e).bind fun xs e => .ok (x :: xs) e := rfl
@[simp] theorem e_args : sArgs os e = (sOps os e).bind fun xs e => (match ress e xs with | some ds => .ok ds e | none => .stuck) := rfl
@[simp] theorem e_prim : sPrim p os e = (sArgs os e).bind fun ds e => (match p ds with | some v => .ok v e | none => .stuck) := rfl
@[simp] theorem e_look0 : Slot.look .unb = none := rfl
@[simp] theorem e_look1 {d : D} : Slot.look (.sh d) = some d := rfl
@[simp] theorem e_look2 {d : D} : Slot.look (.ow d) = some d := rfl
@[simp] theorem e_look3 {d : D} : Slot.look (.bx d) = some d := rfl
@[simp] theorem e_look4 {d : D} : Slot.look (.ro d) = some d := rfl
@[simp] theorem e_res0 {d : D} : res e (.dt d) = some d := rfl
@[simp] theorem e_res1 : res e (.sl i) = (match e[i]? with | some s => s.look | none => none) := rfl
@[simp] theorem e_ress0 : ress e [] = some [] := rfl
@[simp] theorem e_ress1 {x : Opd} {xs : List Opd} : ress e (x :: xs) = (match res e x, ress e xs with | some d, some ds => some (d :: ds) | _, _ => none) := rfl
@[simp] theorem e_slot0 {d : D} : Vl.slot (fz d) = .sh d := rfl
@[simp] theorem e_slot1 {d : D} : Vl.slot (nw d) = .ow d := rfl
@[simp] theorem e_box {v : Vl} {d : D} {l : En} : boxOf v (Slot.bx d :: l) = .ok v d := rfl
@[simp] theorem e_tBool : tBool m e = (m e).bind fun v e => (match v.d with | .bl b => .ok b e | _ => .stuck) := rfl
@[simp] theorem e_tVal : tVal o e = (sArgs [o] e).bind fun ds e => (match ds with | [d] => (match truth d with | some b => .ok b e | none => .stuck) | _ => .stuck) := rfl
@[simp] theorem e_tNot : tNot t e = (t e).bind fun b e => .ok (!b) e := rfl
@[simp] theorem e_tAnd : tAnd t u e = (t e).bind fun b e => if b = true then u e else .ok false e := rfl
@[simp] theorem e_tOr : tOr t u e = (t e).bind fun b e => if b = true then .ok true e else u e := rfl
@[simp] theorem e_tTrue : tTrue e = .ok true e := rfl
@[simp] theorem e_if {f g : Sx α} : sIf t f g e = (t e).bind fun k e => if k = true then f e else g e := rfl
@[simp] theorem e_and : sAnd m n e = (m e).bind fun v e => (match v.d with | .bl true => n e | .bl false => .ok (fz (.bl false)) e | _ => .stuck) := rfl
@[simp] theorem e_or : sOr m n e = (m e).bind fun v e => (match v.d with | .bl true => .ok (fz (.bl true)) e | .bl false => n e | _ => .stuck) := rfl
@[simp] theorem e_not : sNot o e = (tVal o e).bind fun b e => .ok (fz (.bl (!b))) e := rfl
@[simp] theorem e_tup : sTup os e = (sOps os e).bind fun xs e => (match dts xs with | some ds => if ds.length ≤ sizeLine then .ok (fz (.tup ds)) e else .stuck | none => .stuck) := rfl
@[simp] theorem e_lst : sLst os e = (sOps os e).bind fun xs e => (match dts xs with | some ds => if ds.length ≤ sizeLine then .ok (nw (.lst ds)) e else .stuck | none => .stuck) := rfl
@[simp] theorem e_dts0 : dts [] = some [] := rfl
@[simp] theorem e_dts1 {d : D} {xs : List Opd} : dts (.dt d :: xs) = (dts xs).map (d :: ·) := rfl
@[simp] theorem e_modes0 : okModes [] [] = true := rfl
@[simp] theorem e_modes1 {d : D} {bs : List Bool} {xs : List Opd} : okModes (false :: bs) (.dt d :: xs) = okModes bs xs := rfl
@[simp] theorem e_ofRes0 {v : Vl} : ofRes (.ok v) e = .ok v e := rfl
@[simp] theorem e_call {bs : List Bool} {F : List D → Res Vl} : sCall bs F os e = (sOps os e).bind fun xs e => if okModes bs xs = true then (match ress e xs with | some ds => ofRes (F ds) e | none => .stuck) else .stuck := rfl
@[simp] theorem e_setF {at_ : Str → Str → Bool} {f : Str} : sSetF at_ f i m e = (match m e with
  | .ok v e1 => (match e1[i]? with
    | some (.ow (.obj c fs)) => if at_ c f = true ∧ fs.length < 1000 then .nx (e1.set i (.ow (.obj c (putD f v.d fs)))) else .stuck
    | some (.bx (.obj c fs)) => if at_ c f = true ∧ fs.length < 1000 then .nx (e1.set i (.bx (.obj c (putD f v.d fs)))) else .stuck
    | _ => .stuck)
  | .exc x e1 => .exc x e1
  | .stuck => .stuck) := rfl
@[simp] theorem e_lines {n : Nat} (h : n ≤ 1000) : n ≤ sizeLine := by rw [sizeLine_eq]; omega
@[simp] theorem e_isL {ds : List D} : MTy.is .lst (.lst ds) = true := rfl
@[simp] theorem e_isD {ds : List (D × D)} : MTy.is .dic (.dic ds) = true := rfl
@[simp] theorem e_meth {T : MTy} {f : D → List D → Option (D × D)} {bs : List Bool} : sMeth T f bs i os e = (match res e (.sl i) with
  | some d0 => if T.is d0 = true then (sOps os e).bind fun xs e => if okModes bs xs = true then (match ress e xs, e[i]? with
    | some ds, some (.ow d) => (match f d ds with
      | some (v, d') => .ok (fz v) (e.set i (.ow d'))
      | none => .stuck)
    | some ds, some (.bx d) => (match f d ds with
      | some (v, d') => .ok (fz v) (e.set i (.bx d'))
      | none => .stuck)
    | _, _ => .stuck) else .stuck else .stuck
  | none => .stuck) := rfl
@[simp] theorem e_callB {bs : List Bool} {F : D → List D → ResB} : sCallB bs F i os e = (sOps (oName i :: os) e).bind fun xs e => (match xs with
  | _ :: xs => if okModes bs xs = true then (match ress e xs, e[i]? with
    | some ds, some (.ow d) => (match F d ds with
      | .ok v d' => .ok v (e.set i (.ow d'))
      | _ => .stuck)
    | some ds, some (.bx d) => (match F d ds with
      | .ok v d' => .ok v (e.set i (.bx d'))
      | _ => .stuck)
    | _, _ => .stuck) else .stuck
  | [] => .stuck) := rfl
@[simp] theorem e_range1 {n : Int} (h : -(2 ^ 62) ≤ n ∧ n < 2 ^ 62 ∧ n.toNat ≤ sizeLine) (hm : m e = .ok (fz (.int n)) e) : sRange [oVal m] e = .ok ⟨(List.range n.toNat).map fun (k : Nat) => .int (0 + (k : Nat)), none⟩ e := by
  unfold sRange
  simp only [e_args, e_ops1, e_ops0, e_oVal, hm, Out.bind_ok, e_ress1, e_ress0, e_res0]
  exact if_pos h
end
end Ev
set_option Elab.async false
set_option linter.all false
set_option autoImplicit false
set_option maxRecDepth 100000
namespace Ev
open PySem
theorem noX_of {α : Type} {m : Sx α} {e e' : En} {a : α} (h : m e = .ok a e') : noX m e = .ok a e' := by unfold noX; rw [h]
end Ev
set_option Elab.async false
set_option linter.all false
set_option autoImplicit false
set_option maxRecDepth 100000
set_option maxHeartbeats 1000000
namespace Ev
open PySem
@[simp] theorem e_chk0 {x y : D} : chkOf (.dt x) y = none := rfl
@[simp] theorem e_chk1 {i : Nat} {y : D} : chkOf (.sl i) y = some (i, y) := rfl
@[simp] theorem e_wipe0 {e : En} : wipeE [] e = e := rfl
@[simp] theorem e_wipe1 {e : En} {v : Nat} {vs : List Nat} : wipeE (v :: vs) e = (wipeE vs e).set v .unb := rfl
@[simp] theorem e_setTg1 {e : En} {i : Nat} {d : D} : setTg (.one i) d e = some (e.set i (.sh d)) := rfl
@[simp] theorem e_setTg2 {e : En} {is : List Nat} {ds : List D} : setTg (.many is) (.tup ds) e = setMany is ds e := rfl
@[simp] theorem e_setMany0 {e : En} : setMany [] [] e = some e := rfl
@[simp] theorem e_setMany1 {e : En} {i : Nat} {is : List Nat} {d : D} {ds : List D} : setMany (i :: is) (d :: ds) e = setMany is ds (e.set i (.sh d)) := rfl
@[simp] theorem e_seq {m : Sx Opd} {e : En} : sSeq m e = (m e).bind fun o e => match res e o with
  | some (.lst ds) => .ok ⟨ds, chkOf o (.lst ds)⟩ e
  | some (.tup ds) => .ok ⟨ds, chkOf o (.tup ds)⟩ e
  | some (.str z) => .ok ⟨signs z, none⟩ e
  | _ => .stuck := rfl
end Ev
set_option Elab.async false
set_option linter.all false
set_option autoImplicit false
set_option maxRecDepth 100000
set_option maxHeartbeats 1000000
namespace Ev
open PySem
def plainN : Nat → D → Bool
  | _, .non => true
  | _, .int _ => true
  | _, .str _ => true
  | n + 1, .lst l => l.all (plainN n)
  | n + 1, .tup l => l.all (plainN n)
  | _, _ => false
@[simp] theorem plainN_non {n : Nat} : plainN n .non = true := by cases n <;> rfl
@[simp] theorem plainN_int {n : Nat} {i : Int} : plainN n (.int i) = true := by cases n <;> rfl
@[simp] theorem plainN_str {n : Nat} {x : Str} : plainN n (.str x) = true := by cases n <;> rfl
@[simp] theorem plainN_lst {n : Nat} {l : List D} : plainN (n + 1) (.lst l) = l.all (plainN n) := rfl
@[simp] theorem plainN_tup {n : Nat} {l : List D} : plainN (n + 1) (.tup l) = l.all (plainN n) := rfl
theorem dats_of {n : Nat} (h : ∀ d : D, plainN n d = true → d.dat = true ∧ d.py.depth ≤ n) : ∀ l : List D, l.all (plainN n) = true → D.dats l = true ∧ PyData.depthAll (D.pys l) ≤ n
  | [], _ => ⟨rfl, Nat.zero_le _⟩
  | d :: l, hl => by
    rw [List.all_cons, Bool.and_eq_true] at hl
    obtain ⟨a, b⟩ := h d hl.1
    obtain ⟨c, e⟩ := dats_of h l hl.2
    exact ⟨by rw [D.dats, a, c]; rfl, Nat.max_le.mpr ⟨b, e⟩⟩
theorem dat_of : ∀ (n : Nat) (d : D), plainN n d = true → d.dat = true ∧ d.py.depth ≤ n
  | n, .non, _ => ⟨rfl, Nat.zero_le _⟩
  | n, .int _, _ => ⟨rfl, Nat.zero_le _⟩
  | n, .str _, _ => ⟨rfl, Nat.zero_le _⟩
  | n + 1, .lst l, h => by
    obtain ⟨a, b⟩ := dats_of (dat_of n) l h
    exact ⟨a, Nat.succ_le_succ b⟩
  | n + 1, .tup l, h => by
    obtain ⟨a, b⟩ := dats_of (dat_of n) l h
    exact ⟨a, Nat.succ_le_succ b⟩
  | 0, .lst _, h => by cases h
  | 0, .tup _, h => by cases h
  | 0, .bl _, h => by cases h
  | 0, .dic _, h => by cases h
  | 0, .obj _ _, h => by cases h
  | 0, .scr _, h => by cases h
  | 0, .adr _, h => by cases h
  | _ + 1, .bl _, h => by cases h
  | _ + 1, .dic _, h => by cases h
  | _ + 1, .obj _ _, h => by cases h
  | _ + 1, .scr _, h => by cases h
  | _ + 1, .adr _, h => by cases h
theorem cmp_of {n : Nat} {d : D} (h : plainN n d = true) (hn : n ≤ 60) : d.cmp = true := by
  obtain ⟨a, b⟩ := dat_of n d h
  unfold D.cmp
  rw [a, Bool.true_and]
  exact decide_eq_true (by omega)
theorem eqvs_of {n : Nat} (h : ∀ a b : D, plainN n a = true → plainN n b = true → (pyEq a b = true ↔ a = b)) : ∀ l m : List D, l.all (plainN n) = true → m.all (plainN n) = true → (PyData.eqvAll (D.pys l) (D.pys m) = true ↔ l = m)
  | [], [], _, _ => by simp [D.pys, PyData.eqvAll]
  | a :: l, b :: m, h1, h2 => by
    rw [List.all_cons, Bool.and_eq_true] at h1 h2
    have i := eqvs_of h l m h1.2 h2.2
    have j := h a b h1.1 h2.1
    unfold pyEq at j
    simp only [D.pys, PyData.eqvAll, Bool.and_eq_true, i, j, List.cons.injEq]
  | [], _ :: _, _, _ => by simp [D.pys, PyData.eqvAll]
  | _ :: _, [], _, _ => by simp [D.pys, PyData.eqvAll]
theorem pyEq_iff : ∀ (n : Nat) (a b : D), plainN n a = true → plainN n b = true → (pyEq a b = true ↔ a = b)
  | n + 1, .lst l, .lst m, h1, h2 => by
    have := eqvs_of (pyEq_iff n) l m h1 h2
    simpa [pyEq, D.py, PyData.eqv] using this
  | n + 1, .tup l, .tup m, h1, h2 => by
    have := eqvs_of (pyEq_iff n) l m h1 h2
    simpa [pyEq, D.py, PyData.eqv] using this
  | n, .non, .non, _, _ => by simp [pyEq, D.py, PyData.eqv]
  | n, .non, .int _, _, _ => by simp [pyEq, D.py, PyData.eqv]
  | n, .non, .str _, _, _ => by simp [pyEq, D.py, PyData.eqv]
  | n, .non, .lst _, _, _ => by simp [pyEq, D.py, PyData.eqv]
  | n, .non, .tup _, _, _ => by simp [pyEq, D.py, PyData.eqv]
  | n, .int _, .non, _, _ => by simp [pyEq, D.py, PyData.eqv]
  | n, .int _, .int _, _, _ => by simp [pyEq, D.py, PyData.eqv]
  | n, .int _, .str _, _, _ => by simp [pyEq, D.py, PyData.eqv]
  | n, .int _, .lst _, _, _ => by simp [pyEq, D.py, PyData.eqv]
  | n, .int _, .tup _, _, _ => by simp [pyEq, D.py, PyData.eqv]
  | n, .str _, .non, _, _ => by simp [pyEq, D.py, PyData.eqv]
  | n, .str _, .int _, _, _ => by simp [pyEq, D.py, PyData.eqv]
  | n, .str _, .str _, _, _ => by simp [pyEq, D.py, PyData.eqv]
  | n, .str _, .lst _, _, _ => by simp [pyEq, D.py, PyData.eqv]
  | n, .str _, .tup _, _, _ => by simp [pyEq, D.py, PyData.eqv]
  | n, .lst _, .non, _, _ => by simp [pyEq, D.py, PyData.eqv]
  | n, .lst _, .int _, _, _ => by simp [pyEq, D.py, PyData.eqv]
  | n, .lst _, .str _, _, _ => by simp [pyEq, D.py, PyData.eqv]
  | n, .lst _, .tup _, _, _ => by simp [pyEq, D.py, PyData.eqv]
  | n, .tup _, .non, _, _ => by simp [pyEq, D.py, PyData.eqv]
  | n, .tup _, .int _, _, _ => by simp [pyEq, D.py, PyData.eqv]
  | n, .tup _, .str _, _, _ => by simp [pyEq, D.py, PyData.eqv]
  | n, .tup _, .lst _, _, _ => by simp [pyEq, D.py, PyData.eqv]
  | 0, .lst _, .lst _, h, _ => by cases h
  | 0, .tup _, .tup _, h, _ => by cases h
  | 0, .bl _, _, h, _ => by cases h
  | 0, .dic _, _, h, _ => by cases h
  | 0, .obj _ _, _, h, _ => by cases h
  | 0, .scr _, _, h, _ => by cases h
  | _ + 1, .bl _, _, h, _ => by cases h
  | _ + 1, .dic _, _, h, _ => by cases h
  | _ + 1, .obj _ _, _, h, _ => by cases h
  | _ + 1, .scr _, _, h, _ => by cases h
  | 0, .non, .bl _, _, h => by cases h
  | 0, .int _, .bl _, _, h => by cases h
  | 0, .str _, .bl _, _, h => by cases h
  | 0, .lst _, .bl _, _, h => by cases h
  | 0, .tup _, .bl _, _, h => by cases h
  | _ + 1, .non, .bl _, _, h => by cases h
  | _ + 1, .int _, .bl _, _, h => by cases h
  | _ + 1, .str _, .bl _, _, h => by cases h
  | _ + 1, .lst _, .bl _, _, h => by cases h
  | _ + 1, .tup _, .bl _, _, h => by cases h
  | 0, _, .dic _, _, h => by cases h
  | 0, _, .obj _ _, _, h => by cases h
  | 0, _, .scr _, _, h => by cases h
  | _ + 1, _, .dic _, _, h => by cases h
  | _ + 1, _, .obj _ _, _, h => by cases h
  | _ + 1, _, .scr _, _, h => by cases h
theorem pyEq_dec {n : Nat} {a b : D} (ha : plainN n a = true) (hb : plainN n b = true) : pyEq a b = decide (a = b) := by
  have := pyEq_iff n a b ha hb
  by_cases h : a = b
  · rw [decide_eq_true h]; exact this.mpr h
  · rw [decide_eq_false h]
    cases q : pyEq a b with
    | false => rfl
    | true => exact absurd (this.mp q) h
theorem pEq_pl (a b : D) (ha : plainN 8 a = true) (hb : plainN 8 b = true) : pEq [a, b] = some (fz (.bl (decide (a = b)))) := by
  show (if (a.cmp && b.cmp) = true then _ else _) = _
  rw [cmp_of ha (by decide), cmp_of hb (by decide), Bool.and_self, if_pos rfl, pyEq_dec ha hb]
theorem pNe_pl (a b : D) (ha : plainN 8 a = true) (hb : plainN 8 b = true) : pNe [a, b] = some (fz (.bl (decide (a ≠ b)))) := by
  show (if (a.cmp && b.cmp) = true then _ else _) = _
  rw [cmp_of ha (by decide), cmp_of hb (by decide), Bool.and_self, if_pos rfl, pyEq_dec ha hb, decide_not]
@[simp] theorem pEq_int {i j : Int} : pEq [.int i, .int j] = some (fz (.bl (decide (i = j)))) := by rw [pEq_pl _ _ (by simp) (by simp)]; simp
@[simp] theorem pNe_int {i j : Int} : pNe [.int i, .int j] = some (fz (.bl (decide (i ≠ j)))) := by rw [pNe_pl _ _ (by simp) (by simp)]; simp
@[simp] theorem pEq_str {i j : Str} : pEq [.str i, .str j] = some (fz (.bl (decide (i = j)))) := by rw [pEq_pl _ _ (by simp) (by simp)]; simp
@[simp] theorem pNe_str {i j : Str} : pNe [.str i, .str j] = some (fz (.bl (decide (i ≠ j)))) := by rw [pNe_pl _ _ (by simp) (by simp)]; simp
@[simp] theorem pNe_bl {x y : Bool} : pNe [.bl x, .bl y] = some (fz (.bl (x != y))) := by
  cases x <;> cases y <;> rfl
@[simp] theorem pIs_non {d : D} : pIs [d, .non] = some (fz (.bl (decide (d = .non)))) := by cases d <;> rfl
@[simp] theorem pIsNot_non {d : D} : pIsNot [d, .non] = some (fz (.bl (decide (d ≠ .non)))) := by
  cases d <;> (unfold pIsNot; first | rfl | simp)
@[simp] theorem e_fld {at_ : Str → Str → Bool} {f : Str} {m : Sx Opd} : sFld at_ f m = sPrim (pFld at_ f) [m] := rfl
@[simp] theorem lk_hit {f : Str} {d : D} {fs : List (Str × D)} : List.lookup f ((f, d) :: fs) = some d := by simp [List.lookup]
theorem pFld_of {at_ : Str → Str → Bool} {c f : Str} {fs : List (Str × D)} {d : D} (h : at_ c f = true) (hl : fs.lookup f = some d) : pFld at_ f [.obj c fs] = some (fz d) := by
  show (if at_ c f = true then (fs.lookup f).map fz else none) = _
  rw [if_pos h, hl]; rfl
end Ev
set_option Elab.async false
set_option linter.all false
set_option autoImplicit false
set_option maxRecDepth 100000
set_option maxHeartbeats 1000000
namespace Ev
open PySem
def keyB : Bool → D → Bool
  | false, .int _ => true
  | false, .str _ => true
  | true, .tup l => kdp (D.key (.tup l))
  | _, _ => false
theorem keyB_tup {b : Bool} {k : D} (h : keyB b k = true) : k.isTup = b := by
  unfold keyB at h
  split at h <;> first | rfl | cases h
theorem dkOk_of {b : Bool} {k : D} {ds : List (D × D)} (h : keyB b k = true) (hd : ∀ q ∈ ds, q.1.isTup = b) : dkOk ds k = true := by
  unfold keyB at h
  split at h
  · exact List.all_eq_true.mpr fun q hq => by rw [hd q hq]; rfl
  · exact List.all_eq_true.mpr fun q hq => by rw [hd q hq]; rfl
  · show (kdp _ && ds.all fun p => p.1.isTup) = true
    rw [h, Bool.true_and]
    exact List.all_eq_true.mpr fun q hq => hd q hq
  · cases h
noncomputable def leD (a b : D) : Bool := PySem.W.dataLe false D.py a b
noncomputable def sortD (l : List D) : List D := l.mergeSort leD
def sortOk (l : List D) : Prop := PySem.W.AllAlike (l.map D.py) ∧ PySem.W.Sortable (l.map D.py) ∧ ∀ d ∈ l, d.dat = true ∧ d.py.depth ≤ 8
theorem sorted_eq {l : List D} (h : sortOk l) : pSortedA [.lst l] = some (nw (.lst (sortD l))) := by
  have : pSorted [.lst l] = some (nw (.lst (sortD l))) := if_pos h
  unfold pSortedA orP
  rw [this]
theorem leD_trans (a b c : D) (h1 : leD a b = true) (h2 : leD b c = true) : leD a c = true := by
  let O := PyProof.Rows.listOrd PyProof.Rows.itemOrd
  have e : ∀ x y : D, leD x y = !O.blt (PySem.W.keyToks y.py) (PySem.W.keyToks x.py) := fun _ _ => rfl
  rw [e, Bool.not_eq_true'] at h1 h2 ⊢
  cases q : O.blt (PySem.W.keyToks c.py) (PySem.W.keyToks a.py) with
  | false => rfl
  | true =>
    rcases O.negTrans _ (PySem.W.keyToks b.py) _ q with z | z
    · rw [h2] at z; cases z
    · rw [h1] at z; cases z
theorem leD_total (a b : D) : (leD a b || leD b a) = true := by
  let O := PyProof.Rows.listOrd PyProof.Rows.itemOrd
  have e : ∀ x y : D, leD x y = !O.blt (PySem.W.keyToks y.py) (PySem.W.keyToks x.py) := fun _ _ => rfl
  rw [e, e]
  cases p : O.blt (PySem.W.keyToks b.py) (PySem.W.keyToks a.py) with
  | false => rfl
  | true =>
    cases q : O.blt (PySem.W.keyToks a.py) (PySem.W.keyToks b.py) with
    | false => rfl
    | true =>
      have := O.trans _ _ _ p q
      rw [O.irrefl] at this
      cases this
@[simp] theorem e_modesT {bs : List Bool} {x : Opd} {xs : List Opd} : okModes (true :: bs) (x :: xs) = okModes bs xs := by
  show ((true || _) && okModes bs xs) = _
  rw [Bool.true_or, Bool.true_and]
end Ev
set_option Elab.async false
set_option linter.all false
set_option autoImplicit false
set_option maxRecDepth 100000
set_option maxHeartbeats 1000000
namespace Ev
open PySem
end Ev
set_option Elab.async false
set_option linter.all false
set_option autoImplicit false
set_option maxRecDepth 100000
set_option maxHeartbeats 1000000
namespace Ev
open PySem
theorem leD_anti {a b : D} (ha : plainN 8 a = true) (hb : plainN 8 b = true) (al : PySem.W.alike a.py b.py = true) (h1 : leD a b = true) (h2 : leD b a = true) : a = b := by
  let O := PyProof.Rows.listOrd PyProof.Rows.itemOrd
  have e : ∀ x y : D, leD x y = !O.blt (PySem.W.keyToks y.py) (PySem.W.keyToks x.py) := fun _ _ => rfl
  rw [e, Bool.not_eq_true'] at h1 h2
  have ht : PySem.W.keyToks a.py = PySem.W.keyToks b.py := O.total _ _ h2 h1
  have hq := PySem.W.toks_eqv a.py b.py al
  have heq : PyData.eqv a.py b.py = true := by
    cases q : PyData.eqv a.py b.py with
    | true => rfl
    | false =>
      have h3 := hq.2 q [] [.inl 0]
      rw [ht, List.append_nil] at h3
      have h4 : PyProof.Rows.lexLt PyProof.Rows.itemOrd (PySem.W.keyToks b.py) (PySem.W.keyToks b.py) = false := PyProof.Rows.lex_irrefl _
      rw [h4] at h3
      have : ∀ t : List (Int ⊕ List Nat), PyProof.Rows.lexLt PyProof.Rows.itemOrd t (t ++ [.inl 0]) = true := by
        intro t
        induction t with
        | nil => rfl
        | cons x t ih => exact PyProof.Rows.lex_true.mpr (.inr ⟨PyProof.Rows.itemOrd.irrefl x, ih⟩)
      rw [this] at h3
      cases h3
  exact (pyEq_iff 8 a b ha hb).mp heq
noncomputable def sortE {α : Type} (enc : α → D) (l : List α) : List α := l.mergeSort fun a b => leD (enc a) (enc b)
theorem sortD_map {α : Type} (enc : α → D) (l : List α) : sortD (l.map enc) = (sortE enc l).map enc := by
  unfold sortD sortE
  exact (List.map_mergeSort (r := fun a b => leD (enc a) (enc b)) (s := leD) fun _ _ _ _ => rfl).symm
section
variable {α : Type} {enc : α → D}
theorem sortE_mem {l : List α} {x : α} : x ∈ sortE enc l ↔ x ∈ l := (List.mergeSort_perm l _).mem_iff
theorem sortE_perm (enc : α → D) (l : List α) : (sortE enc l).Perm l := List.mergeSort_perm l _
theorem sortE_len (l : List α) : (sortE enc l).length = l.length := (sortE_perm enc l).length_eq
theorem sortE_nodup {l : List α} : (sortE enc l).Nodup ↔ l.Nodup := (sortE_perm enc l).nodup_iff
theorem sortE_pw (l : List α) : (sortE enc l).Pairwise fun a b => leD (enc a) (enc b) = true := List.pairwise_mergeSort (le := fun a b => leD (enc a) (enc b)) (fun a b c => leD_trans (enc a) (enc b) (enc c)) (fun a b => leD_total (enc a) (enc b)) l
theorem sortE_of {l : List α} (h : l.Pairwise fun a b => leD (enc a) (enc b) = true) : sortE enc l = l := List.mergeSort_of_pairwise h
theorem sorted_enc {l : List α} (h : sortOk (l.map enc)) : pSortedA [.lst (l.map enc)] = some (nw (.lst ((sortE enc l).map enc))) := by
  rw [sorted_eq h, sortD_map]
theorem sortE_unique {enc : α → D} (inj : ∀ a b, enc a = enc b → a = b) (pl : ∀ a, plainN 8 (enc a) = true) (al : ∀ a b, PySem.W.alike (enc a).py (enc b).py = true) {l m : List α} (nl : l.Nodup) (nm : m.Nodup)
    (sl : l.Pairwise fun a b => leD (enc a) (enc b) = true) (sm : m.Pairwise fun a b => leD (enc a) (enc b) = true) (h : ∀ a, a ∈ l ↔ a ∈ m) : l = m :=
  List.Perm.eq_of_pairwise (le := fun a b => leD (enc a) (enc b) = true) (fun a b _ _ h1 h2 => inj _ _ (leD_anti (pl a) (pl b) (al a b) h1 h2)) sl sm ((List.perm_ext_iff_of_nodup nl nm).mpr h)
end
end Ev
set_option Elab.async false
set_option linter.all false
set_option autoImplicit false
set_option maxRecDepth 100000
set_option maxHeartbeats 1000000
namespace Ev
open PySem
theorem ret_rt {m : Sx Vl} {e e1 : En} {v : Vl} (h : m e = .ok v e1) : sRet m e = .rt v e1 := by
  unfold sRet
  rw [h]
theorem then_step {a b : SS} {e e' : En} {r : Fl} (h : a e = .nx e') (k : b e' = r) : sThen a b e = r := by unfold sThen; rw [h]; exact k
theorem then_stop {a b : SS} {e e' : En} {v : Vl} (h : a e = .rt v e') : sThen a b e = .rt v e' := by unfold sThen; rw [h]
theorem if_t {t : Sx Bool} {a b : SS} {e e1 : En} {r : Fl} (h : t e = .ok true e1) (k : a e1 = r) : sIfS t a b e = r := by
  unfold sIfS
  rw [h]
  exact k
def Rt (b : SS) (e : En) (v : Vl) : Prop := ∃ e', b e = .rt v e'
def Vo {α : Type} (m : Sx α) (e : En) (v : α) : Prop := ∃ e', m e = .ok v e'
section
variable {a b c0 : SS} {e e1 e2 : En} {v : Vl} {t u : Sx Bool} {m n : Sx Vl}
theorem Rt.then (h : a e = .nx e1) (k : Rt b e1 v) : Rt (sThen a b) e v := let ⟨e', k⟩ := k; ⟨e', then_step h k⟩
theorem Rt.stop (h : Rt a e v) : Rt (sThen a b) e v := let ⟨e', k⟩ := h; ⟨e', then_stop k⟩
theorem Rt.ift (h : t e = .ok true e1) (k : Rt a e1 v) : Rt (sIfS t a b) e v := let ⟨e', k⟩ := k; ⟨e', if_t h k⟩
theorem Rt.gt (h : t e = .ok true e1) (k : Rt a e1 v) : Rt (sThen (sIfS t a c0) b) e v := Rt.stop (Rt.ift h k)
theorem Rt.ret (h : Vo m e v) : Rt (sRet m) e v := let ⟨e', k⟩ := h; ⟨e', ret_rt k⟩
theorem Vo.of {α : Type} {m : Sx α} {v : α} (h : m e = .ok v e1) : Vo m e v := ⟨e1, h⟩
theorem Rt.rv {r : D} (h : Rt a e v) : ∃ e', a e = .rt v e' := h
theorem Rt.c {d : D} : Rt (sRet (sC d)) e (fz d) := ⟨e, rfl⟩
end
section
variable {e e1 e2 e3 e4 e5 : En} {v : Vl} {m1 m2 m3 m4 m5 : Sx Opd} {d1 d2 d3 d4 d5 : D} {F : List D → Res Vl} {B : D → List D → ResB} {d : D} {c : Str}
theorem oc {d : D} : oVal (sC d) e = .ok (.dt d) e := rfl
end
section
variable {e e1 e2 e3 e4 e5 : En} {m1 m2 m3 m4 m5 : Sx Opd} {d1 d2 d3 d4 d5 : D}
end
section
variable {e e1 e2 e3 : En} {v : Vl} {m1 m2 m3 : Sx Opd} {d1 d2 d3 x x0 x' : D} {B : D → List D → ResB} {i : Nat}
end
end Ev
set_option Elab.async false
set_option linter.all false
set_option autoImplicit false
set_option maxRecDepth 100000
namespace Ev
open PySem L2 PySem.Spec PyProof.Rows
section
variable {X : Cx} {cl : Str → Option Addr}
end
noncomputable def pMaxL : List D → Option Vl
  | [.lst ds] => (D.ints ds).bind fun ns => ns.max?.map fun m => fz (.int m)
  | _ => none
noncomputable def pMaxA := orP pMax pMaxL
section
variable {X : Cx} {cl : Str → Option Addr}
end
@[simp] theorem pMaxA_ints {ns : List Int} {m : Int} (h : ns.max? = some m) : pMaxA [.lst (ns.map D.int)] = some (fz (.int m)) := by
  unfold pMaxA orP
  have h1 : pMax [.lst (ns.map D.int)] = none := rfl
  rw [h1]
  show (D.ints (ns.map D.int)).bind _ = _
  rw [ints_map, Option.bind_some, h]
  rfl
end Ev
set_option Elab.async false
set_option linter.all false
set_option autoImplicit false
set_option maxRecDepth 100000
set_option maxHeartbeats 1000000
namespace Ev
open PySem
section
variable {e e1 e2 : En} {m n : Sx Opd} {o o2 : Opd} {ds : List D} {d d2 : D} {i : Int} {T : MTy} {p : List D → Option Vl} {v : Vl}
theorem ixL (h : L2.atI ds i = some d) : pIxA [.lst ds, .int i] = some (fz d) := by rw [pIxA_lst, h]; rfl
theorem ixT (h : L2.atI ds i = some d) : pIxA [.tup ds, .int i] = some (fz d) := by rw [pIxA_tup, h]; rfl
end
def hashN : Nat → D → Bool
  | _, .non => true
  | _, .int _ => true
  | _, .str _ => true
  | n + 1, .tup l => l.all (hashN n)
  | _, _ => false
@[simp] theorem hashN_non {n : Nat} : hashN n .non = true := by cases n <;> rfl
@[simp] theorem hashN_int {n : Nat} {i : Int} : hashN n (.int i) = true := by cases n <;> rfl
@[simp] theorem hashN_str {n : Nat} {x : Str} : hashN n (.str x) = true := by cases n <;> rfl
@[simp] theorem hashN_tup {n : Nat} {l : List D} : hashN (n + 1) (.tup l) = l.all (hashN n) := rfl
theorem keys_of {n : Nat} (h : ∀ d : D, hashN n d = true → ∃ k, d.key = some k ∧ k.depth ≤ n) : ∀ l : List D, l.all (hashN n) = true → ∃ ks, D.keys l = some ks ∧ NestedKey.depthAll ks ≤ n
  | [], _ => ⟨[], rfl, Nat.zero_le _⟩
  | d :: l, hl => by
    rw [List.all_cons, Bool.and_eq_true] at hl
    obtain ⟨k, k1, k2⟩ := h d hl.1
    obtain ⟨ks, k3, k4⟩ := keys_of h l hl.2
    refine ⟨k :: ks, ?_, Nat.max_le.mpr ⟨k2, k4⟩⟩
    show (match D.key d, D.keys l with | some k, some ks => some (k :: ks) | _, _ => none) = _
    rw [k1, k3]
theorem key_of : ∀ (n : Nat) (d : D), hashN n d = true → ∃ k, d.key = some k ∧ k.depth ≤ n
  | n, .non, _ => ⟨.none, rfl, Nat.zero_le _⟩
  | n, .int i, _ => ⟨.num i, rfl, Nat.zero_le _⟩
  | n, .str x, _ => ⟨.text x, rfl, Nat.zero_le _⟩
  | n + 1, .tup l, h => by
    obtain ⟨ks, k1, k2⟩ := keys_of (key_of n) l h
    refine ⟨.tup ks, ?_, Nat.succ_le_succ k2⟩
    show (D.keys l).map NestedKey.tup = _
    rw [k1]; rfl
  | 0, .tup _, h => by cases h
  | 0, .lst _, h => by cases h
  | 0, .bl _, h => by cases h
  | 0, .dic _, h => by cases h
  | 0, .obj _ _, h => by cases h
  | 0, .scr _, h => by cases h
  | 0, .adr _, h => by cases h
  | _ + 1, .lst _, h => by cases h
  | _ + 1, .bl _, h => by cases h
  | _ + 1, .dic _, h => by cases h
  | _ + 1, .obj _ _, h => by cases h
  | _ + 1, .scr _, h => by cases h
  | _ + 1, .adr _, h => by cases h
theorem keyB_of {l : List D} (h : hashN 8 (.tup l) = true) : keyB true (.tup l) = true := by
  obtain ⟨k, k1, k2⟩ := key_of 8 (.tup l) h
  show kdp (D.key (.tup l)) = true
  rw [k1]
  exact decide_eq_true k2
structure KeyE {K : Type} (b : Bool) (enc : K → D) : Prop where
  inj : ∀ a c, enc a = enc c → a = c
  key : ∀ a, keyB b (enc a) = true
noncomputable def tdget {K β : Type} (d : List (K × β)) (k : K) : Option β := by
  classical
  exact (d.find? fun p => decide (p.1 = k)).map (·.2)
noncomputable def tdput {K β : Type} (d : List (K × β)) (k : K) (v : β) : List (K × β) := by
  classical
  exact if (tdget d k).isSome = true then d.map fun p => if p.1 = k then (p.1, v) else p else d ++ [(k, v)]
def encDi {K β : Type} (enc : K → D) (val : β → D) (p : K × β) : D × D := (enc p.1, val p.2)
section
variable {K β : Type} {enc : K → D} {val : β → D} {b : Bool}
theorem tdget_nil {k : K} : tdget ([] : List (K × β)) k = none := rfl
theorem tdget_pos {p : K × β} {r : List (K × β)} {k : K} (e : p.1 = k) : tdget (p :: r) k = some p.2 := by simp [tdget, List.find?_cons, e]
theorem tdget_neg {p : K × β} {r : List (K × β)} {k : K} (e : ¬ p.1 = k) : tdget (p :: r) k = tdget r k := by simp [tdget, List.find?_cons, e]
theorem tdget_enc (E : KeyE b enc) (d : List (K × β)) (k : K) : dget (d.map (encDi enc val)) (enc k) = (tdget d k).map val := by
  induction d with
  | nil => rfl
  | cons p d ih =>
    rw [List.map_cons]
    by_cases h : p.1 = k
    · rw [dget_pos (show (encDi enc val p).1 = enc k from by rw [← h]; rfl), tdget_pos h]; rfl
    · rw [dget_neg (show ¬ (encDi enc val p).1 = enc k from fun z => h (E.inj _ _ z)), tdget_neg h, ih]
theorem tdget_some {d : List (K × β)} {k : K} : (tdget d k).isSome = true ↔ k ∈ d.map (·.1) := by
  induction d with
  | nil => simp [tdget_nil]
  | cons q d ih =>
    by_cases h : q.1 = k
    · rw [tdget_pos h]; simp [h]
    · rw [tdget_neg h, ih]
      simp only [List.map_cons, List.mem_cons]
      constructor
      · exact .inr
      · rintro (z | z)
        · exact absurd z.symm h
        · exact z
theorem tdput_enc (E : KeyE b enc) (d : List (K × β)) (k : K) (v : β) : dput (d.map (encDi enc val)) (enc k) (val v) = (tdput d k v).map (encDi enc val) := by
  classical
  unfold dput tdput
  rw [tdget_enc E, Option.isSome_map]
  split
  · rw [List.map_map, List.map_map]
    refine List.map_congr_left fun p _ => ?_
    by_cases h : p.1 = k
    · have h' : (encDi enc val p).1 = enc k := by rw [← h]; rfl
      show (if (encDi enc val p).1 = enc k then _ else _) = encDi enc val (if p.1 = k then _ else _)
      rw [if_pos h', if_pos h]
      rfl
    · have h' : ¬ (encDi enc val p).1 = enc k := fun z => h (E.inj _ _ z)
      show (if (encDi enc val p).1 = enc k then _ else _) = encDi enc val (if p.1 = k then _ else _)
      rw [if_neg h', if_neg h]
  · rw [List.map_append]
    rfl
theorem tdput_new {d : List (K × β)} {k : K} {v : β} (h : k ∉ d.map (·.1)) : tdput d k v = d ++ [(k, v)] := by
  unfold tdput
  rw [if_neg fun z => h (tdget_some.mp z)]
theorem tdput_len (d : List (K × β)) (k : K) (v : β) : (tdput d k v).length ≤ d.length + 1 := by
  unfold tdput
  split <;> simp
theorem dk_enc (E : KeyE b enc) (d : List (K × β)) (k : K) : dkOk (d.map (encDi enc val)) (enc k) = true := dkOk_of (E.key k) fun q hq => by
  obtain ⟨p, _, rfl⟩ := List.mem_map.mp hq
  exact keyB_tup (E.key p.1)
end
section
variable {e e1 e2 : En} {m n : Sx Opd} {o o2 : Opd} {d d2 d3 : D} {w : Bool}
end
end Ev
set_option Elab.async false
set_option linter.all false
set_option autoImplicit false
set_option maxRecDepth 100000
set_option maxHeartbeats 4000000
namespace PySem
namespace TalkX
open PySem.W PySem.Calls PyProof.Rows PySem.HandSPX
def iA : Arguments := { posonlyargs := [], args := [{ arg := "self", annotation := none, pos := ⟨4, 17, 4, 21⟩ }, { arg := "reason", annotation := none, pos := ⟨4, 23, 4, 29⟩ }], vararg := none, kwonlyargs := [], kw_defaults := [], kwarg := none, defaults := [] }
def iB : List Stmt := [.Expr (.Call (.Attribute (.Call (.Name "super" ⟨5, 8, 5, 13⟩) [] [] ⟨5, 8, 5, 15⟩) "__init__" ⟨5, 8, 5, 24⟩) [.Name "reason" ⟨5, 25, 5, 31⟩] [] ⟨5, 8, 5, 32⟩) ⟨5, 8, 5, 32⟩, .Assign [.Attribute (.Name "self" ⟨6, 8, 6, 12⟩) "reason" ⟨6, 8, 6, 19⟩] (.Name "reason" ⟨6, 22, 6, 28⟩) ⟨6, 8, 6, 28⟩]
def iS : Scope := { kind := .function, names := [(PySem.Str.ofString "self", .local), (PySem.Str.ofString "reason", .local), (PySem.Str.ofString "__class__", .free), (PySem.Str.ofString "super", .globalImplicit)], isGenerator := false, isCoroutine := false, more := [] }
abbrev veB : List Value := [.type "ValueError", .type "Exception", .type "BaseException", .type "object"]
structure Txt (prog : Program) (K : Frag) (mg : Str → Option Value) (C fI : Addr) : Prop where
  gC : mg "TalkError" = some (.ref C)
  ei : excInitIn K C veB "ValueError.__new__" = true
  cd : ∃ cd, clsIn K C = some cd ∧ refsVE cd.mro = true ∧ cd.hasDict = true
  sa : findIn K (.ref C) "__setattr__" = some (some (.builtin "object.__setattr__"))
  ga : findIn K (.ref C) "__getattribute__" = some (some (.builtin "BaseException.__getattribute__"))
  gg : findIn K (.ref C) "__getattr__" = some none
  noN : findIn K (.ref C) "reason" = some none
  iC : findIn K (.ref C) "__init__" = some (some (.ref fI))
  tC : typeIn K (.ref fI) = some (.type "function")
  kC : keepIn K (.ref C) = true
  exC : subIn K (.ref C) (.type "BaseException") = some true
  veC : subIn K (.ref C) (.type "ValueError") = some true
  tyC : typeIn K (.ref C) = some (.type "type")
  hdC : hasDictIn K C = true
  te : exmOne K (.ref C) (.ref C) = some true
  su : ks_superIn K C C "__init__" = some (some (.builtin "ValueError.__init__"))
  mr : mroIn K C (.ref C) = some true
  st : nsIn K cStatics "thirdparty.any" = some none
  fs : mg "super" = none
  top : (prog.main.scope.names.lookup ("super" : Str)).isSome = false
  fn : ∃ (oc : Value) (od : Option Addr) (doc pm : Value) (an : Option Addr) (cda : Addr) (ct : Value) (osl : Array (Option Value)) (cc : Addr),
    K.lookup fI = some ⟨oc, od, .func (ksFn "__init__" "TalkError.__init__" iA iB iS .none .none doc pm an (.ref cda) ct cc), osl⟩ ∧ codeIn K (.ref cda) "TalkError.__init__" = true ∧
    (∃ ccl cdd vs ccs file tf, K.lookup cda = some ⟨ccl, cdd, .fields vs, ccs⟩ ∧ vs[2]? = some (.str file tf) ∧ ((prog.main.file : Str) == file) = true) ∧ ∃ cl cld csl, K.lookup cc = some ⟨cl, cld, .cell (some (.ref C)), csl⟩
structure InitEnd (h h' : Heap) (x C dx t1 : Addr) (v : Value) : Prop where
  keep : ∀ b o, b ≠ x → h.get? b = some o → h'.get? b = some o
  obj : h'.get? x = some { cls := .ref C, dict := some dx, data := .fields #[.ref t1, .none, .none, .none, .bool false, .none] }
  dbig : h.objs.size ≤ dx
  dne : dx ≠ x
  ns : h'.Ns1 dx (fun y => if y = "reason" then some v else none)
structure OwnMade (h h' : Heap) (e C d : Addr) (v : Value) : Prop where
  keep : ∀ b o, h.get? b = some o → h'.get? b = some o
  new : h.objs.size ≤ e
  obj : ∃ oe t1, h'.get? e = some oe ∧ oe.cls = .ref C ∧ oe.dict = some d ∧ oe.data = .fields #[.ref t1, .none, .none, .none, .bool false, .none]
  dbig : h.objs.size ≤ d
  dne : d ≠ e
  ns : h'.Ns1 d (fun y => if y = "reason" then some v else none)
structure Mods (s : Shared) (mg : Str → Option Value) (mb : Str → Option Value) : Prop where
  g : s.heap.Ns mainGlobals mg
  b : s.heap.Ns builtinsNs mb
  su : mb "super" = some (.type "super")
section
variable {prog : Program} {w : World} {A : Around} {E : Value → Shared → Prop} {R : Result → Shared → Prop} {s : Shared} {K : Frag} {mg mb : Str → Option Value} {C fI : Addr}
theorem kept_but {K : Frag} {h h' : Heap} {x : Addr} (X : K.In h) (hx : K.lookup x = none) (k : ∀ b o, b ≠ x → h.get? b = some o → h'.get? b = some o) : K.In h' := fun a o e =>
  k a o (fun z => by rw [z, hx] at e; cases e) (X a o e)
theorem one_size (v : Value) : [v].length ≤ sizeLine := by
  rw [sizeLine_eq]
  exact (by decide : 1 ≤ 16777216)
theorem call_mw {nm q : Str} {C N : Addr} {bs bm : List Value} {hdct : Bool} {sn : List Str} {sub : List Value} {ab : Bool} {col : Option Bool} {dd : Option Addr} {k0 k1 k2 k3 k5 : Option Value} {h : Heap} {g : Array GenState} {d : Drawn} {t : Nat} {os : OsState}
    {u e t0 : Addr} {rest : List Value} {Q : Value → Shared → Prop} (hC : h.get? C = some (excClassObj nm q C N bs bm hdct sn sub ab col dd k0 k1 k2 k3 k5 "ValueError.__new__")) (he : h.get? e = some (excO C t0)) (hu : h.get? u = some (kxs_mw "ValueError.__init__" e)) (hrest : rest.length ≤ sizeLine)
    (hq : ∀ h' t1, (∀ b o, b ≠ e → h.get? b = some o → h'.get? b = some o) → h'.get? e = some (excO C t1) → Q .none ⟨h', g, d, t, os⟩) :
    wpAny (model prog w) A (call (.ref u) rest) Q E ⟨h, g, d, t, os⟩ := by
  refine wpAny_call (codeAny_of_tree ?_)
  show wpAny _ A.in1 (callAny (.ref u) ⟨rest, []⟩) _ _ _
  simp only [callAny]
  refine wpAny_bind (wpAny_load hu ?_)
  simp only [kxs_mw, show (Value.type "method-wrapper" == Value.type "method" || Value.type "method-wrapper" == Value.type "builtin_function_or_method" || Value.type "method-wrapper" == Value.type "method-wrapper") = true by decide, if_true]
  refine KFB.if_so (by decide) ?_
  refine wpAny_bind (check_bound_init F.excBase_ValueError.toExcCallFacts hC he rfl ?_)
  refine wpAny_bind (wpAny_pure (wpAny_pure ?_))
  refine ⟨Code.quiet_builtin _ (by decide +kernel), codeAny_builtin F.excBase_ValueError.initEntry ?_⟩
  rw [Around.under_plainId F.excBase_ValueError.init.plain _]
  wp_walk
  refine hq _ h.objs.size (fun b o hb ho => ?_) ?_
  · rw [Heap.get?_update_other _ _ (Ne.symm hb)]
    exact Heap.get?_push_of_some _ ho
  · rw [Heap.get?_update_self _ (Heap.get?_push_of_some _ he) rfl]
    rfl
theorem at_init (T : Txt prog K mg C fI) {x t0 : Addr} {v : Value} (X : K.In s.heap) (hlim : s.heap.NoLimit) (hx : s.heap.get? x = some (excO C t0)) (hnx : K.lookup x = none) (hroom : A.depth < recursionLimit) (MG : Mods s mg mb)
    (hq : ∀ h' tk dx t1, InitEnd s.heap h' x C dx t1 v → R (.ok (.ret .none)) { s with heap := h', toks := tk }) :
    codeAny (model prog w) A (.call (.ref fI) ⟨[.ref x, v], []⟩) R s := by
  obtain ⟨oc, od, doc, pm, an, cda, ct, osl, cc, ho, hcd, ⟨ccl, cdd, cvs, ccs, file, tf, hcode, hvs, hfile⟩, cl, cld, csl, hcell⟩ := T.fn
  obtain ⟨cd, hcl, hmro, hdict⟩ := T.cd
  have hcl2 : ∀ z ∈ (ksFn "__init__" "TalkError.__init__" iA iB iS .none .none doc pm an (.ref cda) ct cc).scope.names, z.2 ≠ .cell := (by decide : ∀ z ∈ iS.names, z.2 ≠ .cell)
  refine ks_codeAny_call_defAt (fd := ksFn "__init__" "TalkError.__init__" iA iB iS .none .none doc pm an (.ref cda) ct cc) (body := iB) (binds := [("self", .ref x), ("reason", v)])
    hroom (X _ _ ho) rfl hlim (codeRec_of X hcd) rfl (BindsTo.of_eq (by first | rfl | with_unfolding_all rfl)) hcl2 (by intro y hy; rcases List.mem_cons.mp hy with rfl | hy; rfl; rcases List.mem_cons.mp hy with rfl | hy; rfl; cases hy) (fun h₀ hns hk => ?_)
  have X0 : K.In h₀ := X.keeps hk
  have hx0 := hk _ _ hx
  have I0 : InstAt h₀ x (excO C t0) C none := ⟨hx0, rfl, rfl, trivial⟩
  have hxC : x ≠ C := ks_ne X0 I0 hcl
  have hCo : ∃ oC, h₀.get? C = some oC ∧ oC.data = .cls cd := by
    unfold clsIn at hcl
    split at hcl
    · rename_i ho1
      cases hcl
      exact ⟨_, X0 _ _ ho1, rfl⟩
    · cases hcl
  obtain ⟨oC, hC1, hC2⟩ := hCo
  refine ks_wpAt_execs_cons ?_
  refine ks_wpAt_Expr_any ?_
  refine ks_wpAt_MethodCall ?_
  refine ks_wpAt_super_base (env := ksEnv "TalkError.__init__" iS s.heap.objs.size fI (.ref cda) cc) rfl rfl rfl rfl (X0 _ _ ho) rfl rfl rfl (X0 _ _ hcode) rfl hvs hfile T.top ?_
  refine ks_loadName_global rfl rfl (Calls.loadGlobal_builtin (env := ksEnv "TalkError.__init__" iS s.heap.objs.size fI (.ref cda) cc) (MG.g.keeps hk) T.fs (MG.b.keeps hk) MG.su ⟨rfl, ?_⟩)
  refine wpAny_loadName_free rfl rfl rfl ⟨_, X0 _ _ hcell, rfl⟩ ?_
  refine wpAny_loadName_local rfl rfl hns (by first | rfl | with_unfolding_all rfl | kernel_rfl) ?_
  refine ks_wpAny_isType_cls hC1 hC2 ⟨rfl, ?_⟩
  refine ks_wpAny_call_super hC1 hC2 I0.at_ I0.cls (fun c e => by cases e) (looks_mroIn X0 T.mr) (fun h1 e1 k1 => ?_)
  have X1 : K.In h1 := X0.keeps k1
  have hx1 := k1 _ _ hx0
  have hIs : Looks (model prog w) h1 (isInstance (.ref x) (.type "ValueError")) true := (show InstAt h1 x (excO C t0) C none from ⟨hx1, rfl, rfl, trivial⟩).type.andThen (looks_subIn X1 T.veC)
  have hal : alongIn K "__init__" ((cd.mro.dropWhile (· != .ref C)).drop 1) = some (some (.builtin "ValueError.__init__")) := by
    have z := T.su
    unfold ks_superIn at z
    rw [hcl] at z
    exact z
  refine kxs_getMethod kxs_ValueError e1 (looks_opaque X1 T.st) (l₀ := cd.mro) (fun A Q E s k q => wpAny_bind ((looks_clsIn X1 hcl) A _ E s k (wpAny_pure q))) rfl X1 hal hIs hxC (by decide) ?_
  have k2 : ∀ b o, h1.get? b = some o → (h1.push (kxs_mw "ValueError.__init__" x)).get? b = some o := fun b o e => Heap.get?_push_of_some _ e
  have hu : (h1.push (kxs_mw "ValueError.__init__" x)).get? h1.objs.size = some (kxs_mw "ValueError.__init__" x) := Heap.get?_push_at rfl rfl
  have hns2 := (hns.keeps k1).keeps k2
  have hCx : ∃ nm N qn bs bm hdct sn sub ab col dd k0 k1 k2 k3 k5, (h1.push (kxs_mw "ValueError.__init__" x)).get? C = some (excClassObj nm qn C N bs bm hdct sn sub ab col dd k0 k1 k2 k3 k5 "ValueError.__new__") ∧ ∀ X : String, bm.contains (.type X) = veB.contains (.type X) := excInit_of (X1.keeps k2) T.ei
  obtain ⟨nm, N, qn, bs, bm, hdct, sn, sub, ab, col, dd, c0, c1, c2, c3, c5, hCe, _⟩ := hCx
  refine kxs_callWith1 (i := "ValueError.__init__") (x := x) (news := [(h1.objs.size, kxs_mw "ValueError.__init__" x)]) (h₀ := h1) (L := h1.objs.size + 1) (s := { s with heap := h1.push (kxs_mw "ValueError.__init__" x), toks := s.toks + 2 + 1 }) ?_ List.mem_cons_self ?_
  · intro p hp
    rcases List.mem_cons.mp hp with rfl | hp
    · refine ⟨hu, Nat.ne_of_lt (Nat.lt_succ_self _), ?_⟩
      cases z : h1.get? h1.objs.size with
      | none => rfl
      | some o => exact absurd (Heap.lt_size z) (Nat.lt_irrefl _)
    · cases hp
  refine spliced_more (wpAny_Name (wpAny_loadName_local rfl rfl hns2 (by first | rfl | with_unfolding_all rfl | kernel_rfl) ?_) (by decide))
  refine spliced_none ⟨hu, ?_⟩
  refine call_mw hCe (k2 _ _ hx1) hu (one_size v) fun h3 t3 k3 hx3 => ?_
  have hxL : s.heap.objs.size ≠ x := Nat.ne_of_gt (Heap.lt_size hx)
  show wpAt _ _ _ (execs _ _) _ _ _
  have X3 : K.In h3 := kept_but (X1.keeps k2) hnx k3
  have hns3 : h3.Ns s.heap.objs.size (fun y => [(("self" : Str), Value.ref x), ("reason", v)].reverse.lookup y) := by
    obtain ⟨oL, es, ep, hL, r⟩ := hns2
    exact ⟨oL, es, ep, k3 _ _ hxL hL, r⟩
  refine wpAt_of_wpAny (wpAny_execs_cons (plainObj_wpAny_Assign_Attribute ?_))
  refine wpAny_Name (wpAny_loadName_local rfl rfl hns3 (by first | rfl | with_unfolding_all rfl | kernel_rfl) ?_) (by decide)
  refine wpAny_Name (wpAny_loadName_local rfl rfl hns3 (by first | rfl | with_unfolding_all rfl | kernel_rfl) ?_) (by decide)
  refine set_plain X3 (ox := excO C t3) (od := none) ⟨hx3, rfl, rfl, trivial⟩ T.sa ?_
  refine exc_osa X3 hx3 hcl hmro hdict T.noN (fun h₃ tk₃ dx k₃ dn dne hx₃ hn₃ => ?_)
  show wpAny _ _ (execs _ _) _ _ _
  have z1 : s.heap.objs.size ≤ h3.objs.size := Nat.le_of_lt (by obtain ⟨oL, es, ep, hL, r⟩ := hns3; exact Heap.lt_size hL)
  refine wpAny_execs_nil (hq h₃ tk₃ dx t3 ⟨fun b o hb e => k₃ b o hb (k3 b o hb (k2 _ _ (k1 _ _ (hk b o e)))), hx₃, Nat.le_trans z1 dn, dne, hn₃⟩)
theorem made (T : Txt prog K mg C fI) {v : Value} (X : K.In s.heap) (hlim : s.heap.NoLimit) (hroom : A.depth + 1 < recursionLimit) (MG : Mods s mg mb)
    (hq : ∀ h' tk e d, OwnMade s.heap h' e C d v → R (.ok (.ret (.ref e))) { s with heap := h', toks := tk }) :
    codeAny (model prog w) A (.call (.ref C) ⟨[v], []⟩) R s := by
  obtain ⟨nm, N, q, bs, bm, hdct, sn, sub, ab, col, dd, k0, k1, k2, k3, k5, hC, hbm⟩ := excInit_of X T.ei
  obtain ⟨hp, g, dr, tk, os⟩ := s
  have k : ∀ b o, hp.get? b = some o → ((hp.push (kdv_tup [v])).push (excO C hp.objs.size)).get? b = some o := fun b o e => Heap.get?_push_of_some _ (Heap.get?_push_of_some _ e)
  have hget : ((hp.push (kdv_tup [v])).push (excO C hp.objs.size)).get? (hp.objs.size + 1) = some (excO C hp.objs.size) := by heap_get
  have hnx : K.lookup (hp.objs.size + 1) = none := by
    cases e : K.lookup (hp.objs.size + 1) with
    | none => rfl
    | some o =>
      have z : hp.get? (hp.objs.size + 1) = some o := X _ _ e
      exact absurd (Nat.lt_of_succ_lt (Heap.lt_size z)) (Nat.lt_irrefl _)
  refine call_own F.excBase_ValueError hbm hC (looks_findIn X T.iC) (fun self => bind_fn X self T.tC) (one_size v) ?_
  refine at_init (s := ⟨(hp.push (kdv_tup [v])).push (excO C hp.objs.size), g, dr, tk, os⟩) T (X.keeps k) (hlim.keeps k) hget hnx ?_ ⟨MG.g.keeps k, MG.b.keeps k, MG.su⟩ fun h' tk' dx t1 ⟨k', hx, dn, dne, hns⟩ => ?_
  · show A.depth + 1 < recursionLimit
    exact hroom
  · have old : ∀ b o, hp.get? b = some o → h'.get? b = some o := fun b o e => k' b o (Nat.ne_of_lt (Nat.lt_succ_of_lt (Heap.lt_size e))) (k b o e)
    have z : hp.objs.size + 1 + 1 ≤ dx := by
      first
        | (simpa only [Heap.size_push] using dn)
        | exact dn
        | (have q := dn; rw [Heap.size_push, Heap.size_push] at q; exact q)
    exact ⟨rfl, hq h' tk' (hp.objs.size + 1) dx ⟨old, Nat.le_succ _, ⟨_, _, hx, rfl, rfl, rfl⟩, Nat.le_trans (Nat.le_trans (Nat.le_succ _) (Nat.le_succ _)) z, dne, hns⟩⟩
end
end TalkX
end PySem
set_option Elab.async false
set_option linter.all false
set_option autoImplicit false
set_option maxRecDepth 100000
set_option maxHeartbeats 2000000
namespace L2
open PySem PySem.Spec PyProof.Rows
theorem relO_one {v : V} {v' : Value} (r : RelV v v') (x f : Str) : RelO (List.lookup f [(x, v)]) (if f = x then some v' else none) := by
  by_cases hw : f = x
  · subst hw
    rw [if_pos rfl]
    have q : List.lookup f [(f, v)] = some v := by simp [List.lookup]
    rw [q]
    exact r
  · rw [if_neg hw]
    have qw : (f == x) = false := by simpa using hw
    have q2 : List.lookup f [(x, v)] = none := by simp [List.lookup, qw]
    rw [q2]
    trivial
section
variable {X : Cx} {C fI : Addr}
def tMkTalk (C : Addr) (ta : TA) : St → Hp → XK → Prop := fun σ H Q => ta σ H fun vs H1 => ∃ v, vs = [v] ∧ ∀ d, H1 d = none → Q (.ref C) (some d) (upd H1 d (.xd [(("reason" : Str), v)]))
theorem pmkN_talk {a : Expr} {ta : TA} {p pos : Pos} (T : PySem.TalkX.Txt X.prog X.K X.mg C fI) (hr : X.A.depth + 1 < recursionLimit) (ha : PA X [a] ta) (hg : Gl X "TalkError")
    (he : starEach (a :: []) X.env = (false, eval a X.env) :: starEach [] X.env := by rfl) (hpl : (backTo pos (starEach [] X.env)).any (·.1) = false := by rfl) :
    L2N.PMk X (.Call (.Name "TalkError" p) [a] [] pos) (tMkTalk C ta) := by
  intro pins s σ H Q I h
  refine wpAny_Call_Name_kw (ld_glob I hg T.gC ?_)
  refine PySem.W.callWith_K (h₀ := X.base) I.ok.mod.kin T.kC (thn (ha.run pos pins s σ H _ I h) fun us s1 hh => ?_) he hpl
  obtain ⟨vs, H1, I1, r1, v, ev, q1⟩ := hh
  subst ev
  refine ⟨I1.kIn, ?_⟩
  cases r1 with
  | cons rv rn =>
    rename_i v' us'
    cases rn
    show wpAny _ _ (call (.ref C) [v']) _ _ _
    have hlim := I1.nolimit
    obtain ⟨mb, hb1, hb2⟩ := I1.mod.blt
    have MG : PySem.TalkX.Mods s1 X.mg mb := ⟨I1.mod.glob.keeps I1.bk, hb1.keeps I1.bk, (hb2 "super" (by decide)).trans (by first | boot_by_name | rfl | kernel_rfl)⟩
    obtain ⟨hp, g, dr, tk, os⟩ := s1
    refine wpAny_call (PySem.TalkX.made T I1.kIn hlim hr MG fun h' tk' e d M => ?_)
    show L2N.MkP X pins σ Q (.ref e) ⟨h', g, dr, tk', os⟩
    obtain ⟨oe, t1, hoe, hc, hd, hdat⟩ := M.obj
    have hns := M.ns
    obtain ⟨G', g1, g2⟩ := restrict h' fun b => decide (b ≠ e)
    have gk : ∀ b, b ≠ e → G'.get? b = h'.get? b := fun b hb => g1 b (decide_eq_true hb)
    have ge : G'.get? e = none := g2 e (by simp)
    have old : ∀ b o, hp.get? b = some o → G'.get? b = some o := fun b o q => (gk b (Nat.ne_of_lt (Nat.lt_of_lt_of_le (Heap.lt_size q) M.new))).trans (M.keep b o q)
    have ob : ObjOk X.prog X.w (upd H1 d (.xd [(("reason" : Str), v)])) G' d (.xd [(("reason" : Str), v)]) :=
      ⟨_, hns.at (fun o q => (gk d M.dne).trans q), fun f => relO_one rv "reason" f⟩
    have J : Inv X pins σ (upd H1 d (.xd [(("reason" : Str), v)])) ⟨G', g, dr, tk', os⟩ := I1.laid (t' := tk') old M.dbig ob
    refine ⟨e, oe, _, ⟨G', g, dr, tk', os⟩, _, .ref C, some d, rfl, J, fun b o q => ?_, ge, hoe, ⟨hc, hd, fun vs e => by rw [hdat] at e; cases e; rfl⟩, hdat, rfl, ?_, rfl, I1.bare, raises_own T.exC T.tyC, q1 d (I1.hok.fresh M.dbig)⟩
    · by_cases hb : b = e
      · have q' : G'.get? b = some o := q
        rw [hb, ge] at q'; cases q'
      · exact (gk b hb).symm.trans q
    · rw [upd_ne (Ne.symm M.dne)]
      exact I1.hok.fresh M.new
end
end L2
namespace Ev
open PySem L2 PySem.Spec PyProof.Rows
theorem dep1 {k : Nat} {A : Around} (hr : Room k A) : A.depth + 1 < recursionLimit := by have := hr.dp; omega
def sRaise (x : Str) : SS := fun e => .exc ⟨"TalkError", [("reason", .str x)]⟩ e
structure TalkG (P : Program) (K : PySem.W.Frag) (mg : Str → Option Value) (cl : Str → Option Addr) : Prop where
  ex : ∃ C fI, cl "TalkError" = some C ∧ PySem.TalkX.Txt P K mg C fI
section
variable {X : Cx} {cl : Str → Option Addr} {W : WX} {p pos pos2 pos3 : Pos} {j : Nat} {x : Str}
theorem raise_read {C : Addr} {ta : TA} (hcl : cl "TalkError" = some C) (hx : PyData.strOk x = true ∧ x.length ≤ sizeLine) {D : Ends} {σ : L2.St} {H : Hp} (hta : ∀ Q, Q [.str x] H → ta σ H Q) (h : tS (gl X cl) W (sRaise x) D σ H) : tMkTalk C ta σ H fun cls d H' => W cls d σ H' := by
  obtain ⟨G, e, M, r, h⟩ := h
  refine hta _ ⟨_, rfl, fun d hd => ?_⟩
  exact h (.ref C) (some d) σ (upd M d (.xd [("reason", .str x)])) _ (r.ext (.newM r.sub hd)) ⟨C, d, _, rfl, hcl, rfl, upd_same, .cons (.str x hx) .nil⟩
theorem zRaiseN (hc : X.calm = true) (T : TalkG X.prog X.K X.mg cl) (hr : X.A.depth + 1 < recursionLimit) (tk : L2N.Takes X W) (hx : strB x = true := by kernel_rfl) (h : glB X "TalkError" = true := by kernel_rfl)
    (he : starEach (.Constant (.str x) j p :: []) X.env = (false, eval (.Constant (.str x) j p) X.env) :: starEach [] X.env := by rfl) (hpl : (backTo pos (starEach [] X.env)).any (·.1) = false := by rfl) :
    PS X (.Raise (some (.Call (.Name "TalkError" pos3) [.Constant (.str x) j p] [] pos)) none pos2) (tS (gl X cl) W (sRaise x)) := by
  obtain ⟨C, fI, hcl, T⟩ := T.ex
  exact PS_imp (L2N.ps_raise hc tk (pmkN_talk T hr (pa_cons pe_str pa_nil) (glB_of h).1 he hpl)) fun D σ H w => raise_read hcl (strB_of hx) (fun Q q => q) w
end
end Ev
set_option Elab.async false
set_option linter.all false
set_option autoImplicit false
set_option maxRecDepth 100000
set_option maxHeartbeats 2000000
namespace Ev
open PySem L2 PySem.Spec PyProof.Rows
def runBX (t : SS) (m n : Nat) : D → List D → ResB := fun d0 ds => if ds.length = m then (match t (startB d0 ds n) with
  | .rt v e => boxOf v e
  | .nx e => boxOf (fz .non) e
  | .exc x _ => .exc x
  | _ => .stuck) else .stuck
section
variable {g : Gl0} {M H : Hp}
theorem pure_bxX {t : SS} {m : Nat} {N : List Str} {vs : List V} {Q : VK} {E : XK} (h : spBx g (List.replicate m false) (runBX t m N.length) vs H Q E) : tS g (fun cls d _ H => E cls d H) t { nx := fun _ H' => Q .non H', rt := Q } (L2.start N vs) H := by
  obtain ⟨b, o, d0, M, us, ds, rfl, hb, ro, mb, sm, ar, hF⟩ := h
  have hl : ds.length = m := by rw [argR_len2 ar, List.length_replicate]
  refine ⟨_, _, M, rel_startB (N := N) sm hb ro mb (all_held ar), ?_⟩
  unfold runBX at hF
  rw [if_pos hl] at hF
  have ext : ∀ {e M' σ' H'}, Rel g ⟨H, M, some b, fun _ => False, fun _ => False⟩ e M' σ' H' → ExtB b M H M' H' := fun {e M' σ' H'} r => ⟨fun a o ne e => r.keep a o e (fun z => by rcases z with z | z; cases z; exact ne rfl; exact z), r.base, r.sub, fun a ha => by
    rcases r.fresh a ha with z | z | z
    · exact .inl z
    · exact .inr z
    · exact z.elim⟩
  have box : ∀ {e M' σ' H' d}, Rel g ⟨H, M, some b, fun _ => False, fun _ => False⟩ e M' σ' H' → e[0]? = some (.bx d) → ∃ o', H' b = some o' ∧ RepO g M' b o' d := fun {e M' σ' H' d} r he => by
    obtain ⟨x, _, a, o', _, ha, ro', _, e2⟩ := r.at he
    have : a = b := by
      have e3 : (some b : Option Addr) = some a := e2
      cases e3; rfl
    subst this
    exact ⟨o', ha, ro'⟩
  cases q : t (startB d0 ds N.length) with
  | rt v e =>
    rw [q] at hF
    intro x σ' M' H' r' vr
    have hF' : (match boxOf v e with
      | .ok v d1 => ∀ z M' H' o', ExtB b M H M' H' → H' b = some o' → RepO g M' b o' d1 → PX g M H M' H' z v → (v.nw = true → ∀ q, z = .ref q → M' q = none) → Q z H'
      | .exc x => ∀ c d M' H', ExtB b M H M' H' → ExR g M' c d x → E c d H'
      | .stuck => False) := hF
    unfold boxOf at hF'
    cases he : e[0]? with
    | none => rw [he] at hF'; exact hF'.elim
    | some s =>
      rw [he] at hF'
      cases s with
      | bx d =>
        obtain ⟨o', hb', ro'⟩ := box r' he
        refine hF' x M' H' o' (ext r') hb' ro' ?_ ?_
        · obtain ⟨d, bb⟩ := v
          cases bb with
          | false => exact vr
          | true =>
            obtain ⟨p, o, e1, hp, ro, mp, h0⟩ := vr
            refine ⟨p, o, e1, ?_, hp, ro⟩
            rcases h0 with h0 | h0
            · exact h0
            · exact h0.elim
        · obtain ⟨d, bb⟩ := v
          cases bb with
          | false => exact fun z => by cases z
          | true =>
            intro _ q0 eq
            obtain ⟨p, o, e1, hp, ro, mp, h0⟩ := vr
            rw [e1] at eq; cases eq
            exact mp
      | _ => exact hF'.elim
  | nx e =>
    rw [q] at hF
    intro σ' M' H' r'
    have hF' : (match boxOf (fz .non) e with
      | .ok v d1 => ∀ z M' H' o', ExtB b M H M' H' → H' b = some o' → RepO g M' b o' d1 → PX g M H M' H' z v → (v.nw = true → ∀ q, z = .ref q → M' q = none) → Q z H'
      | .exc x => ∀ c d M' H', ExtB b M H M' H' → ExR g M' c d x → E c d H'
      | .stuck => False) := hF
    unfold boxOf at hF'
    cases he : e[0]? with
    | none => rw [he] at hF'; exact hF'.elim
    | some s =>
      rw [he] at hF'
      cases s with
      | bx d =>
        obtain ⟨o', hb', ro'⟩ := box r' he
        exact hF' .non M' H' o' (ext r') hb' ro' .non (fun z => by cases z)
      | _ => exact hF'.elim
  | bk e => rw [q] at hF; exact hF.elim
  | ct e => rw [q] at hF; exact hF.elim
  | exc x e =>
    rw [q] at hF
    intro c d σ' M' H' r' xr
    exact hF c d M' H' (ext r') xr
  | stuck => rw [q] at hF; exact hF.elim
end
section
variable {X : Cx} {W : WX}
abbrev PassQ (CX : CXT) (X : Cx) (W : WX) : Prop := ∀ σ, PassesAt CX X σ (WAt W σ)
theorem cx_nl {P : Program} {w : World} {outer : List Env} {H : Hp} {s : Shared} {E : XK} {u : Value} {s' : Shared} (h : L2N.CX P w outer H s E u s') : L2.CX P w outer H s E u s' := by
  obtain ⟨a, B, H', cls, d, e, fl, r⟩ := h
  exact ⟨a, B, H', cls, d, e, L2H.flyingZ_imp (fun o z => L2N.Zn.zc z) fl, r⟩
theorem passNL (tk : L2.Takes X W) : PassQ (L2N.CX X.prog X.w) X W := fun σ pins H s e s' I c => L2.passAt tk σ pins H s e s' I (cx_nl c)
theorem cx_no {P : Program} {w : World} {outer : List Env} {H : Hp} {s : Shared} {E : XK} {u : Value} {s' : Shared} (h : L2.CX P w outer H s E u s') (hE : ∀ c d H, ¬ E c d H) : False := by
  obtain ⟨a, B, H', cls, d, _, _, _, _, _, _, _, z⟩ := h
  exact hE _ _ _ z
theorem passN0 : PassQ (L2N.CX X.prog X.w) X W0 := fun σ pins H s e s' I c => (cx_no (cx_nl c) fun _ _ _ z => z).elim
end
end Ev
set_option Elab.async false
set_option linter.all false
set_option autoImplicit false
set_option maxRecDepth 100000
set_option maxHeartbeats 2000000
namespace Ev
open PySem L2 PySem.Spec PyProof.Rows
structure FnQ (CX : CXT) (P : Program) (w : World) (K : PySem.W.Frag) (mg : Str → Option Value) (base : Heap) (k : Nat) (x : Str) (n : Nat) (sp : Sp) : Prop where
  ex : ∃ f fd ps, FnOk P w K mg base CX k f fd ps sp ∧ mg x = some (.ref f) ∧ PySem.W.keepIn K (.ref f) = true ∧ Binds K fd ps []
structure ClQ (CX : CXT) (P : Program) (w : World) (K : PySem.W.Frag) (mg : Str → Option Value) (base : Heap) (cl : Str → Option Addr) (k : Nat) (x : Str) (sp : Sp) : Prop where
  ex : ∃ C f fd ps, cl x = some C ∧ Mk K C f ∧ FnOk P w K mg base CX k f fd ps sp ∧ mg x = some (.ref C) ∧ Binds K fd ps []
section
variable {X : Cx} {cl : Str → Option Addr} {W : WX} {CX : CXT} {pos pos2 pos3 : Pos} {x : Str} {a : Expr} {es : List Expr} {ms : List (Sx Opd)} {modes : List Bool} {k k' : Nat}
theorem kMakeQ {F : D → List D → ResB} (FO : ClQ CX X.prog X.w X.K X.mg X.base cl k x (spBx (gl X cl) modes F)) (px : PassQ CX X W) {A : Around} (hr : Room k' A) (hk : k + 1 ≤ k') (ha : VA X cl W (a :: es) ms) (h : glB X x = true := by kernel_rfl) (eA : X.A = A := by rfl)
    (he : starEach (a :: es) X.env = (false, eval a X.env) :: starEach es X.env := by rfl) (hpl : (backTo pos (starEach es X.env)).any (·.1) = false := by rfl) : VE X cl W (.Call (.Name x pos2) (a :: es) [] pos) (sMake x modes F ms) := by
  subst eA
  obtain ⟨C, f, fd, ps, hC, MK, ok, hm, hb⟩ := FO.ex
  obtain ⟨g1, g2⟩ := glB_of h
  exact ve_make (CX := CX) hC MK ok (hr.mono hk) g1 hm hb (fun t hp => pe_makeSD (E := WAt W) MK ok (hr.mono hk) g1 hm hb .nil px hp g2 he hpl) ha
end
section
variable {P : Program} {w : World} {K : PySem.W.Frag} {mg : Str → Option Value} {base : Heap} {cl : Str → Option Addr} {x qual : Str} {params : Arguments} {body : List Stmt} {scope : Scope} {f : Addr} {fd : FuncData} {N ps : List Str} {k : Nat}
abbrev WO (E : XK) : WX := fun cls d _ H => E cls d H
structure InL (X : Cx) (W : WX) : Prop where
  tk : L2.Takes X W
  hp : PassesOwn (model X.prog X.w) X.A X.env X.xe
  pa : ∀ hd : Option Value, PassesOwnAt (model X.prog X.w) (X.A.mark hd) X.A X.env X.xe
structure InN (X : Cx) (W : WX) : Prop where
  tk : L2N.Takes X W
  hp : PassesOwn (model X.prog X.w) X.A X.env X.xe
abbrev ctxN (P : Program) (w : World) (K : PySem.W.Frag) (mg : Str → Option Value) (base : Heap) (N : List Str) (qual : Str) (scope : Scope) (f : Addr) (cdv : Value) (A : Around) (outer : List Env) (s : Shared) (H : Hp) (E : XK) : Cx := cxOf (L2N.CX P w) P w K mg base N qual scope f cdv A outer s H E
theorem bx_okN {m : Nat} {t : SS} (F : FunD K x qual params body scope [] [] f fd) (S : FnScope N ps scope) (hl : m + 1 = ps.length)
    (der : ∀ (cdv : Value) (A : Around) (outer : List Env) (s : Shared) (H : Hp) (E : XK), Room k (ctxN P w K mg base N qual scope f cdv A outer s H E).A → InN (ctxN P w K mg base N qual scope f cdv A outer s H E) (WO E) → VSs (ctxN P w K mg base N qual scope f cdv A outer s H E) cl (WO E) body t) :
    FnOk P w K mg base (L2N.CX P w) (k + 1) f fd ps (spBx ⟨P, w, K, cl⟩ (List.replicate m false) (runBX t m N.length)) :=
  F.ok S (fun vs H Q E h => by rw [spBx_len h, List.length_replicate]; exact hl) fun cdv A outer s H vs Q E hr h => ⟨_, der cdv A outer s H E hr ⟨L2N.takes_of rfl rfl rfl rfl, L2.passes_of rfl⟩, pure_bxX h⟩
end
def sTry (b : SS) (h : Exn → SS) : SS := fun e => match b e with
  | .exc x e' => if x.cls = "TalkError" then h x e' else .stuck
  | r => r
def hReason (i : Nat) (x : Exn) : SS := fun e => match e[i]?, x.fs with
  | some _, [(f, d)] => if f = "reason" then .rt (fz d) e else .stuck
  | _, _ => .stuck
section
variable {X : Cx} {C fI : Addr}
def tByTalk (C : Addr) (a : Addr) (cls : Value) (d : Option Addr) (te : TE) : TE := fun σ H Q => te σ H fun x H1 => x = .ref a ∧ cls = .ref C ∧ ∃ (dd : Addr) (v : V), d = some dd ∧ H1 dd = some (.xd [(("reason" : Str), v)]) ∧ Q v H1
theorem pe_byTalk {a : Addr} {oe : Obj} {cls : Value} {d : Option Addr} {pn : List (Addr × Obj)} {e : Expr} {te : TE} {pos : Pos} (T : PySem.TalkX.Txt X.prog X.K X.mg C fI) (hz : Zc cls d oe) (hf : ∃ vs, oe.data = .fields vs) (he : PE (X.suite a ((a, oe) :: pn)) e te)
    (hb : attributeBase e "reason" X.env (eval e X.env) = eval e X.env := by rfl) :
    PE (X.suite a ((a, oe) :: pn)) (.Attribute e "reason" pos) (tByTalk C a cls d te) := by
  refine ⟨fun pins s σ H Q I h => ?_⟩
  refine attr_of hb (thn (he.run pins s σ H _ I h) fun u s1 hh => ?_)
  obtain ⟨x, H1, I1, rx, ex, ec, dd, v, ed, ea, q⟩ := hh
  subst ex
  obtain rfl : u = Value.ref a := rx
  subst ec
  subst ed
  obtain ⟨ha, _⟩ := I1.pin (a, oe) (List.mem_append_left _ List.mem_cons_self)
  obtain ⟨vs, hd⟩ := hf
  have hx : ObjOk X.prog X.w H1 s1.heap dd (.xd [(("reason" : Str), v)]) := I1.hok dd _ ea
  obtain ⟨mA, hns, hr⟩ := hx
  obtain ⟨od, ho, hl⟩ := lookIn_ns hns
  have l : List.lookup ("reason" : Str) [(("reason" : Str), v)] = some v := by simp [List.lookup]
  obtain ⟨u, hu, ru⟩ := RelO.some_of (v := v) (o := mA "reason") (by rw [← l]; exact hr "reason")
  have J : PySem.W.InstAt s1.heap a oe C (some od) := ⟨ha, hz.1, by unfold PySem.W.notCls; rw [hd] <;> rfl, by rw [hz.2]; exact ho⟩
  exact HandSPX.exc_get I1.kIn J T.ga T.gg T.exC (PySem.W.findObj_own T.hdC T.noN rfl (by rw [hl, hu])) (handed_of ru) ⟨v, H1, I1.tok _, ru, q⟩
end
section
variable {X : Cx} {cl : Str → Option Addr} {W : WX} {body : List Stmt} {b : SS} {n : Str} {np p1 p2 p3 pos pos' : Pos} {i : Nat}
theorem zTryR (T : TalkG X.prog X.K X.mg cl) (hN : X.N.Nodup) (i : Nat)
    (hb : ∀ (W : WX) (pn : List (Addr × Obj)) (xe : Value → Shared → Prop), L2.Takes (X.tr pn xe) W → PassesOwn (model X.prog X.w) X.A X.env xe → VSs (X.tr pn xe) cl W body b)
    (tk : L2.Takes X W) (hi : (decide (X.N[i]? = some n) && decide (X.env.kindOf n = some .local)) = true := by kernel_rfl) (h : glB X "TalkError" = true := by kernel_rfl)
    (hv : nmB X i n = true := by kernel_rfl) (hs : X.stack = X.env :: X.outer := by rfl) (hf : X.env.frame = some X.env.locals := by rfl) (hbs : attributeBase (.Name n p1) "reason" X.env (eval (.Name n p1) X.env) = eval (.Name n p1) X.env := by rfl) :
    VS X cl W (.Try body [.ExceptHandler (some (.Name "TalkError" np)) (some n) [.Return (some (.Attribute (.Name n p1) "reason" p2)) p3] pos'] [] [] pos) (sTry b (hReason i)) := by
  obtain ⟨C, fI, hcl, T⟩ := T.ex
  simp only [Bool.and_eq_true, decide_eq_true_eq] at hi
  obtain ⟨v1, v2, v3, v4⟩ := nmB_of hv
  refine PS_imp (L2.ps_try_as (i := i) (tb := fun W => tS (gl X cl) W b) (ts := fun a cls d => tRet (tByTalk C a cls d (tVar i))) (Wout := W) hs hf hN hi.1 hi.2 ⟨(glB_of h).1, (glB_of h).2, .inl T.gC⟩ tk
    (fun W pn xe tk' hp => hb W pn xe tk' hp)
    (fun a oe cls d pn hz hfz => pss_one (ps_ret (pe_byTalk T hz hfz (pe_var (X := X.suite a ((a, oe) :: pn)) v1 v2 v3 v4) hbs)))) fun D σ H ⟨G, e, M, r, w⟩ => ⟨G, e, M, r, ?_⟩
  unfold sTry at w
  cases q : b e with
  | nx e' => rw [q] at w; exact w
  | rt v e' => rw [q] at w; exact w
  | bk e' => rw [q] at w; exact w
  | ct e' => rw [q] at w; exact w
  | stuck => rw [q] at w; exact w
  | exc x e' =>
    rw [q] at w
    obtain ⟨xc, xf⟩ := x
    have w : sPost (gl X cl) W G D (if xc = "TalkError" then hReason i ⟨xc, xf⟩ e' else .stuck) := w
    by_cases hx : xc = "TalkError"
    · rw [if_pos hx] at w
      intro cls d σ' M' H' r' xr
      obtain ⟨C2, dd, fs, rfl, hC2, rfl, hdd, rf⟩ := xr
      have hC2 : cl xc = some C2 := hC2
      rw [hx, hcl] at hC2
      cases hC2
      refine ⟨true, T.te, fun _ a ha => ?_, fun z => Bool.noConfusion z⟩
      unfold hReason at w
      cases hei : e'[i]? with
      | none => rw [hei] at w; exact w.elim
      | some sl =>
        rw [hei] at w
        have hl : i < σ'.length := by rw [← r'.len]; exact (List.getElem?_eq_some_iff.mp hei).1
        cases rf with
        | nil => exact w.elim
        | @cons fn vv dv fs2 ds2 rv rest =>
          cases rest with
          | cons _ _ => exact w.elim
          | nil =>
            have w2 : sPost (gl X cl) W G D (if fn = "reason" then Fl.rt (fz dv) e' else .stuck) := w
            by_cases hfn : fn = "reason"
            · rw [if_pos hfn] at w2
              subst hfn
              exact ⟨.ref a, List.getElem?_set_self hl, rfl, rfl, dd, vv, rfl, r'.sub _ _ hdd, w2 vv σ' M' H' r' rv⟩
            · rw [if_neg hfn] at w2
              exact w2.elim
    · rw [if_neg hx] at w
      exact w.elim
end
end Ev
set_option Elab.async false
set_option linter.all false
set_option autoImplicit false
set_option maxRecDepth 100000
set_option maxHeartbeats 2000000
namespace Ev
open PySem L2 PySem.Spec PyProof.Rows PySem.W
abbrev FnV2 : Type := Option (Str × Str × Arguments × FuncBody × Scope × Addr × List Str × Value × Value × Addr)
def talkFn (K : Frag) : FnV2 := match K.lookup (He.ma K (He.ga K "TalkError") "__init__") with
  | some ⟨_, _, .func fd, _⟩ => some (fd.name, fd.qualname, fd.params, fd.body, fd.scope, fd.globals, fd.closure.map (·.1), fd.defaults, fd.kwdefaults, fd.builtins)
  | _ => none
def talkVal : FnV2 := some ("__init__", "TalkError.__init__", PySem.TalkX.iA, .stmts PySem.TalkX.iB, PySem.TalkX.iS, mainGlobals, ["__class__"], .none, .none, builtinsNs)
def talkB (file : Str) (K : Frag) : Bool :=
  let C := He.ga K "TalkError"
  let fI := He.ma K C "__init__"
  (excInitIn K C PySem.TalkX.veB "ValueError.__new__" && (match clsIn K C with | some cd => HandSPX.refsVE cd.mro && cd.hasDict | none => false)) &&
  ((decide (findIn K (.ref C) "__setattr__" = some (some (.builtin "object.__setattr__"))) && decide (findIn K (.ref C) "__getattribute__" = some (some (.builtin "BaseException.__getattribute__")))) &&
  (decide (findIn K (.ref C) "__getattr__" = some none) && decide (findIn K (.ref C) "reason" = some none))) &&
  ((decide (findIn K (.ref C) "__init__" = some (some (.ref fI))) && decide (typeIn K (.ref fI) = some (.type "function"))) && (keepIn K (.ref C) && decide (subIn K (.ref C) (.type "BaseException") = some true))) &&
  ((decide (subIn K (.ref C) (.type "ValueError") = some true) && decide (typeIn K (.ref C) = some (.type "type"))) && (hasDictIn K C && decide (exmOne K (.ref C) (.ref C) = some true))) &&
  ((decide (ks_superIn K C C "__init__" = some (some (.builtin "ValueError.__init__"))) && decide (mroIn K C (.ref C) = some true)) && decide (nsIn K cStatics "thirdparty.any" = some none)) &&
  (decide (nsIn K mainGlobals "TalkError" = some (some (.ref C))) && decide (nsIn K mainGlobals "super" = some none)) &&
  (match K.lookup fI with
    | some ⟨_, _, .func fd, _⟩ => (match fd.code, fd.closure with
      | .ref cda, [(_, cc)] => codeIn K (.ref cda) "TalkError.__init__" && (match K.lookup cda with
        | some ⟨_, _, .fields vs, _⟩ => (match (vs[2]? : Option Value) with
          | some (.str f _) => f == file
          | _ => false)
        | _ => false) && (match K.lookup cc with
        | some ⟨_, _, .cell (some (.ref D)), _⟩ => D == C
        | _ => false)
      | _, _ => false)
    | _ => false)
theorem talk_ok {P : Program} {K : Frag} {h : Heap} {mg : Str → Option Value} {cl : Str → Option Addr} {file : Str} (X : K.In h) (Gh : h.Ns mainGlobals mg) (hb : talkB file K = true) (hf : talkFn K = talkVal) (hp : P.main.file = file) (htop : (P.main.scope.names.lookup ("super" : Str)).isSome = false)
    (hcl : cl "TalkError" = some (He.ga K "TalkError")) : TalkG P K mg cl := by
  unfold talkB at hb
  simp only [Bool.and_eq_true, decide_eq_true_eq] at hb
  obtain ⟨⟨⟨⟨⟨⟨⟨b1, b2⟩, ⟨b3, b4⟩, b5, b6⟩, ⟨b7, b8⟩, b9, b10⟩, ⟨b11, b12⟩, b13, b14⟩, ⟨b15, b16⟩, b17⟩, b18, b19⟩, b20⟩ := hb
  refine ⟨He.ga K "TalkError", He.ma K (He.ga K "TalkError") "__init__", hcl, ?_⟩
  refine ⟨mg_of X Gh b18, b1, ?_, b3, b4, b5, b6, b7, b8, b9, b10, b11, b12, b13, b14, b15, b16, b17, mg_none_of X Gh b19, htop, ?_⟩
  · cases q : clsIn K (He.ga K "TalkError") with
    | none => rw [q] at b2; cases b2
    | some cd =>
      rw [q] at b2
      obtain ⟨z1, z2⟩ := Bool.and_eq_true_iff.mp b2
      exact ⟨cd, rfl, z1, z2⟩
  · unfold talkFn at hf
    cases q : K.lookup (He.ma K (He.ga K "TalkError") "__init__") with
    | none => rw [q] at b20; cases b20
    | some o =>
      obtain ⟨oc, od, dt, osl⟩ := o
      rw [q] at b20 hf
      cases dt with
      | func fd =>
        obtain ⟨n1, n2, n3, n4, n5, n6, n7, n8, n9, n10, n11, n12, n13, n14, n15⟩ := fd
        have e2 : (some (n1, n2, n3, n4, n5, n6, n7.map (·.1), n8, n9, n15) : FnV2) = talkVal := hf
        unfold talkVal at e2
        simp only [Option.some.injEq, Prod.mk.injEq] at e2
        obtain ⟨h1, h2, h3, h4, h5, h6, h7, h8, h9, h10⟩ := e2
        subst h1 h2 h3 h4 h5 h6 h8 h9 h10
        cases n13 with
        | ref cda =>
          cases n7 with
          | nil => cases h7
          | cons c0 r =>
            cases r with
            | cons _ _ => exact absurd (congrArg List.length h7) (by simp)
            | nil =>
              obtain ⟨cn, cc⟩ := c0
              have hcn : cn = ("__class__" : Str) := (List.cons.inj (show [cn] = [("__class__" : Str)] from h7)).1
              have b20' : ((codeIn K (.ref cda) "TalkError.__init__" && (match K.lookup cda with
                | some ⟨_, _, .fields vs, _⟩ => (match (vs[2]? : Option Value) with
                  | some (.str f _) => f == file
                  | _ => false)
                | _ => false)) && (match K.lookup cc with
                | some ⟨_, _, .cell (some (.ref D)), _⟩ => D == He.ga K "TalkError"
                | _ => false)) = true := b20
              obtain ⟨z, z3⟩ := Bool.and_eq_true_iff.mp b20'
              obtain ⟨z1, z2⟩ := Bool.and_eq_true_iff.mp z
              refine ⟨oc, od, n10, n11, n12, cda, n14, osl, cc, by rw [hcn], z1, ?_, ?_⟩
              · cases q2 : K.lookup cda with
                | none => rw [q2] at z2; cases z2
                | some o2 =>
                  obtain ⟨c1, d1, dt1, s1⟩ := o2
                  rw [q2] at z2
                  cases dt1 with
                  | fields vs =>
                    have z2' : (match (vs[2]? : Option Value) with | some (.str f _) => f == file | _ => false) = true := z2
                    cases q3 : vs[2]? with
                    | none => rw [q3] at z2'; cases z2'
                    | some v =>
                      rw [q3] at z2'
                      cases v with
                      | str f t => exact ⟨c1, d1, vs, s1, f, t, rfl, q3, by rw [hp]; rw [beq_iff_eq.mp (show (f == file) = true from z2')]; exact beq_self_eq_true _⟩
                      | _ => cases z2'
                  | _ => cases z2
              · cases q2 : K.lookup cc with
                | none => rw [q2] at z3; cases z3
                | some o2 =>
                  obtain ⟨c1, d1, dt1, s1⟩ := o2
                  rw [q2] at z3
                  cases dt1 with
                  | cell v =>
                    cases v with
                    | none => cases z3
                    | some v =>
                      cases v with
                      | ref D =>
                        have : D = He.ga K "TalkError" := beq_iff_eq.mp z3
                        subst this
                        exact ⟨c1, d1, s1, rfl⟩
                      | _ => cases z3
                  | _ => cases z3
        | _ => cases b20
      | _ => cases b20
def SaysY (fa : List He.Fa) (fn : List He.DefD) (ex : Frag → Bool) (K : Frag) : Prop := ex K = true ∧ talkFn K = talkVal ∧ He.SaysD fa fn K
end Ev
set_option Elab.async false
set_option linter.all false
set_option autoImplicit false
set_option maxRecDepth 100000
set_option maxHeartbeats 1000000
namespace Ev
open PySem
def talkE (r : Str) : Exn := ⟨"TalkError", [("reason", .str r)]⟩
section
variable {t : SS} {a b c : SS} {m n : Nat} {d0 d : D} {ds : List D} {e e1 e2 e3 e' : En} {v : Vl} {x : Exn} {modes : List Bool} {tt : Sx Bool}
def Xc (t : SS) (e : En) (x : Exn) : Prop := ∃ e', t e = .exc x e'
def Xo {α : Type} (m : Sx α) (e : En) (x : Exn) : Prop := ∃ e', m e = .exc x e'
theorem Xc.then (h : a e = .nx e1) (k : Xc b e1 x) : Xc (sThen a b) e x := let ⟨e', k⟩ := k; ⟨e', then_step h k⟩
theorem Xc.stop (h : Xc a e x) : Xc (sThen a b) e x := let ⟨e', h⟩ := h; ⟨e', by unfold sThen; rw [h]⟩
theorem Xc.ift (h : tt e = .ok true e1) (k : Xc a e1 x) : Xc (sIfS tt a b) e x := let ⟨e', k⟩ := k; ⟨e', if_t h k⟩
theorem Xc.gt (h : tt e = .ok true e1) (k : Xc a e1 x) : Xc (sThen (sIfS tt a c) b) e x := Xc.stop (Xc.ift h k)
theorem Xc.ret {m : Sx Vl} (h : Xo m e x) : Xc (sRet m) e x := let ⟨e', h⟩ := h; ⟨e', by unfold sRet; rw [h]⟩
theorem Xc.drop {m : Sx Vl} (h : Xo m e x) : Xc (sDrop m) e x := let ⟨e', h⟩ := h; ⟨e', by unfold sDrop; rw [h]⟩
theorem Xo.call {F : List D → Res Vl} {ms : List (Sx Opd)} (h : Xo (sOps ms) e x) : Xo (sCall modes F ms) e x := let ⟨e', h⟩ := h; ⟨e', by unfold sCall; rw [h]; rfl⟩
theorem Xo.lst {ms : List (Sx Opd)} (h : Xo (sOps ms) e x) : Xo (sLst ms) e x := let ⟨e', h⟩ := h; ⟨e', by unfold sLst sSeqD; rw [h]; rfl⟩
theorem Xo.tBool {m : Sx Vl} (h : Xo m e x) : Xo (tBool m) e x := let ⟨e', h⟩ := h; ⟨e', by unfold Ev.tBool; rw [h]; rfl⟩
end
section
variable {c : Str} {e e1 e2 e3 e4 e5 : En} {m1 m2 m3 m4 m5 : Sx Opd} {d1 d2 d3 d4 d5 d : D} {x : Exn} {F : List D → Res Vl} {B : D → List D → ResB}
end
section
variable {b : SS} {h : Exn → SS} {e e' : En} {x : Exn} {v : Vl} {i : Nat} {s : Slot} {r : Str}
theorem try_exc {r : Fl} (q : b e = .exc x e') (hx : x.cls = "TalkError") (k : h x e' = r) : sTry b h e = r := by
  unfold sTry
  rw [q]
  have : (if x.cls = "TalkError" then h x e' else .stuck) = r := by rw [if_pos hx]; exact k
  exact this
theorem reason_rt (hs : e[i]? = some s) : hReason i (talkE r) e = .rt (fz (.str r)) e := by
  unfold hReason talkE
  rw [hs]
  simp
end
section
variable {c : Str} {e e1 e2 e3 e4 e5 : En} {m m1 m2 m3 m4 m5 : Sx Opd} {n : Sx Vl} {ms : List (Sx Opd)} {modes : List Bool} {d1 d2 d3 d4 d5 d : D} {x : Exn} {F : List D → Res Vl} {B : D → List D → ResB} {i : Nat}
theorem Rt.reason {b : SS} {r : Str} {s : Slot} (q : b e = .exc (talkE r) e1) (hs : e1[i]? = some s) : Rt (sTry b (hReason i)) e (fz (.str r)) := ⟨_, try_exc q rfl (reason_rt hs)⟩
end
end Ev
set_option Elab.async false
set_option linter.all false
set_option autoImplicit false
set_option maxRecDepth 100000
set_option maxHeartbeats 2000000
namespace Ev
open PySem L2 PySem.Spec PyProof.Rows
def talkIK (C : Addr) (K : PySem.W.Frag) : Bool := decide (PySem.W.findIn K (.ref C) "__class__" = some (some (.builtin "object.__class__"))) && decide (PySem.W.specialIn K (.builtin "object.__class__") "__get__" = some (some (.builtin "getset_descriptor.__get__"))) &&
  decide (PySem.W.takesIn K (.builtin "object.__class__") = some true) && decide (PySem.W.mroIn K C (.type "object") = some true) && decide (PySem.W.kitOne K (.ref C) (.type "ValueError") = some true) && (PySem.W.clsIn K C).isSome
end Ev
set_option Elab.async false
set_option linter.all false
set_option autoImplicit false
set_option maxRecDepth 100000
namespace Ev
open PySem L2 PySem.Spec PyProof.Rows PySem.W
def obsZ (as : List Addr) (fa : List He.Fa) (fn : List He.DefD) (ex : Frag → Bool) (gt : Addr → Option Obj) : Bool × FnV2 × He.AlD := (ex (He.frG gt as), talkFn (He.frG gt as), He.obsD fa fn (He.frG gt as))
def hookZ (as : List Addr) (fa : List He.Fa) (fn : List He.DefD) (ex : Frag → Bool) : PySem.W.Hook where
  α := Bool × FnV2 × He.AlD
  obs := fun s => obsZ as fa fn ex s.heap.get?
  val := fun _ => (true, talkVal, He.valD fn)
  says := fun _ h => ∃ K : Frag, K.In h ∧ SaysY fa fn ex K
  of := fun _ _ e => ⟨_, He.frG_in, congrArg (fun z : Bool × FnV2 × He.AlD => z.1) e, congrArg (fun z : Bool × FnV2 × He.AlD => z.2.1) e, congrArg (fun z : Bool × FnV2 × He.AlD => z.2.2) e⟩
  keeps := fun _ _ _ ⟨K, hK, c⟩ k => ⟨K, PySem.W.Frag.In.keeps hK k, c⟩
theorem obsZ_eq {as : List Addr} {fa : List He.Fa} {fn : List He.DefD} {ex : Frag → Bool} {gt : Addr → Option Obj} {s : Shared} (h : ∀ a, gt a = s.heap.get? a) : obsZ as fa fn ex gt = (hookZ as fa fn ex).obs s := by
  have e : gt = s.heap.get? := funext h
  rw [e] <;> rfl
end Ev
set_option Elab.async false
set_option linter.all false
set_option autoImplicit false
set_option maxRecDepth 100000
set_option maxHeartbeats 0
namespace Lw
open PySem PySem.Spec PyProof.Rows Ev
open L2 (FunD FnScope FnOk defArgs defBody defScope inClass)
def top (i : Nat) : Stmt := PySem.Challenge.pw_allwhotalk_k01_machines_are_checked.main.body.getD i (.Pass ⟨0, 0, 0, 0⟩)
abbrev FnP (K : PySem.W.Frag) (x q : Str) (st : Stmt) (f : Addr) (fd : FuncData) : Prop := FunD K x q (defArgs st) (defBody st) (defScope st) [] [] f fd
def at_ (c f : Str) : Bool := (decide (c = "Link") && decide (f = "capacity")) || (decide (c = "Link") && decide (f = "doubles")) || (decide (c = "Link") && decide (f = "losses")) || (decide (c = "Link") && decide (f = "order")) || (decide (c = "Links") && decide (f = "to_partner")) || (decide (c = "Links") && decide (f = "to_service")) || (decide (c = "Partner") && decide (f = "final")) || (decide (c = "Partner") && decide (f = "states")) || (decide (c = "Partner") && decide (f = "transitions")) || (decide (c = "Service") && decide (f = "final")) || (decide (c = "Service") && decide (f = "inputs")) || (decide (c = "Service") && decide (f = "outputs")) || (decide (c = "Service") && decide (f = "states")) || (decide (c = "Service") && decide (f = "transitions"))
abbrev s_u_law_cell : Stmt := (top 25)
abbrev s_u_law_row : Stmt := (top 26)
abbrev s_u_law_draw : Stmt := (top 27)
abbrev s_u_law_face : Stmt := (top 28)
abbrev s_u_law_service : Stmt := (top 29)
abbrev s_is_message : Stmt := (top 11)
abbrev s_is_ascending : Stmt := (top 13)
abbrev s_u_are_messages : Stmt := (top 14)
abbrev s_is_number : Stmt := (top 10)
abbrev s_u_are_transitions : Stmt := (top 15)
abbrev s_u_are_final : Stmt := (top 16)
abbrev s_u_is_shape : Stmt := (top 17)
abbrev s_C_Service : Stmt := (inClass (top 18) 0)
abbrev s_u_law_service_told : Stmt := (top 36)
abbrev s_u_law_spoiled : Stmt := (top 39)
abbrev s_labels_of : Stmt := (top 22)
abbrev s_u_law_made : Stmt := (top 33)
abbrev s_u_law_labels : Stmt := (top 31)
abbrev s_u_law_partner : Stmt := (top 32)
abbrev s_is_label : Stmt := (top 12)
abbrev s_C_Partner : Stmt := (inClass (top 19) 0)
abbrev s_u_law_partner_told : Stmt := (top 37)
abbrev s_u_law_bad_partner : Stmt := (top 40)
abbrev s_is_partner_for : Stmt := (top 23)
abbrev s_u_law_mate : Stmt := (top 35)
abbrev s_u_law_link : Stmt := (top 30)
abbrev s_C_Link : Stmt := (inClass (top 20) 0)
abbrev s_u_law_link_told : Stmt := (top 38)
abbrev s_u_law_bad_link : Stmt := (top 41)
abbrev s_u_law_at_bounds : Stmt := (top 42)
abbrev s_u_law_own_lists : Stmt := (top 43)
abbrev s_C_Links : Stmt := (inClass (top 21) 0)
abbrev s_u_law_links : Stmt := (top 34)
abbrev s_law : Stmt := (top 44)
def fa : List He.Fa := [.free "ValueError", .free "abs", .free "all", .free "any", .free "bool", .free "int", .free "isinstance", .free "len", .free "list", .free "range", .free "sorted", .free "str", .free "tuple", .free "zip", .str "LETTERS" "abcdefghijklmnopqrstuvwxyz", .int "LONGEST_MESSAGE" 8, .int "MOST_MESSAGES" 3, .int "MOST_PARTNER_STATES" 300, .int "MOST_PARTNER_TRANSITIONS" 2000, .int "MOST_STATES" 12, .int "MOST_TRANSITIONS" 60, .glo "Link", .cls "Link", .glo "Links", .cls "Links", .glo "Partner", .cls "Partner", .glo "Service", .cls "Service", .noat "Link" "capacity", .noat "Link" "doubles", .noat "Link" "losses", .noat "Link" "order", .noat "Links" "to_partner", .noat "Links" "to_service", .noat "Partner" "final", .noat "Partner" "states", .noat "Partner" "transitions", .noat "Service" "final", .noat "Service" "inputs", .noat "Service" "outputs", .noat "Service" "states", .noat "Service" "transitions", .glo "_law_cell", .glo "_law_row", .glo "_law_draw", .glo "_law_face", .glo "_law_service", .glo "is_message", .glo "is_ascending", .glo "_are_messages", .glo "is_number", .glo "_are_transitions", .glo "_are_final", .glo "_is_shape", .mkr "Service", .glo "_law_service_told", .glo "_law_spoiled", .glo "labels_of", .glo "_law_made", .glo "_law_labels", .glo "_law_partner", .glo "is_label", .mkr "Partner", .glo "_law_partner_told", .glo "_law_bad_partner", .glo "is_partner_for", .glo "_law_mate", .glo "_law_link", .mkr "Link", .glo "_law_link_told", .glo "_law_bad_link", .glo "_law_at_bounds", .glo "_law_own_lists", .mkr "Links", .glo "_law_links", .glo "law"]
def dd_u_law_cell : He.DefD := ⟨("_law_cell", none), "_law_cell", "_law_cell", defArgs s_u_law_cell, defBody s_u_law_cell, defScope s_u_law_cell, [], []⟩
def dd_u_law_row : He.DefD := ⟨("_law_row", none), "_law_row", "_law_row", defArgs s_u_law_row, defBody s_u_law_row, defScope s_u_law_row, [], []⟩
def dd_u_law_draw : He.DefD := ⟨("_law_draw", none), "_law_draw", "_law_draw", defArgs s_u_law_draw, defBody s_u_law_draw, defScope s_u_law_draw, [], []⟩
def dd_u_law_face : He.DefD := ⟨("_law_face", none), "_law_face", "_law_face", defArgs s_u_law_face, defBody s_u_law_face, defScope s_u_law_face, [], []⟩
def dd_u_law_service : He.DefD := ⟨("_law_service", none), "_law_service", "_law_service", defArgs s_u_law_service, defBody s_u_law_service, defScope s_u_law_service, [], []⟩
def dd_is_message : He.DefD := ⟨("is_message", none), "is_message", "is_message", defArgs s_is_message, defBody s_is_message, defScope s_is_message, [], []⟩
def dd_is_ascending : He.DefD := ⟨("is_ascending", none), "is_ascending", "is_ascending", defArgs s_is_ascending, defBody s_is_ascending, defScope s_is_ascending, [], []⟩
def dd_u_are_messages : He.DefD := ⟨("_are_messages", none), "_are_messages", "_are_messages", defArgs s_u_are_messages, defBody s_u_are_messages, defScope s_u_are_messages, [], []⟩
def dd_is_number : He.DefD := ⟨("is_number", none), "is_number", "is_number", defArgs s_is_number, defBody s_is_number, defScope s_is_number, [], []⟩
def dd_u_are_transitions : He.DefD := ⟨("_are_transitions", none), "_are_transitions", "_are_transitions", defArgs s_u_are_transitions, defBody s_u_are_transitions, defScope s_u_are_transitions, [], []⟩
def dd_u_are_final : He.DefD := ⟨("_are_final", none), "_are_final", "_are_final", defArgs s_u_are_final, defBody s_u_are_final, defScope s_u_are_final, [], []⟩
def dd_u_is_shape : He.DefD := ⟨("_is_shape", none), "_is_shape", "_is_shape", defArgs s_u_is_shape, defBody s_u_is_shape, defScope s_u_is_shape, [], []⟩
def dd_C_Service : He.DefD := ⟨("Service", some "__init__"), "__init__", "Service.__init__", defArgs s_C_Service, defBody s_C_Service, defScope s_C_Service, [], []⟩
def dd_u_law_service_told : He.DefD := ⟨("_law_service_told", none), "_law_service_told", "_law_service_told", defArgs s_u_law_service_told, defBody s_u_law_service_told, defScope s_u_law_service_told, [], []⟩
def dd_u_law_spoiled : He.DefD := ⟨("_law_spoiled", none), "_law_spoiled", "_law_spoiled", defArgs s_u_law_spoiled, defBody s_u_law_spoiled, defScope s_u_law_spoiled, [], []⟩
def dd_labels_of : He.DefD := ⟨("labels_of", none), "labels_of", "labels_of", defArgs s_labels_of, defBody s_labels_of, defScope s_labels_of, [], []⟩
def dd_u_law_made : He.DefD := ⟨("_law_made", none), "_law_made", "_law_made", defArgs s_u_law_made, defBody s_u_law_made, defScope s_u_law_made, [], []⟩
def dd_u_law_labels : He.DefD := ⟨("_law_labels", none), "_law_labels", "_law_labels", defArgs s_u_law_labels, defBody s_u_law_labels, defScope s_u_law_labels, [], []⟩
def dd_u_law_partner : He.DefD := ⟨("_law_partner", none), "_law_partner", "_law_partner", defArgs s_u_law_partner, defBody s_u_law_partner, defScope s_u_law_partner, [], []⟩
def dd_is_label : He.DefD := ⟨("is_label", none), "is_label", "is_label", defArgs s_is_label, defBody s_is_label, defScope s_is_label, [], []⟩
def dd_C_Partner : He.DefD := ⟨("Partner", some "__init__"), "__init__", "Partner.__init__", defArgs s_C_Partner, defBody s_C_Partner, defScope s_C_Partner, [], []⟩
def dd_u_law_partner_told : He.DefD := ⟨("_law_partner_told", none), "_law_partner_told", "_law_partner_told", defArgs s_u_law_partner_told, defBody s_u_law_partner_told, defScope s_u_law_partner_told, [], []⟩
def dd_u_law_bad_partner : He.DefD := ⟨("_law_bad_partner", none), "_law_bad_partner", "_law_bad_partner", defArgs s_u_law_bad_partner, defBody s_u_law_bad_partner, defScope s_u_law_bad_partner, [], []⟩
def dd_is_partner_for : He.DefD := ⟨("is_partner_for", none), "is_partner_for", "is_partner_for", defArgs s_is_partner_for, defBody s_is_partner_for, defScope s_is_partner_for, [], []⟩
def dd_u_law_mate : He.DefD := ⟨("_law_mate", none), "_law_mate", "_law_mate", defArgs s_u_law_mate, defBody s_u_law_mate, defScope s_u_law_mate, [], []⟩
def dd_u_law_link : He.DefD := ⟨("_law_link", none), "_law_link", "_law_link", defArgs s_u_law_link, defBody s_u_law_link, defScope s_u_law_link, [], []⟩
def dd_C_Link : He.DefD := ⟨("Link", some "__init__"), "__init__", "Link.__init__", defArgs s_C_Link, defBody s_C_Link, defScope s_C_Link, [], []⟩
def dd_u_law_link_told : He.DefD := ⟨("_law_link_told", none), "_law_link_told", "_law_link_told", defArgs s_u_law_link_told, defBody s_u_law_link_told, defScope s_u_law_link_told, [], []⟩
def dd_u_law_bad_link : He.DefD := ⟨("_law_bad_link", none), "_law_bad_link", "_law_bad_link", defArgs s_u_law_bad_link, defBody s_u_law_bad_link, defScope s_u_law_bad_link, [], []⟩
def dd_u_law_at_bounds : He.DefD := ⟨("_law_at_bounds", none), "_law_at_bounds", "_law_at_bounds", defArgs s_u_law_at_bounds, defBody s_u_law_at_bounds, defScope s_u_law_at_bounds, [], []⟩
def dd_u_law_own_lists : He.DefD := ⟨("_law_own_lists", none), "_law_own_lists", "_law_own_lists", defArgs s_u_law_own_lists, defBody s_u_law_own_lists, defScope s_u_law_own_lists, [], []⟩
def dd_C_Links : He.DefD := ⟨("Links", some "__init__"), "__init__", "Links.__init__", defArgs s_C_Links, defBody s_C_Links, defScope s_C_Links, [], []⟩
def dd_u_law_links : He.DefD := ⟨("_law_links", none), "_law_links", "_law_links", defArgs s_u_law_links, defBody s_u_law_links, defScope s_u_law_links, [], []⟩
def dd_law : He.DefD := ⟨("law", none), "law", "law", defArgs s_law, defBody s_law, defScope s_law, [], []⟩
def fnl : List He.DefD := [dd_u_law_cell, dd_u_law_row, dd_u_law_draw, dd_u_law_face, dd_u_law_service, dd_is_message, dd_is_ascending, dd_u_are_messages, dd_is_number, dd_u_are_transitions, dd_u_are_final, dd_u_is_shape, dd_C_Service, dd_u_law_service_told, dd_u_law_spoiled, dd_labels_of, dd_u_law_made, dd_u_law_labels, dd_u_law_partner, dd_is_label, dd_C_Partner, dd_u_law_partner_told, dd_u_law_bad_partner, dd_is_partner_for, dd_u_law_mate, dd_u_law_link, dd_C_Link, dd_u_law_link_told, dd_u_law_bad_link, dd_u_law_at_bounds, dd_u_law_own_lists, dd_C_Links, dd_u_law_links, dd_law]
def exK (K : PySem.W.Frag) : Bool := talkIK (He.ga K "TalkError") K && (talkB "/claim/cut.py" K)
def adrs : List Addr := cStatics :: [3, 6, 4, 33, 43, 48, 55, 60, 65, 70, 75, 82, 97, 116, 137, 158, 167, 172, 179, 186, 193, 200, 205, 212, 217, 222, 229, 236, 243, 250, 257, 264, 269, 276, 283, 288, 295, 300, 0, 32, 42, 47, 54, 59, 64, 69, 74, 81, 96, 115, 136, 157, 166, 171, 178, 185, 192, 199, 204, 211, 216, 221, 228, 235, 242, 249, 256, 263, 268, 275, 282, 287, 294, 299, 30, 31, 34, 37, 38, 39, 40, 41, 44, 45, 46, 49, 50, 51, 52, 53, 56, 57, 58, 61, 62, 63, 66, 67, 68, 71, 72, 73, 76, 77, 78, 79, 80, 94, 95, 98, 99, 113, 114, 117, 118, 134, 135, 138, 139, 155, 156, 159, 160, 163, 164, 165, 168, 169, 170, 173, 174, 175, 176, 177, 180, 181, 182, 183, 184, 187, 188, 189, 190, 191, 194, 195, 196, 197, 198, 201, 202, 203, 206, 207, 208, 209, 210, 213, 214, 215, 218, 219, 220, 223, 224, 225, 226, 227, 230, 231, 232, 233, 234, 237, 238, 239, 240, 241, 244, 245, 246, 247, 248, 251, 252, 253, 254, 255, 258, 259, 260, 261, 262, 265, 266, 267, 270, 271, 272, 273, 274, 277, 278, 279, 280, 281, 284, 285, 286, 289, 290, 291, 292, 293, 296, 297, 298, 29, 18, 93, 112, 133, 154]
abbrev R : PySem.W.OpenRow := PySem.W.OpenLaw.row PySem.Challenge.rw_allwhotalk_k01_machines_are_checked
abbrev hk : PySem.W.Hook := hookZ adrs fa fnl exK
def ob (s : PySem.W.SharedT) : Bool × FnV2 × He.AlD := obsZ adrs fa fnl exK (HandSHeadRun.getT s)
theorem ob_eq (s : PySem.W.SharedT) : ob s = hk.obs s.abs := obsZ_eq (HandSHeadRun.getT_eq s)
def names0 : List Str := ["TalkError", "LETTERS", "MOST_MESSAGES", "MOST_STATES", "MOST_TRANSITIONS", "MOST_PARTNER_STATES", "MOST_PARTNER_TRANSITIONS", "LONGEST_MESSAGE", "is_number", "is_message", "is_label", "is_ascending", "_are_messages", "_are_transitions", "_are_final", "_is_shape", "Service", "Partner", "Link", "Links", "labels_of", "is_partner_for", "_law_cell", "_law_row", "_law_draw", "_law_face", "_law_service", "_law_link", "_law_labels", "_law_partner"]
def names1 : List Str := ["_law_made", "_law_links", "_law_mate", "_law_service_told", "_law_partner_told", "_law_link_told", "_law_spoiled", "_law_bad_partner", "_law_bad_link", "_law_at_bounds", "_law_own_lists"]
def names : List Str := names0 ++ names1
theorem run (w : World) : HandSHeadRun.RunEq R (PySem.W.view R.prog [44]) hk ob 4000 names w := by
  intro os
  kernel_rfl
end Lw
set_option Elab.async false
set_option linter.all false
set_option autoImplicit false
set_option maxRecDepth 100000
set_option maxHeartbeats 2000000
namespace Ev
open PySem L2 PySem.Spec PyProof.Rows
section
variable {X : Cx} {cl : Str → Option Addr} {W : WX} {pos : Pos}
theorem CIf.tt {scope : Scope} {ifs : List Expr} {t : Sx Bool} (h : CIf X cl scope ifs t) : ∃ tt : TT, (∀ σ H Q, tT (gl X cl) W0 t σ H Q → tt σ H Q) ∧ Blk X scope fun Y => PTs Y ifs tt := by
  cases h with
  | none => exact ⟨tYes, yes_of, fun _ _ _ _ _ => pts_nil⟩
  | one h => exact ⟨tT (gl X cl) W0 t, fun _ _ _ z => z, fun a b c d e => pts_one (h a b c d e)⟩
end
end Ev
set_option Elab.async false
set_option linter.all false
set_option autoImplicit false
set_option maxRecDepth 100000
set_option maxHeartbeats 1000000
namespace Ev
open PySem L2 PySem.Spec PyProof.Rows
section
variable {X : Cx} {cl : Str → Option Addr} {W : WX} {pos pos2 p1 p2 : Pos}
end
section
variable {e e1 : En} {m : Sx Opd} {o : Opd} {n : Nat}
end
end Ev
set_option Elab.async false
set_option linter.all false
set_option autoImplicit false
set_option maxRecDepth 100000
set_option maxHeartbeats 1000000
namespace Ev
open PySem
end Ev
set_option Elab.async false
set_option linter.all false
set_option autoImplicit false
set_option maxRecDepth 100000
set_option maxHeartbeats 2000000
namespace Ev
open PySem L2 PySem.Spec PyProof.Rows
theorem Rep.noSq {M : Hp} {d a : Addr} {kvs : List (Key × V)} {K : PySem.W.Frag} {o : HO} (h : M d = some (.dK kvs)) {vs : List V} (q : SqT K M a vs) : SqT K (upd M d o) a vs := by
  rcases q with (q | ⟨u, q⟩) | q
  · exact .inl (.inl (by rw [upd_ne (fun z => by rw [z, h] at q; cases q)]; exact q))
  · exact .inl (.inr ⟨u, by rw [upd_ne (fun z => by rw [z, h] at q; cases q)]; exact q⟩)
  · exact .inr q
theorem Rep.noSqL {M : Hp} {d a : Addr} {kvs : List (Key × V)} {K : PySem.W.Frag} {o : HO} (h : M d = some (.dK kvs)) {vs : List V} (q : SqL K M a vs) : SqL K (upd M d o) a vs := by
  rcases q with (q | ⟨u, q⟩) | q
  · exact .inl (.inl (by rw [upd_ne (fun z => by rw [z, h] at q; cases q)]; exact q))
  · exact .inl (.inr ⟨u, by rw [upd_ne (fun z => by rw [z, h] at q; cases q)]; exact q⟩)
  · exact .inr q
theorem Rep.noSq' {M : Hp} {d a : Addr} {od : Obj} {kvs : List (Key × V)} {K : PySem.W.Frag} {o : HO} (h : M d = some (.frz od (.dK kvs))) {vs : List V} (q : SqT K M a vs) : SqT K (upd M d o) a vs := by
  rcases q with (q | ⟨u, q⟩) | q
  · exact .inl (.inl (by rw [upd_ne (fun z => by rw [z, h] at q; cases q)]; exact q))
  · exact .inl (.inr ⟨u, by rw [upd_ne (fun z => by rw [z, h] at q; cases q)]; exact q⟩)
  · exact .inr q
theorem Rep.noSqL' {M : Hp} {d a : Addr} {od : Obj} {kvs : List (Key × V)} {K : PySem.W.Frag} {o : HO} (h : M d = some (.frz od (.dK kvs))) {vs : List V} (q : SqL K M a vs) : SqL K (upd M d o) a vs := by
  rcases q with (q | ⟨u, q⟩) | q
  · exact .inl (.inl (by rw [upd_ne (fun z => by rw [z, h] at q; cases q)]; exact q))
  · exact .inl (.inr ⟨u, by rw [upd_ne (fun z => by rw [z, h] at q; cases q)]; exact q⟩)
  · exact .inr q
theorem NoD.lockd {M : Hp} {d a : Addr} {kvs : List (Key × V)} {o : HO} (h : M d = some (.dK kvs)) (n : NoD M a) : NoD (upd M d o) a := by
  obtain ⟨ob, vs, e, k⟩ := n
  exact ⟨ob, vs, by rw [upd_ne (fun z => by rw [z, h] at e; cases e)]; exact e, k⟩
theorem NoD.unlockd {M : Hp} {d a : Addr} {kvs : List (Key × V)} {od : Obj} {o : HO} (h : M d = some (.frz od (.dK kvs))) (n : NoD M a) : NoD (upd M d o) a := by
  obtain ⟨ob, vs, e, k⟩ := n
  exact ⟨ob, vs, by rw [upd_ne (fun z => by rw [z, h] at e; cases e)]; exact e, k⟩
theorem upd_keep {M : Hp} {d a : Addr} {u o n : HO} (h : M d = some u) (q : M a = some o) (ne : u ≠ o) : upd M d n a = some o := by
  rw [upd_ne (fun z => by rw [z, h] at q; cases q; exact ne rfl)]; exact q
section
variable {g : Gl0} {M : Hp} {d : Addr} {od : Obj} {kvs : List (Key × V)}
theorem dkAt_lock (h : M d = some (.dK kvs)) {a : Addr} {ks : List (Key × V)} (q : DkAt M a ks) : DkAt (upd M d (.frz od (.dK kvs))) a ks := by
  by_cases z : a = d
  · subst z
    rcases q with q | ⟨o, q⟩
    · rw [h] at q; cases q; exact .inr ⟨od, upd_same⟩
    · rw [h] at q; cases q
  · unfold DkAt
    rw [upd_ne z]; exact q
theorem dkAt_unlock (h : M d = some (.frz od (.dK kvs))) {a : Addr} {ks : List (Key × V)} (q : DkAt M a ks) : DkAt (upd M d (.dK kvs)) a ks := by
  by_cases z : a = d
  · subst z
    rcases q with q | ⟨o, q⟩
    · rw [h] at q; cases q
    · rw [h] at q; cases q; exact .inl upd_same
  · unfold DkAt
    rw [upd_ne z]; exact q
mutual
theorem Rep.lockd (h : M d = some (.dK kvs)) : ∀ {v : V} {x : D}, Rep g M v x → Rep g (upd M d (.frz od (.dK kvs))) v x
  | _, _, .non => .non
  | _, _, .bl b => .bl b
  | _, _, .int i => .int i
  | _, _, .str x h => .str x h
  | _, _, .tup q r z n => .tup (Rep.noSq h q) (Reps.lockd h r) z fun e => (n e).lockd h
  | _, _, .lst q r z => .lst (upd_keep h q (fun z => nomatch z)) (Reps.lockd h r) z
  | _, _, .scr q => .scr (Rep.noSqL h q)
  | _, _, .dik q r => .dik (dkAt_lock h q) (RepK.lockd h r)
  | _, _, .dit q r z => .dit (upd_keep h q (fun z => nomatch z)) (RepT.lockd h r) z
  | _, _, .obj q c r => .obj (upd_keep h q (fun z => nomatch z)) c (RepF.lockd h r)
  | _, _, .adr => .adr
theorem Reps.lockd (h : M d = some (.dK kvs)) : ∀ {v : List V} {x : List D}, Reps g M v x → Reps g (upd M d (.frz od (.dK kvs))) v x
  | _, _, .nil => .nil
  | _, _, .cons a b => .cons (Rep.lockd h a) (Reps.lockd h b)
theorem RepK.lockd (h : M d = some (.dK kvs)) : ∀ {v : List (Key × V)} {x : List (D × D)}, RepK g M v x → RepK g (upd M d (.frz od (.dK kvs))) v x
  | _, _, .nil => .nil
  | _, _, .cons a b c => .cons (Rep.lockd h a) (Rep.lockd h b) (RepK.lockd h c)
theorem RepT.lockd (h : M d = some (.dK kvs)) : ∀ {v : List (NestedKey × Addr × V)} {x : List (D × D)}, RepT g M v x → RepT g (upd M d (.frz od (.dK kvs))) v x
  | _, _, .nil => .nil
  | _, _, .cons k l a b c => .cons k l (Rep.lockd h a) (Rep.lockd h b) (RepT.lockd h c)
theorem RepF.lockd (h : M d = some (.dK kvs)) : ∀ {v : List (Str × V)} {x : List (Str × D)}, RepF g M v x → RepF g (upd M d (.frz od (.dK kvs))) v x
  | _, _, .nil => .nil
  | _, _, .cons a b => .cons (Rep.lockd h a) (RepF.lockd h b)
end
theorem RepO.lockd (h : M d = some (.dK kvs)) {a : Addr} {o : HO} {x : D} (q : RepO g M a o x) : RepO g (upd M d (.frz od (.dK kvs))) a o x := by
  cases q with
  | lst r z => exact .lst (r.lockd h) z
  | dik r => exact .dik (r.lockd h)
  | dit r z => exact .dit (r.lockd h) z
  | obj c r => exact .obj c (r.lockd h)
mutual
theorem Rep.unlockd (h : M d = some (.frz od (.dK kvs))) : ∀ {v : V} {x : D}, Rep g M v x → Rep g (upd M d (.dK kvs)) v x
  | _, _, .non => .non
  | _, _, .bl b => .bl b
  | _, _, .int i => .int i
  | _, _, .str x h => .str x h
  | _, _, .tup q r z n => .tup (Rep.noSq' h q) (Reps.unlockd h r) z fun e => (n e).unlockd h
  | _, _, .lst q r z => .lst (upd_keep h q (fun z => nomatch z)) (Reps.unlockd h r) z
  | _, _, .scr q => .scr (Rep.noSqL' h q)
  | _, _, .dik q r => .dik (dkAt_unlock h q) (RepK.unlockd h r)
  | _, _, .dit q r z => .dit (upd_keep h q (fun z => nomatch z)) (RepT.unlockd h r) z
  | _, _, .obj q c r => .obj (upd_keep h q (fun z => nomatch z)) c (RepF.unlockd h r)
  | _, _, .adr => .adr
theorem Reps.unlockd (h : M d = some (.frz od (.dK kvs))) : ∀ {v : List V} {x : List D}, Reps g M v x → Reps g (upd M d (.dK kvs)) v x
  | _, _, .nil => .nil
  | _, _, .cons a b => .cons (Rep.unlockd h a) (Reps.unlockd h b)
theorem RepK.unlockd (h : M d = some (.frz od (.dK kvs))) : ∀ {v : List (Key × V)} {x : List (D × D)}, RepK g M v x → RepK g (upd M d (.dK kvs)) v x
  | _, _, .nil => .nil
  | _, _, .cons a b c => .cons (Rep.unlockd h a) (Rep.unlockd h b) (RepK.unlockd h c)
theorem RepT.unlockd (h : M d = some (.frz od (.dK kvs))) : ∀ {v : List (NestedKey × Addr × V)} {x : List (D × D)}, RepT g M v x → RepT g (upd M d (.dK kvs)) v x
  | _, _, .nil => .nil
  | _, _, .cons k l a b c => .cons k l (Rep.unlockd h a) (Rep.unlockd h b) (RepT.unlockd h c)
theorem RepF.unlockd (h : M d = some (.frz od (.dK kvs))) : ∀ {v : List (Str × V)} {x : List (Str × D)}, RepF g M v x → RepF g (upd M d (.dK kvs)) v x
  | _, _, .nil => .nil
  | _, _, .cons a b => .cons (Rep.unlockd h a) (RepF.unlockd h b)
end
theorem RepO.unlockd (h : M d = some (.frz od (.dK kvs))) {a : Addr} {o : HO} {x : D} (q : RepO g M a o x) : RepO g (upd M d (.dK kvs)) a o x := by
  cases q with
  | lst r z => exact .lst (r.unlockd h) z
  | dik r => exact .dik (r.unlockd h)
  | dit r z => exact .dit (r.unlockd h) z
  | obj c r => exact .obj c (r.unlockd h)
end
theorem sub_lock {M H : Hp} {d : Addr} {n : HO} (s : Sub M H) : Sub (upd M d n) (upd H d n) := fun a u q => by
  by_cases z : a = d
  · subst z; rw [upd_same] at q ⊢; exact q
  · rw [upd_ne z] at q ⊢; exact s _ _ q
theorem upd_some {M : Hp} {d a : Addr} {u n : HO} (h : M d = some u) : upd M d n a ≠ none ↔ M a ≠ none := by
  by_cases z : a = d
  · subst z; rw [upd_same, h]; simp
  · rw [upd_ne z]
section
variable {g : Gl0} {G : Gh} {e e3 : En} {M M3 H H3 : Hp} {σ : L2.St} {d : Addr} {od : Obj} {kvs : List (Key × V)}
theorem Rel.lockd (r : Rel g G e M σ H) (h : M d = some (.dK kvs)) : Rel g (G.here e (upd M d (.frz od (.dK kvs))) σ (upd H d (.frz od (.dK kvs)))) e (upd M d (.frz od (.dK kvs))) σ (upd H d (.frz od (.dK kvs))) := by
  have r := r.here
  have hH := r.sub _ _ h
  have nown : ∀ i, ¬ Owns e σ i d := fun i q => by
    have := (r.owned q).1
    rw [h] at this; cases this
  refine ⟨sub_lock r.sub, fun a o q _ => q, fun a q => q, fun a q => .inl q, .refl, fun i s x h1 h2 => ?_, r.len, r.dist, fun a q => ?_, fun a q => (upd_some hH).mpr (r.bl a q)⟩
  · have q := r.slot i s x h1 h2
    cases s with
    | unb => trivial
    | sh y => obtain ⟨v, e1, q⟩ := q; exact ⟨v, e1, q.lockd h⟩
    | ow y =>
      obtain ⟨a, o, e1, q, rr, n, z⟩ := q
      have ne : a ≠ d := fun z => by rw [z, h] at n; cases n
      refine ⟨a, o, e1, by rw [upd_ne ne]; exact q, rr.lockd h, by rw [upd_ne ne]; exact n, ?_⟩
      rcases z with z | z
      · left
        show upd H d _ a = none
        rw [upd_ne ne]; exact z
      · exact .inr z
    | bx y =>
      obtain ⟨a, o, e1, q, rr, n, z⟩ := q
      have ne : a ≠ d := fun z => by rw [z, h] at n; cases n
      exact ⟨a, o, e1, by rw [upd_ne ne]; exact q, rr.lockd h, by rw [upd_ne ne]; exact n, z⟩
    | ro y =>
      obtain ⟨v, e1, q⟩ := q
      refine ⟨v, e1, ?_⟩
      rcases q with q | ⟨a, o, z, q, b, rr⟩
      · exact .inl (q.lockd h)
      · by_cases ne : a = d
        · subst ne
          rw [hH] at q
          cases q
          cases rr with
          | dik rr => subst z; exact .inl (.dik (.inr ⟨od, upd_same⟩) (rr.lockd h))
        · exact .inr ⟨a, o, z, by rw [upd_ne ne]; exact q, b, rr.lockd h⟩
  · obtain ⟨q1, q2, q3⟩ := r.lent a q
    exact ⟨(upd_some hH).mpr q1, q2, q3⟩
theorem Rel.unlockd (r : Rel g G e M σ H) (h : M d = some (.dK kvs)) (r3 : Rel g (G.here e (upd M d (.frz od (.dK kvs))) σ (upd H d (.frz od (.dK kvs)))) e3 M3 σ H3) : Rel g (G.here e M σ H) e3 (upd M3 d (.dK kvs)) σ (upd H3 d (.dK kvs)) := by
  have hH := r.sub _ _ h
  have h3 : M3 d = some (.frz od (.dK kvs)) := r3.base _ _ upd_same
  have hH3 := r3.sub _ _ h3
  refine ⟨sub_lock r3.sub, fun a o q b => ?_, fun a q => ?_, fun a q => ?_, fun a o q => ?_, fun i s x h1 h2 => ?_, r3.len, r3.dist, fun a q => ?_, fun a q => (upd_some hH3).mpr (r3.bl a q)⟩
  · have q' : H a = some o := q
    by_cases z : a = d
    · subst z; rw [hH] at q'; cases q'; exact upd_same
    · rw [upd_ne z]; exact r3.keep a o (by show upd H d _ a = some o; rw [upd_ne z]; exact q') b
  · have q' : H a ≠ none := q
    exact (upd_some hH3).mpr (r3.live a ((upd_some hH).mpr q'))
  · rcases r3.fresh a ((upd_some h3).mp q) with y | y | y
    · left
      have y' : upd M d (.frz od (.dK kvs)) a ≠ none := y
      exact (upd_some h).mp y'
    · right; left
      have y' : upd H d (.frz od (.dK kvs)) a = none := y
      show H a = none
      by_cases z : a = d
      · subst z; rw [upd_same] at y'; cases y'
      · rw [upd_ne z] at y'; exact y'
    · exact .inr (.inr y)
  · have q' : M a = some o := q
    by_cases z : a = d
    · subst z; rw [h] at q'; cases q'; exact upd_same
    · rw [upd_ne z]; exact r3.base a o (by show upd M d _ a = some o; rw [upd_ne z]; exact q')
  · have q := r3.slot i s x h1 h2
    cases s with
    | unb => trivial
    | sh y => obtain ⟨v, e1, q⟩ := q; exact ⟨v, e1, q.unlockd h3⟩
    | ow y =>
      obtain ⟨a, o, e1, q, rr, n, z⟩ := q
      have ne : a ≠ d := fun z => by rw [z, h3] at n; cases n
      refine ⟨a, o, e1, by rw [upd_ne ne]; exact q, rr.unlockd h3, by rw [upd_ne ne]; exact n, ?_⟩
      rcases z with z | z
      · left
        have z' : upd H d (.frz od (.dK kvs)) a = none := z
        rw [upd_ne ne] at z'; exact z'
      · exact .inr z
    | bx y =>
      obtain ⟨a, o, e1, q, rr, n, z⟩ := q
      have ne : a ≠ d := fun z => by rw [z, h3] at n; cases n
      exact ⟨a, o, e1, by rw [upd_ne ne]; exact q, rr.unlockd h3, by rw [upd_ne ne]; exact n, z⟩
    | ro y =>
      obtain ⟨v, e1, q⟩ := q
      refine ⟨v, e1, ?_⟩
      rcases q with q | ⟨a, o, z, q, b, rr⟩
      · exact .inl (q.unlockd h3)
      · by_cases ne : a = d
        · subst ne
          rw [hH3] at q
          cases q
          cases rr
        · exact .inr ⟨a, o, z, by rw [upd_ne ne]; exact q, b, rr.unlockd h3⟩
  · obtain ⟨q1, q2, q3⟩ := r3.lent a q
    exact ⟨(upd_some hH3).mpr q1, q2, q3⟩
theorem VR.unlockd (r : Rel g G e M σ H) (h : M d = some (.dK kvs)) (r3 : Rel g (G.here e (upd M d (.frz od (.dK kvs))) σ (upd H d (.frz od (.dK kvs)))) e3 M3 σ H3) {p : Addr} {x : D} (v : VR g (G.here e (upd M d (.frz od (.dK kvs))) σ (upd H d (.frz od (.dK kvs)))) e3 M3 σ H3 (.ref p) (nw x)) : VR g (G.here e M σ H) e3 (upd M3 d (.dK kvs)) σ (upd H3 d (.dK kvs)) (.ref p) (nw x) := by
  have h3 : M3 d = some (.frz od (.dK kvs)) := r3.base _ _ upd_same
  obtain ⟨q, o, e1, hp, ro, mp, h0, nb, nr, ne⟩ := v
  cases e1
  have nd : p ≠ d := fun z => by rw [z, h3] at mp; cases mp
  refine ⟨p, o, rfl, by rw [upd_ne nd]; exact hp, ro.unlockd h3, by rw [upd_ne nd]; exact mp, ?_, nb, nr, ne⟩
  have h0' : upd H d (.frz od (.dK kvs)) p = none := h0
  rw [upd_ne nd] at h0'
  exact h0'
end
section
variable {X : Cx} {cl : Str → Option Addr} {W : WX} {pos apos cpos tpos : Pos} {elts : List Expr} {kk : Nat} {td : TE} {e : Expr}
end
section
variable {X : Cx} {cl : Str → Option Addr} {W : WX} {pos apos cpos tpos : Pos} {elts : List Expr} {kk : Nat} {e : Expr}
end
end Ev
set_option Elab.async false
set_option linter.all false
set_option autoImplicit false
set_option maxRecDepth 100000
set_option maxHeartbeats 2000000
namespace Ev
open PySem L2 PySem.Spec PyProof.Rows
section
variable {X : Cx} {cl : Str → Option Addr} {W : WX} {pos : Pos} {tgt e : Expr}
end
end Ev
set_option Elab.async false
set_option linter.all false
set_option autoImplicit false
set_option maxRecDepth 100000
set_option maxHeartbeats 2000000
namespace Ev
open PySem L2 PySem.Spec PyProof.Rows
section
variable {pg : Program} {ww : World} {Ar : Around} {RR : Result → Shared → Prop} {ss : Shared} {kx vx tA iA tB iB : Expr} {fA fB : List Expr} {sc : Scope} {ps : Pos} {it acc : Value} {D : Addr} {en : Env}
end
section
variable {X : Cx} {cl : Str → Option Addr}
end
section
variable {X : Cx} {cl : Str → Option Addr} {W : WX} {pos : Pos}
end
end Ev
set_option Elab.async false
set_option linter.all false
set_option autoImplicit false
set_option maxRecDepth 100000
namespace Ev
open PySem L2
section
variable {X : Cx} {cl : Str → Option Addr} {W : WX} {pos tpos : Pos}
end
section
variable {X : Cx} {cl : Str → Option Addr}
end
end Ev
set_option Elab.async false
set_option linter.all false
set_option autoImplicit false
set_option maxRecDepth 100000
namespace Ev
open PySem L2
section
variable {X : Cx} {cl : Str → Option Addr}
end
section
variable {X : Cx} {cl : Str → Option Addr} {W : WX} {pos pos2 : Pos} {x : Str} {modes : List Bool} {k k' : Nat}
theorem pe_callSD0 {CX : CXT} {f : Addr} {fd : FuncData} {ps : List Str} {sp : Sp} {E : L2.St → XK} (F : FnOk X.prog X.w X.K X.mg X.base CX k f fd ps sp) (hr : Room k X.A) (hg : Gl X x) (hm : X.mg x = some (.ref f)) (hk : PySem.W.keepIn X.K (.ref f) = true) (hb : Binds X.K fd ps []) (hx : ∀ σ, PassesAt CX X σ (E σ))
    (hdb : (x == ("__debug__" : Str)) = false) : PE X (.Call (.Name x pos2) [] [] pos) (tCallSD sp [] E tNil) := by
  refine ⟨fun pins s σ H Q I h => ?_⟩
  refine wpAny_Call_Name_kw (ld_glob I hg hm ?_ hdb)
  exact PySem.W.callWith_K0 I.kIn hk (run_fnSD (us := []) F hr hb .nil (hx σ) I .nil h)
theorem ve_call0 {CX : CXT} {f : Addr} {fd : FuncData} {ps : List Str} {F : List D → Res Vl} (FO : FnOk X.prog X.w X.K X.mg X.base CX k f fd ps (spFn (gl X cl) modes F)) (hr : Room k X.A) (hg : Gl X x) (hm : X.mg x = some (.ref f)) (hk : PySem.W.keepIn X.K (.ref f) = true) (hb : Binds X.K fd ps []) (hx : ∀ σ, PassesAt CX X σ (WAt W σ))
    (hdb : (x == ("__debug__" : Str)) = false) : PE X (.Call (.Name x pos2) [] [] pos) (tE (gl X cl) W (sCall modes F [])) :=
  PE_imp (pe_callSD0 (E := WAt W) FO hr hg hm hk hb hx hdb) fun σ H Q ⟨G, e, M, r, h⟩ => by
    unfold sCall at h
    have h' : tPost (gl X cl) W (VR (gl X cl)) G σ Q (if okModes modes [] = true then (match ress e [] with | some ds => ofRes (F ds) e | none => .stuck) else .stuck) := h
    by_cases hm : okModes modes [] = true
    · rw [if_pos hm] at h'
      have h1' : tPost (gl X cl) W (VR (gl X cl)) G σ Q (ofRes (F []) e) := h'
      refine ⟨M, [], r.sub, args_of r hm rfl .nil, ?_⟩
      cases hF : F [] with
      | ok v =>
        rw [hF] at h1'
        intro z M' H' w px hn
        obtain ⟨q1, q2⟩ := r.px w px hn
        exact h1' z M' H' q1 q2
      | exc x =>
        rw [hF] at h1'
        intro c d M' H' w xr
        exact h1' c d M' H' (r.ext w) xr
      | stuck => rw [hF] at h1'; exact h1'
    · rw [if_neg hm] at h'
      exact h'.elim
theorem kCall0 {F : List D → Res Vl} (FO : FnD X.prog X.w X.K X.mg X.base k x modes.length (spFn (gl X cl) modes F)) {A : Around} (hr : Room k' A) (hk : k ≤ k') (h : glB X x = true := by kernel_rfl) (eA : X.A = A := by rfl) : VE X cl W (.Call (.Name x pos2) [] [] pos) (sCall modes F []) := by
  subst eA
  obtain ⟨f, fd, ps, ok, hm, hkp, hb⟩ := FO.ex
  obtain ⟨g1, g2⟩ := glB_of h
  exact ve_call0 (CX := CX0') ok (hr.mono hk) g1 hm hkp hb (fun _ _ _ _ _ _ _ z => z.elim) g2
end
end Ev
set_option Elab.async false
set_option linter.all false
set_option autoImplicit false
set_option maxRecDepth 100000
namespace Ev
open PySem L2 PySem.Spec PyProof.Rows
section
variable {X : Cx} {cl : Str → Option Addr}
end
end Ev
set_option Elab.async false
set_option linter.all false
set_option autoImplicit false
set_option maxRecDepth 100000
namespace Ev
open PySem L2 PySem.Spec PyProof.Rows
open Sem (wp)
section
variable {prog : Program} {w : World} {A : Around} {E : Value → Shared → Prop} {s : Shared}
end
section
variable {X : Cx} {cl : Str → Option Addr} {W : WX} {e : Expr} {m : Sx Opd} {p pos tpos : Pos} {elts : List Expr} {kk : Nat}
end
end Ev
set_option Elab.async false
set_option linter.all false
set_option autoImplicit false
set_option maxRecDepth 100000
set_option maxHeartbeats 2000000
namespace Ev
open PySem L2 PySem.Spec PyProof.Rows
section
variable {X : Cx} {cl : Str → Option Addr} {W : WX} {body : List Stmt} {b : SS} {n : Str} {np p1 p2 p3 p4 p5 pos pos' : Pos} {i j : Nat}
end
end Ev
set_option Elab.async false
set_option linter.all false
set_option autoImplicit false
set_option maxRecDepth 100000
namespace Ev
open PySem L2 PySem.Spec PyProof.Rows
mutual
theorem dat_plain : ∀ d : D, d.dat = true → d.py.plain = true
  | .non, _ => rfl
  | .bl _, _ => rfl
  | .int _, _ => rfl
  | .str _, _ => rfl
  | .tup l, h => by rw [D.py, PyData.plain]; exact dats_plain l (by simpa [D.dat] using h)
  | .lst l, h => by rw [D.py, PyData.plain]; exact dats_plain l (by simpa [D.dat] using h)
  | .dic _, h => by cases h
  | .obj _ _, h => by cases h
  | .scr _, h => by cases h
  | .adr _, h => by cases h
theorem dats_plain : ∀ l : List D, D.dats l = true → PyData.plainAll (D.pys l) = true
  | [], _ => rfl
  | d :: l, h => by
    rw [D.dats, Bool.and_eq_true] at h
    rw [D.pys, PyData.plainAll, dat_plain d h.1, dats_plain l h.2]
    rfl
end
section
variable {X : Cx} {cl : Str → Option Addr}
end
end Ev
set_option Elab.async false
set_option linter.all false
set_option autoImplicit false
set_option maxRecDepth 100000
namespace Ev
open PySem L2 PySem.Spec PyProof.Rows
section
variable {X : Cx} {cl : Str → Option Addr} {W : WX} {a b : Expr} {x y : Str} {px py pt pt2 pos : Pos} {kt k2 : Nat} {ma mb : Sx Opd}
end
end Ev
set_option Elab.async false
set_option linter.all false
set_option autoImplicit false
set_option maxRecDepth 100000
namespace Ev
open PySem L2 PySem.Spec PyProof.Rows
section
variable {X : Cx} {cl : Str → Option Addr}
end
end Ev
set_option Elab.async false
set_option linter.all false
set_option autoImplicit false
set_option maxRecDepth 100000
namespace Ev
open PySem L2 PySem.Spec PyProof.Rows
section
variable {X : Cx} {cl : Str → Option Addr}
end
end Ev
set_option Elab.async false
set_option linter.all false
set_option autoImplicit false
set_option maxRecDepth 100000
namespace Ev
open PySem L2 PySem.Spec PyProof.Rows
section
variable {X : Cx} {cl : Str → Option Addr}
end
end Ev
set_option Elab.async false
set_option linter.all false
set_option autoImplicit false
set_option maxRecDepth 100000
namespace Ev
open PySem L2 PySem.Spec PyProof.Rows
section
variable {X : Cx} {cl : Str → Option Addr}
end
end Ev
set_option Elab.async false
set_option linter.all false
set_option autoImplicit false
set_option maxRecDepth 100000
namespace Ev
open PySem L2
section
variable {g : Gl0} {G : Gh} {e e1 : En} {M H M' H' : Hp} {σ : L2.St}
theorem own_restore {vs : List Nat} {a : En} {j : Nat} {p : Addr} (hhid : hidOk vs e1 = true) (h : Owns (restoreE vs e1 a) σ j p) : Owns a (L2.wipe σ vs) j p := by
  obtain ⟨sl, q1, q2, q3⟩ := h
  by_cases hj : j ∈ vs
  · exfalso
    have : ∀ (us : List Nat) (a : En), hidOk us e1 = true → j ∈ us → ∀ sl, (restoreE us e1 a)[j]? = some sl → ¬ sl.own := by
      intro us
      induction us with
      | nil => intro a _ hm; cases hm
      | cons u us ih =>
        intro a hh hm sl hsl
        unfold hidOk at hh
        rw [List.all_cons, Bool.and_eq_true] at hh
        unfold restoreE at hsl
        cases hu : e1[u]? with
        | none => rw [hu] at hh; exact absurd hh.1 (by simp)
        | some t0 =>
          rw [hu] at hsl hh
          by_cases huj : u = j
          · subst huj
            have hl := (List.getElem?_eq_some_iff.mp hsl).1
            rw [List.length_set] at hl
            rw [List.getElem?_set_self hl] at hsl
            cases hsl
            intro so
            cases sl with
            | ow d => exact absurd hh.1 (by simp)
            | bx d => exact absurd hh.1 (by simp)
            | _ => exact so
          · rw [List.getElem?_set_ne huj] at hsl
            rcases List.mem_cons.mp hm with z | z
            · exact absurd z.symm huj
            · exact ih a hh.2 z sl hsl
    exact this vs _ hhid hj sl q1 q2
  · have : ∀ (us : List Nat) (a : En), j ∉ us → (restoreE us e1 a)[j]? = a[j]? := by
      intro us
      induction us with
      | nil => intro a _; rfl
      | cons u us ih =>
        intro a hm
        unfold restoreE
        cases hu : e1[u]? with
        | none => exact ih a fun z => hm (List.mem_cons_of_mem _ z)
        | some t0 =>
          show ((restoreE us e1 a).set u t0)[j]? = a[j]?
          rw [List.getElem?_set_ne (fun z => hm (by rw [z]; exact List.mem_cons_self)), ih a fun z => hm (List.mem_cons_of_mem _ z)]
    rw [this vs _ hj] at q1
    exact ⟨sl, q1, q2, by rw [wipe_get, if_neg hj]; exact q3⟩
theorem VR.restore {vs : List Nat} {a : En} {p : Addr} {d : D} (hhid : hidOk vs e1 = true) (h : VR g G a M (L2.wipe σ vs) H (.ref p) (nw d)) : VR g G (restoreE vs e1 a) M σ H (.ref p) (nw d) := by
  obtain ⟨q, o, e2, hp, ro, mp, h0, nb, nr, ne⟩ := h
  cases e2
  exact ⟨p, o, rfl, hp, ro, mp, h0, nb, nr, fun j oj => ne j (own_restore hhid oj)⟩
theorem VR.upM {p c : Addr} {d : D} {o : HO} (h : VR g G e M σ H (.ref p) (nw d)) (mc : M c = none) (ne : p ≠ c) : VR g G e (upd M c o) σ H (.ref p) (nw d) := by
  obtain ⟨q, o', e2, hp, ro, mp, h0, nb, nr, nw⟩ := h
  cases e2
  exact ⟨p, o', rfl, hp, ro.mono (.upd mc), by rw [upd_ne ne]; exact mp, h0, nb, nr, nw⟩
theorem VR.upH {p c : Addr} {d : D} {o : HO} (h : VR g G e M σ H (.ref p) (nw d)) (ne : p ≠ c) : VR g G e M σ (upd H c o) (.ref p) (nw d) := by
  obtain ⟨q, o', e2, hp, ro, mp, h0, nb, nr, nw⟩ := h
  cases e2
  exact ⟨p, o', rfl, by rw [upd_ne ne]; exact hp, ro, mp, h0, nb, nr, nw⟩
theorem VR.ne {e0 : En} {M0 H0 : Hp} {σ0 : L2.St} {p : Addr} {d : D} {x : V} {v : Vl} (h0 : H0 p ≠ none) (h : VR g (G.here e0 M0 σ0 H0) e M σ H x v) : v.nw = true → x ≠ .ref p := by
  intro hv e
  subst e
  obtain ⟨dd, b⟩ := v
  cases hv
  obtain ⟨q, o, e2, hp, ro, mp, hn, _⟩ := h
  cases e2
  exact h0 hn
end
section
variable {g : Gl0} {G : Gh} {e e1 : En} {M H : Hp} {σ : L2.St}
end
end Ev
set_option Elab.async false
set_option linter.all false
set_option autoImplicit false
set_option maxRecDepth 100000
namespace Ev
open PySem L2
section
variable {g : Gl0} {W : WX} {G : Gh} {e e1 : En} {M H M' H' : Hp} {σ : L2.St}
def ghP (M H : Hp) (b : Option Addr) : Gh := ⟨H, M, b, fun _ => False, fun _ => False⟩
theorem Rel.pure {e' : En} (s : Sub M H) (hl : e'.length = σ.length) (hs : ∀ (i : Nat) (x : Slot) (y : Option V), e'[i]? = some x → σ[i]? = some y → x = .unb ∨ ∃ v d, x = .sh d ∧ y = some v ∧ Rep g M v d) : Rel g (ghP M H none) e' M σ H := by
  have no : ∀ i a, ¬ Owns e' σ i a := fun i a ⟨x, h1, h2, h3⟩ => by
    rcases hs i x _ h1 h3 with rfl | ⟨v, d, rfl, _⟩ <;> exact h2
  refine ⟨s, fun a o h _ => h, fun a h => h, fun a h => .inl h, .refl, fun i x y h1 h2 => ?_, hl, fun i j a _ h _ => no i a h, fun a h => h.elim, fun a h => ?_⟩
  · rcases hs i x y h1 h2 with rfl | ⟨v, d, rfl, rfl, h⟩
    · trivial
    · exact ⟨v, rfl, h⟩
  · rcases h with h | h
    · cases h
    · exact h.elim
theorem ghP_keep (r : Rel g (ghP M H none) e M' σ H') : Sub H H' := fun a o h => r.keep a o h fun z => by
  rcases z with z | z
  · cases z
  · exact z.elim
theorem Ext.pure (s : Sub M H) (k : Sub H H') : Ext M H M H' := ⟨k, .refl, s.trans k, fun _ h => .inl h⟩
end
section
variable {g : Gl0} {G : Gh} {e e' : En} {M M3 H H3 : Hp} {σ : L2.St} {c a0 : Addr} {vs ws : List V} {cl dl : List D}
end
end Ev
set_option Elab.async false
set_option linter.all false
set_option autoImplicit false
set_option maxRecDepth 100000
namespace Ev
open PySem L2
inductive NearR (F : D → List D → ResB) : En → Fl → Prop
  | mk {b g0 g1 : D} {rows : List D} {b1 b2 : D} {bl : List D} {j : Int} {i k : Nat} {d0 d1 q cl : List D} :
    (∀ x ∈ rows, ∃ a b c, x = .lst [.lst a, .lst b, .lst c]) → F b [.int rows.length] = .ok (fz (.int i)) b1 → F b1 [.int 3] = .ok (fz (.int 0)) b2 → rows[i]? = some (.lst [.lst d0, .lst d1, .lst (.lst q :: cl)]) →
    F b2 [.int (.lst q :: cl : List D).length] = .ok (fz (.int k)) (.lst [.lst bl, .int j]) → k ≤ cl.length → (∃ ns : List Int, bl = ns.map D.int) →
    NearR F (startB b [.lst [g0, g1, .lst rows]] 13) (.rt (nw (.lst [g0, g1, .lst (rows.set i (.lst [.lst d0, .lst d1, .lst ((.lst q :: cl).eraseIdx k)]))]))
      [.bx (.lst [.lst bl, .int j]), .sh (.lst [g0, g1, .lst rows]), .sh (.lst (rows.set i (.lst [.lst d0, .lst d1, .lst ((.lst q :: cl).eraseIdx k)]))), .sh (.int i), .unb, .sh (.int 0), .unb, .unb, .unb, .unb, .unb, .unb, .unb])
theorem NearR.fn {F : D → List D → ResB} {e : En} {a b : Fl} (h1 : NearR F e a) (h2 : NearR F e b) : a = b := by
  generalize he : e = e' at h2
  cases h1 with
  | mk p1 p2 p3 p4 p5 p6 p7 =>
    cases h2 with
    | mk q1 q2 q3 q4 q5 q6 q7 =>
      simp only [startB, List.cons_append, List.map, List.cons.injEq, Slot.bx.injEq, Slot.sh.injEq, D.lst.injEq, List.nil_append] at he
      obtain ⟨rfl, ⟨rfl, rfl, rfl, _⟩, _⟩ := he
      rw [p2] at q2
      simp only [ResB.ok.injEq, Vl.mk.injEq, D.int.injEq, Int.natCast_inj, and_true] at q2
      obtain ⟨rfl, rfl⟩ := q2
      rw [p3] at q3
      simp only [ResB.ok.injEq, true_and] at q3
      subst q3
      rw [p4] at q4
      simp only [Option.some.injEq, D.lst.injEq, List.cons.injEq, and_true] at q4
      obtain ⟨rfl, rfl, rfl, rfl⟩ := q4
      rw [p5] at q5
      simp only [ResB.ok.injEq, Vl.mk.injEq, D.int.injEq, Int.natCast_inj, D.lst.injEq, List.cons.injEq, and_true] at q5
      obtain ⟨rfl, rfl, rfl⟩ := q5
      rfl
section
variable {b g0 g1 : D} {rows rows' : List D} {e : En} {F : D → List D → ResB}
end
end Ev
set_option Elab.async false
set_option linter.all false
set_option autoImplicit false
set_option maxRecDepth 100000
namespace Ev
open PySem L2
end Ev
set_option Elab.async false
set_option linter.all false
set_option autoImplicit false
set_option maxRecDepth 100000
namespace Ev
open PySem L2
section
variable {X : Cx} {cl : Str → Option Addr} {W : WX} {pos pos2 : Pos}
end
end Ev
set_option Elab.async false
set_option linter.all false
set_option autoImplicit false
set_option maxRecDepth 100000
namespace Ev
open PySem L2
section
open PySem.Spec PyProof.Rows
variable {X : Cx} {cl : Str → Option Addr}
end
section
variable {X : Cx} {cl : Str → Option Addr} {W : WX} {pos : Pos} {k1 v1 k2 v2 : Expr} {m1 m2 m3 m4 : Sx Opd}
end
end Ev
set_option Elab.async false
set_option linter.all false
set_option autoImplicit false
set_option maxRecDepth 100000
namespace Ev
open PySem L2
section
variable {g : Gl0} {G : Gh} {e e1 : En} {M H : Hp} {σ : L2.St}
end
end Ev
set_option Elab.async false
set_option linter.all false
set_option autoImplicit false
set_option maxRecDepth 100000
namespace Ev
open PySem L2
inductive SpR (F : D → List D → ResB) (tc : SS) : En → Fl → Prop
  | mk {b g0 g1 : D} {rows : List D} {b1 b2 : D} {i : Nat} {kind : Int} {row row' : D} :
    (∀ x ∈ rows, ∃ (a b : List D) (c : List (List D)), x = .lst [.lst a, .lst b, .lst (c.map .lst)]) → F b [.int rows.length] = .ok (fz (.int i)) b1 → rows[i]? = some row → F b1 [.int 15] = .ok (fz (.int kind)) b2 →
    (∀ (l : List D) (a : Addr), l.length = rows.length → tc [.sh (.adr a), .sh (.lst [g0, g1, .lst rows]), .ow (.lst l), .bx row, .sh (.int kind), .unb, .unb, .unb] = .nx [.sh (.adr a), .sh (.lst [g0, g1, .lst rows]), .ow (.lst l), .bx row', .sh (.int kind), .unb, .unb, .unb]) →
    SpR F tc (startB b [.lst [g0, g1, .lst rows]] 8) (.rt (nw (.lst [g0, g1, .lst (rows.set i row')]))
      [.bx b2, .sh (.lst [g0, g1, .lst rows]), .sh (.lst (rows.set i row')), .sh row', .sh (.int kind), .unb, .unb, .unb])
theorem SpR.fn {F : D → List D → ResB} {tc : SS} {e : En} {a b : Fl} (h1 : SpR F tc e a) (h2 : SpR F tc e b) : a = b := by
  generalize he : e = e' at h2
  cases h1 with
  | mk p1 p2 p3 p4 p5 =>
    cases h2 with
    | mk q1 q2 q3 q4 q5 =>
      simp only [startB, List.cons_append, List.map, List.cons.injEq, Slot.bx.injEq, Slot.sh.injEq, D.lst.injEq, List.nil_append] at he
      obtain ⟨rfl, ⟨rfl, rfl, rfl, _⟩, _⟩ := he
      rw [p2] at q2
      simp only [ResB.ok.injEq, Vl.mk.injEq, D.int.injEq, Int.natCast_inj, and_true] at q2
      obtain ⟨rfl, rfl⟩ := q2
      rw [p3] at q3
      cases q3
      rw [p4] at q4
      simp only [ResB.ok.injEq, Vl.mk.injEq, D.int.injEq, and_true] at q4
      obtain ⟨rfl, rfl⟩ := q4
      have := (p5 _ 0 rfl).symm.trans (q5 _ 0 rfl)
      simp only [Fl.nx.injEq, List.cons.injEq, Slot.bx.injEq, true_and, and_true] at this
      subst this
      rfl
end Ev
set_option Elab.async false
set_option linter.all false
set_option autoImplicit false
set_option maxRecDepth 100000
namespace Ev
open PySem L2
section
variable {X : Cx} {cl : Str → Option Addr} {W : WX} {pos pos2 : Pos}
end
end Ev
set_option Elab.async false
set_option linter.all false
set_option autoImplicit false
set_option maxRecDepth 100000
set_option maxHeartbeats 1000000
namespace Ev
open PySem L2 PySem.Spec PyProof.Rows
section
variable {X : Cx} {CX : CXT} {k : Nat} {f C : Addr} {fd : FuncData} {ps : List Str} {sp : Sp} {E : L2.St → XK} {x m : Str} {p pos apos : Pos} {e o : Expr} {es : List Expr} {ta : TE} {t : TA}
end
structure MtD (CX : CXT) (P : Program) (w : World) (K : PySem.W.Frag) (mg : Str → Option Value) (base : Heap) (cl : Str → Option Addr) (k : Nat) (c m : Str) (n : Nat) (sp : Sp) : Prop where
  ex : ∃ C f fd ps, cl c = some C ∧ Cls K C ∧ Meth K C m f ∧ FnOk P w K mg base CX k f fd ps sp ∧ Binds K fd ps []
section
variable {X : Cx} {cl : Str → Option Addr} {W : WX} {CX : CXT} {pos apos : Pos} {c m : Str} {o a : Expr} {es : List Expr} {mo : Sx Vl} {ms : List (Sx Opd)} {modes : List Bool} {k k' : Nat}
end
end Ev
set_option Elab.async false
set_option linter.all false
set_option autoImplicit false
set_option maxRecDepth 100000
set_option maxHeartbeats 1000000
namespace Ev
open PySem L2 PySem.Spec PyProof.Rows
abbrev conv (dg : D) (ls ns : List D) : D := .obj "Conversation" [("guide", dg), ("labels", .lst ls), ("nodes", .lst ns)]
structure Deep (g : Gl0) (M H : Hp) (a aL aN : Addr) (dg : D) (ls ns : List D) : Prop where
  ex : ∃ C dx vg lv nv, g.cl "Conversation" = some C ∧ H a = some (.ins C dx [("guide", vg), ("labels", .ref aL), ("nodes", .ref aN)]) ∧ H aL = some (.lst lv) ∧ H aN = some (.lst nv) ∧ Rep g M vg dg ∧ Reps g M lv ls ∧ Reps g M nv ns
  zl : ls.length ≤ sizeLine
  zn : ns.length ≤ sizeLine
  ma : M a = none
  ml : M aL = none
  mn : M aN = none
  ne : a ≠ aL ∧ a ≠ aN ∧ aL ≠ aN
def vw (M H : Hp) (a aL aN : Addr) : Hp := fun b => if b = a ∨ b = aL ∨ b = aN then H b else M b
inductive ShR (g : Gl0) (M : Hp) : En → L2.St → Prop
  | nil : ShR g M [] []
  | unb {e : En} {σ : L2.St} {x : Option V} : ShR g M e σ → ShR g M (.unb :: e) (x :: σ)
  | sh {e : En} {σ : L2.St} {v : V} {d : D} : Rep g M v d → ShR g M e σ → ShR g M (.sh d :: e) (some v :: σ)
section
variable {g : Gl0} {G : Gh} {W : WX} {e e' : En} {M M' M1 M2 H H' H1 H2 : Hp} {σ σ' : L2.St} {a aL aN : Addr} {dg : D} {ls ns : List D}
theorem ShR.len : ∀ {e : En} {σ : L2.St}, ShR g M e σ → e.length = σ.length
  | _, _, .nil => rfl
  | _, _, .unb t => congrArg (· + 1) t.len
  | _, _, .sh _ t => congrArg (· + 1) t.len
theorem ShR.slot : ∀ {e : En} {σ : L2.St}, ShR g M e σ → ∀ (i : Nat) (x : Slot) (y : Option V), e[i]? = some x → σ[i]? = some y → x = .unb ∨ ∃ v d, x = .sh d ∧ y = some v ∧ Rep g M v d
  | _, _, .nil, i, x, y, h, _ => by simp at h
  | _, _, .unb t, 0, x, y, h, h' => by cases h; exact .inl rfl
  | _, _, .sh r t, 0, x, y, h, h' => by cases h; cases h'; exact .inr ⟨_, _, rfl, rfl, r⟩
  | _, _, .unb t, i + 1, x, y, h, h' => t.slot i x y (by simpa using h) (by simpa using h')
  | _, _, .sh r t, i + 1, x, y, h, h' => t.slot i x y (by simpa using h) (by simpa using h')
theorem ShR.rel (h : ShR g M e σ) (s : Sub M H) : Rel g (ghP M H none) e M σ H := Rel.pure s h.len h.slot
theorem ShR.mono (s : Sub M M') : ∀ {e : En} {σ : L2.St}, ShR g M e σ → ShR g M' e σ
  | _, _, .nil => .nil
  | _, _, .unb t => .unb (t.mono s)
  | _, _, .sh r t => .sh (r.mono s) (t.mono s)
theorem Deep.vwM (d : Deep g M H a aL aN dg ls ns) : Sub M (vw M H a aL aN) := fun b o e => by
  have : ¬ (b = a ∨ b = aL ∨ b = aN) := by
    rintro (rfl | rfl | rfl)
    · rw [d.ma] at e; cases e
    · rw [d.ml] at e; cases e
    · rw [d.mn] at e; cases e
  unfold vw
  rw [if_neg this]; exact e
theorem vwH (s : Sub M H) : Sub (vw M H a aL aN) H := fun b o e => by
  unfold vw at e
  split at e
  · exact e
  · exact s _ _ e
theorem Deep.rep (d : Deep g M H a aL aN dg ls ns) : Rep g (vw M H a aL aN) (.ref a) (conv dg ls ns) := by
  obtain ⟨C, dx, vg, lv, nv, hc, h1, h2, h3, r1, r2, r3⟩ := d.ex
  have s := d.vwM
  refine .obj (C := C) (dx := dx) (fs := [("guide", vg), ("labels", .ref aL), ("nodes", .ref aN)]) ?_ hc (.cons (r1.mono s) (.cons (.lst (vs := lv) ?_ (r2.mono s) d.zl) (.cons (.lst (vs := nv) ?_ (r3.mono s) d.zn) .nil)))
  · unfold vw; rw [if_pos (.inl rfl)]; exact h1
  · unfold vw; rw [if_pos (.inr (.inl rfl))]; exact h2
  · unfold vw; rw [if_pos (.inr (.inr rfl))]; exact h3
theorem Deep.ext (d : Deep g M H a aL aN dg ls ns) (w : Ext M H M' H') : Deep g M' H' a aL aN dg ls ns := by
  obtain ⟨C, dx, vg, lv, nv, hc, h1, h2, h3, r1, r2, r3⟩ := d.ex
  exact ⟨⟨C, dx, vg, lv, nv, hc, w.keep _ _ h1, w.keep _ _ h2, w.keep _ _ h3, r1.mono w.mono, r2.mono w.mono, r3.mono w.mono⟩, d.zl, d.zn, w.none h1 d.ma, w.none h2 d.ml, w.none h3 d.mn, d.ne⟩
structure Vs (g : Gl0) (M H : Hp) (a aL aN : Addr) (M' H' : Hp) : Prop where
  sv : Sub (vw M H a aL aN) M'
  sub : Sub M' H'
  kH : Sub H H'
  fr : ∀ b, M' b ≠ none → M b ≠ none ∨ (b = a ∨ b = aL ∨ b = aN) ∨ H b = none
theorem Vs.start (s : Sub M H) : Vs g M H a aL aN (vw M H a aL aN) H := ⟨.refl, vwH s, .refl, fun b h => by
  unfold vw at h
  split at h
  · rename_i q; exact .inr (.inl q)
  · exact .inl h⟩
theorem Vs.step (v : Vs g M H a aL aN M1 H1) (r : Rel g (ghP M1 H1 none) e M2 σ H2) : Vs g M H a aL aN M2 H2 := ⟨v.sv.trans r.base, r.sub, v.kH.trans (ghP_keep r), fun b h => by
  rcases r.fresh b h with h | h | h
  · exact v.fr b h
  · right; right
    have h' : H1 b = none := h
    cases q : H b with
    | none => rfl
    | some o => rw [v.kH _ _ q] at h'; cases h'
  · exact h.elim⟩
theorem Vs.exc (d : Deep g M H a aL aN dg ls ns) (sm : Sub M H) (v : Vs g M H a aL aN M' H') {cls : Value} {dd : Option Addr} {s : Str} (x : ExR g M' cls dd ⟨"TalkError", [("reason", .str s)]⟩) : ∃ M2, Ext M H M2 H' ∧ ExR g M2 cls dd ⟨"TalkError", [("reason", .str s)]⟩ := by
  obtain ⟨C, b, fs, e1, e2, e3, hb, rf⟩ := x
  have hn : M b ≠ none ∨ H b = none := by
    rcases v.fr b (by rw [hb]; exact Option.some_ne_none _) with h | h | h
    · exact .inl h
    · exfalso
      obtain ⟨C, dx, vg, lv, nv, hc, h1, h2, h3, _⟩ := d.ex
      have key : ∀ o, H b = some o → M' b = some o := fun o ho => v.sv b o (by unfold vw; rw [if_pos h]; exact ho)
      rcases h with rfl | rfl | rfl
      · have := key _ h1; rw [hb] at this; cases this
      · have := key _ h2; rw [hb] at this; cases this
      · have := key _ h3; rw [hb] at this; cases this
    · exact .inr h
  have hM : ∀ o, M b = some o → o = .xd fs := fun o ho => by
    have := v.sv b o (d.vwM b o ho)
    rw [hb] at this; cases this; rfl
  refine ⟨fun c => if c = b then some (.xd fs) else M c, ⟨v.kH, fun c o ho => ?_, fun c o ho => ?_, fun c ho => ?_⟩, C, b, fs, e1, e2, e3, if_pos rfl, ?_⟩
  · by_cases q : c = b
    · subst q
      show (if c = c then _ else _) = _
      rw [if_pos rfl, hM _ ho]
    · show (if c = b then _ else _) = _
      rw [if_neg q]; exact ho
  · by_cases q : c = b
    · subst q
      have ho' : (if c = c then some (HO.xd fs) else M c) = some o := ho
      rw [if_pos rfl] at ho'
      cases ho'
      exact v.sub _ _ hb
    · have ho' : (if c = b then some (HO.xd fs) else M c) = some o := ho
      rw [if_neg q] at ho'
      exact v.kH _ _ (sm _ _ ho')
  · by_cases q : c = b
    · subst q; exact hn
    · have ho' : (if c = b then some (HO.xd fs) else M c) ≠ none := ho
      rw [if_neg q] at ho'
      exact .inl ho'
  · cases rf with
    | cons r t =>
      cases t
      cases r with
      | str _ h => exact .cons (.str _ h) .nil
end
end Ev
set_option Elab.async false
set_option linter.all false
set_option autoImplicit false
set_option maxRecDepth 100000
set_option maxHeartbeats 1000000
namespace Ev
open PySem L2 PySem.Spec PyProof.Rows
structure ExtD (aL aN : Addr) (M H M' H' : Hp) : Prop where
  keep : ∀ b o, b ≠ aL → b ≠ aN → H b = some o → H' b = some o
  mono : Sub M M'
  sub : Sub M' H'
  fresh : ∀ b, M' b ≠ none → M b ≠ none ∨ H b = none
  live : ∀ b, H b ≠ none → H' b ≠ none
inductive RecR where
  | ok (n : Int) (ls ns : List D) | exc (s : Str) | stuck
section
variable {g : Gl0} {W : WX} {M H : Hp} {σ : L2.St} {a aL aN : Addr} {dg : D} {ls ns : List D} {at_ : Str → Str → Bool}
theorem Deep.ins (d : Deep g M H a aL aN dg ls ns) : ∃ o, H a = some o ∧ M a = none ∧ RepO g M a o (.obj "Conversation" [("guide", dg), ("labels", .adr aL), ("nodes", .adr aN)]) := by
  obtain ⟨C, dx, vg, lv, nv, hc, h1, h2, h3, r1, r2, r3⟩ := d.ex
  exact ⟨_, h1, d.ma, .obj (fs := [("guide", vg), ("labels", .ref aL), ("nodes", .ref aN)]) hc (.cons r1 (.cons .adr (.cons .adr .nil)))⟩
end
end Ev
set_option Elab.async false
set_option linter.all false
set_option autoImplicit false
set_option maxRecDepth 100000
set_option maxHeartbeats 1000000
namespace Ev
open PySem L2 PySem.Spec PyProof.Rows
section
variable {g : Gl0} {W : WX} {M H : Hp} {σ : L2.St} {a aL aN : Addr} {dg dg' : D} {ls ns : List D} {at_ : Str → Str → Bool}
end
end Ev
set_option Elab.async false
set_option linter.all false
set_option autoImplicit false
set_option maxRecDepth 100000
set_option maxHeartbeats 1000000
namespace Ev
open PySem L2 PySem.Spec PyProof.Rows
section
variable {g : Gl0} {W : WX} {M H : Hp} {σ : L2.St} {a aL aN : Addr} {dg dg' : D} {ls ns : List D}
structure New (M0 H0 : Hp) (a aL aN : Addr) (M H : Hp) : Prop where
  w : Ext M0 H0 M H
  na : H0 a = none
  nl : H0 aL = none
  nn : H0 aN = none
theorem New.vw {M0 H0 : Hp} (n : New M0 H0 a aL aN M H) (d : Deep g M H a aL aN dg ls ns) : Ext M0 H0 (vw M H a aL aN) H := ⟨n.w.keep, n.w.mono.trans d.vwM, vwH n.w.sub, fun b hb => by
  unfold Ev.vw at hb
  split at hb
  · rename_i q
    rcases q with rfl | rfl | rfl
    · exact .inr n.na
    · exact .inr n.nl
    · exact .inr n.nn
  · exact n.w.fresh b hb⟩
theorem New.step {M0 H0 M' H' : Hp} (n : New M0 H0 a aL aN M H) (w : Ext M H M' H') : New M0 H0 a aL aN M' H' := ⟨n.w.trans w, n.na, n.nl, n.nn⟩
theorem ext_pureR {e : En} {M' H' : Hp} (r : Rel g (ghP M H none) e M' σ H') : Ext M H M' H' := ⟨ghP_keep r, r.base, r.sub, fun b hb => by
  rcases r.fresh b hb with h | h | h
  · exact .inl h
  · exact .inr h
  · exact h.elim⟩
end
end Ev
set_option Elab.async false
set_option linter.all false
set_option autoImplicit false
set_option maxRecDepth 100000
set_option maxHeartbeats 1000000
namespace Ev
open PySem L2 PySem.Spec PyProof.Rows
def cAt (cl : Str → Option Addr) (c : Str) : Addr := (cl c).getD 0
section
variable {X : Cx} {cl : Str → Option Addr} {W : WX} {CX : CXT} {pos pos2 pos3 apos cpos pp : Pos} {x nm : Str} {a ex c o : Expr} {es : List Expr} {m : Sx Vl} {mo : Sx Opd} {t : Sx Bool} {l1 : List Stmt} {u : SS} {k k' : Nat}
theorem rSetR {te : TE} (hN : X.N.Nodup) (i : Nat) (he : PE X ex te) (h : tgB X i x = true := by kernel_rfl) (hs : swapsWith ex (some (.Name x pos2)) pos.line X.env = pure false := by rfl) : PS X (.Assign [.Name x pos2] ex pos) (tAsg te (gName i)) := let ⟨a, b, c⟩ := tgB_of h; ps_set hN a b he hs c
end
section
variable {P : Program} {w : World} {K : PySem.W.Frag} {mg : Str → Option Value} {base : Heap} {cl : Str → Option Addr} {x qual : Str} {params : Arguments} {body : List Stmt} {scope : Scope} {f : Addr} {fd : FuncData} {k k1 k2 : Nat}
end
end Ev
set_option Elab.async false
set_option linter.all false
set_option autoImplicit false
set_option maxRecDepth 100000
set_option maxHeartbeats 2000000
namespace Ev
open PySem L2 PySem.Spec PyProof.Rows
section
variable {X : Cx} {e : Expr} {td : TE} {p0 pos apos cpos : Pos}
end
section
variable {X : Cx} {cl : Str → Option Addr} {W : WX} {pos apos cpos p0 : Pos} {e : Expr}
end
end Ev
set_option Elab.async false
set_option linter.all false
set_option autoImplicit false
set_option maxRecDepth 100000
set_option maxHeartbeats 2000000
namespace Ev
open PySem L2 PySem.Spec PyProof.Rows
section
variable {g : Gl0} {G : Gh} {e e3 : En} {M M3 H H3 : Hp} {σ σ3 : L2.St} {d : Addr} {od : Obj} {kvs : List (Key × V)}
end
section
variable {X : Cx} {cl : Str → Option Addr} {W : WX} {pos apos cpos tpos : Pos} {elts : List Expr} {kk : Nat} {e : Expr}
end
end Ev
set_option Elab.async false
set_option linter.all false
set_option autoImplicit false
set_option maxRecDepth 100000
set_option maxHeartbeats 1000000
namespace Ev
open PySem L2 PySem.Spec PyProof.Rows
structure Cells (g : Gl0) (G : Gh) (e : En) (M : Hp) (σ : L2.St) (H : Hp) (cs : List (Addr × D)) : Prop where
  vr : ∀ c ∈ cs, VR g G e M σ H (.ref c.1) (nw c.2)
  nd : (cs.map (·.1)).Nodup
section
variable {g : Gl0} {W : WX} {G : Gh} {e e' : En} {M M' H H' : Hp} {σ σ' : L2.St} {cs : List (Addr × D)}
theorem Cells.stay (r : Rel g G e M σ H) (c : Cells g G e M σ H cs) (r' : Rel g (G.here e M σ H) e' M' σ' H') : Cells g G e' M' σ' H' cs := ⟨fun x hx => (c.vr x hx).stay r r' r'.base, c.nd⟩
end
end Ev
namespace Ev
open PySem L2 PySem.Spec PyProof.Rows
section
variable {g : Gl0} {W : WX} {G : Gh} {e e' : En} {M M' H H' : Hp} {σ σ' : L2.St} {cs : List (Addr × D)} {a aL aN : Addr} {dg : D} {ls ns ls' ns' : List D}
structure Cnv (g : Gl0) (G : Gh) (e : En) (M : Hp) (σ : L2.St) (H : Hp) (a aL aN : Addr) (dg : D) (ls ns : List D) : Prop where
  o : VR g G e M σ H (.ref a) (nw (.obj "Conversation" [("guide", dg), ("labels", .adr aL), ("nodes", .adr aN)]))
  l : VR g G e M σ H (.ref aL) (nw (.lst ls))
  n : VR g G e M σ H (.ref aN) (nw (.lst ns))
  ne : a ≠ aL ∧ a ≠ aN ∧ aL ≠ aN
theorem Cnv.stay (r : Rel g G e M σ H) (c : Cnv g G e M σ H a aL aN dg ls ns) (r' : Rel g (G.here e M σ H) e' M' σ' H') : Cnv g G e' M' σ' H' a aL aN dg ls ns := ⟨c.o.stay r r' r'.base, c.l.stay r r' r'.base, c.n.stay r r' r'.base, c.ne⟩
end
end Ev
set_option Elab.async false
set_option linter.all false
set_option autoImplicit false
set_option maxRecDepth 100000
set_option maxHeartbeats 2000000
namespace Ev
open PySem L2 PySem.Spec PyProof.Rows
def D.isObj : D → Bool
  | .obj _ _ => true
  | _ => false
def lentOk : List Bool → List D → Bool
  | true :: bs, d :: ds => !d.isObj && lentOk bs ds
  | false :: bs, _ :: ds => lentOk bs ds
  | _, _ => true
def startBM (modes : List Bool) (d0 : D) (ds : List D) (n : Nat) : En := .bx d0 :: startE modes ds (n - 1)
def runBM (t : SS) (modes : List Bool) (n : Nat) : D → List D → ResB := fun d0 ds => if ds.length = modes.length ∧ d0.isObj = true ∧ lentOk modes ds = true then (match t (startBM modes d0 ds n) with
  | .rt v e => boxOf v e
  | .nx e => boxOf (fz .non) e
  | .exc x _ => .exc x
  | _ => .stuck) else .stuck
theorem lentOk_get : ∀ {bs : List Bool} {ds : List D} {n i : Nat} {d : D}, lentOk bs ds = true → (startE bs ds n)[i]? = some (.ro d) → d.isObj = false
  | [], ds, n, i, d, _, h => by
    have h' : (List.replicate (n - ds.length) Slot.unb)[i]? = some (.ro d) := h
    obtain ⟨hl, e⟩ := List.getElem?_eq_some_iff.mp h'
    rw [List.getElem_replicate] at e
    cases e
  | b :: bs, [], n, i, d, _, h => by
    have h' : (List.replicate (n - 0) Slot.unb)[i]? = some (.ro d) := h
    obtain ⟨hl, e⟩ := List.getElem?_eq_some_iff.mp h'
    rw [List.getElem_replicate] at e
    cases e
  | true :: bs, d' :: ds, n, 0, d, k, h => by
    cases h
    unfold lentOk at k
    rw [Bool.and_eq_true, Bool.not_eq_true'] at k
    exact k.1
  | false :: bs, d' :: ds, n, 0, d, k, h => by cases h
  | b :: bs, d' :: ds, n, i + 1, d, k, h => by
    have h' : (startE bs ds (n - 1))[i]? = some (.ro d) := by
      unfold startE
      unfold startE at h
      simpa [List.length_cons, Nat.sub_sub, Nat.add_comm] using h
    have k' : lentOk bs ds = true := by
      cases b with
      | true => unfold lentOk at k; rw [Bool.and_eq_true] at k; exact k.2
      | false => unfold lentOk at k; exact k
    exact lentOk_get k' h'
section
variable {g : Gl0} {M H : Hp}
theorem startE_len' {bs : List Bool} {vs : List V} {ds : List D} {n : Nat} (h : ArgR g M H bs vs ds) : (startE bs ds n).length = vs.length + (n - vs.length) := by
  have h1 := argR_len h
  have h2 := argR_len2 h
  unfold startE
  simp [h1, h2]
theorem startBM_slot {modes : List Bool} {d0 : D} {ds : List D} {b : Addr} {us : List V} {n i : Nat} {s : Slot} (ar : ArgR g M H modes us ds) (hk : lentOk modes ds = true) (hs : (startBM modes d0 ds n)[i]? = some s) :
    s = .unb ∨ (i = 0 ∧ s = .bx d0) ∨ ∃ v d, (V.ref b :: us)[i]? = some v ∧ ((s = .sh d ∧ Rep g M v d) ∨ (s = .ro d ∧ PRep g M H v d ∧ d.isObj = false)) := by
  cases i with
  | zero => cases hs; exact .inr (.inl ⟨rfl, rfl⟩)
  | succ i =>
    have hs' : (startE modes ds (n - 1))[i]? = some s := hs
    rcases startE_slot ar hs' with rfl | ⟨v, d, hv, ⟨rfl, r⟩ | ⟨rfl, r⟩⟩
    · exact .inl rfl
    · exact .inr (.inr ⟨v, d, hv, .inl ⟨rfl, r⟩⟩)
    · exact .inr (.inr ⟨v, d, hv, .inr ⟨rfl, r, lentOk_get hk hs'⟩⟩)
theorem rel_startBM {modes : List Bool} {d0 : D} {ds : List D} {b : Addr} {o : HO} {us : List V} {N : List Str} (sm : Sub M H) (hb : H b = some o) (ro : RepO g M b o d0) (mb : M b = none) (ar : ArgR g M H modes us ds) (ho : d0.isObj = true) (hk : lentOk modes ds = true) :
    Rel g ⟨H, M, some b, fun _ => False, fun a => a ≠ b ∧ H a ≠ none⟩ (startBM modes d0 ds N.length) M (L2.start N (.ref b :: us)) H where
  sub := sm
  keep := fun _ _ h _ => h
  live := fun _ h => h
  fresh := fun _ h => .inl h
  base := .refl
  slot := fun i s x h1 h2 => by
    rcases startBM_slot (b := b) ar hk h1 with rfl | ⟨rfl, rfl⟩ | ⟨v, d, hv, ⟨rfl, r⟩ | ⟨rfl, r, nd⟩⟩
    · trivial
    · have : (L2.start N (.ref b :: us))[0]? = some (some (.ref b)) := start_get rfl
      rw [this] at h2; cases h2
      exact ⟨b, o, rfl, hb, ro, mb, rfl⟩
    · rw [start_get hv] at h2; cases h2
      exact ⟨v, rfl, r⟩
    · rw [start_get hv] at h2; cases h2
      refine ⟨v, rfl, ?_⟩
      rcases r with r | ⟨a, o', e, ha, ro'⟩
      · exact .inl r
      · refine .inr ⟨a, o', e, ha, ⟨fun z => ?_, by rw [ha]; exact Option.some_ne_none o'⟩, ro'⟩
        subst z
        rw [hb] at ha
        cases ha
        cases ro with
        | obj c rf => cases ro' with
          | obj c' rf' => cases nd
        | lst r z => cases ho
        | dik r => cases ho
        | dit r z => cases ho
  len := by
    unfold startBM L2.start
    have h1 := startE_len' (n := N.length - 1) ar
    simp only [List.length_cons, h1, List.length_append, List.length_map, List.length_replicate]
    omega
  dist := fun i j a hij ⟨s, h1, h2, _⟩ ⟨s', h1', h2', _⟩ => by
    rcases startBM_slot (b := b) ar hk h1 with rfl | ⟨rfl, rfl⟩ | ⟨v, d, hv, ⟨rfl, r⟩ | ⟨rfl, r, nd⟩⟩
    · exact h2
    · rcases startBM_slot (b := b) ar hk h1' with rfl | ⟨rfl, rfl⟩ | ⟨v, d, hv, ⟨rfl, r⟩ | ⟨rfl, r, nd⟩⟩
      · exact h2'
      · exact hij rfl
      · exact h2'
      · exact h2'
    · exact h2
    · exact h2
  lent := fun a h => ⟨h.2, fun z => by rcases z with z | z; cases z; exact h.1 rfl; exact z, fun j ⟨s, h1, h2, h3⟩ => by
    rcases startBM_slot (b := b) ar hk h1 with rfl | ⟨rfl, rfl⟩ | ⟨v, d, hv, ⟨rfl, r⟩ | ⟨rfl, r, nd⟩⟩
    · exact h2
    · have : (L2.start N (.ref b :: us))[0]? = some (some (.ref b)) := start_get rfl
      rw [this] at h3; cases h3
      exact h.1 rfl
    · exact h2
    · exact h2⟩
  bl := fun a h => by
    rcases h with h | h
    · cases h; rw [hb]; exact Option.some_ne_none o
    · exact h.elim
theorem pure_bxXM {t : SS} {modes : List Bool} {N : List Str} {vs : List V} {Q : VK} {E : XK} (h : spBx g modes (runBM t modes N.length) vs H Q E) : tS g (fun cls d _ H => E cls d H) t { nx := fun _ H' => Q .non H', rt := Q } (L2.start N vs) H := by
  obtain ⟨b, o, d0, M, us, ds, rfl, hb, ro, mb, sm, ar, hF⟩ := h
  by_cases hl : ds.length = modes.length ∧ d0.isObj = true ∧ lentOk modes ds = true
  case neg =>
    unfold runBM at hF
    rw [if_neg hl] at hF
    exact hF.elim
  refine ⟨_, _, M, rel_startBM (N := N) sm hb ro mb ar hl.2.1 hl.2.2, ?_⟩
  unfold runBM at hF
  rw [if_pos hl] at hF
  have ext : ∀ {e M' σ' H'}, Rel g ⟨H, M, some b, fun _ => False, fun a => a ≠ b ∧ H a ≠ none⟩ e M' σ' H' → ExtB b M H M' H' := fun {e M' σ' H'} r => ⟨fun a o ne e => r.keep a o e (fun z => by rcases z with z | z; cases z; exact ne rfl; exact z), r.base, r.sub, fun a ha => by
    rcases r.fresh a ha with z | z | z
    · exact .inl z
    · exact .inr z
    · exact z.elim⟩
  have box : ∀ {e M' σ' H' d}, Rel g ⟨H, M, some b, fun _ => False, fun a => a ≠ b ∧ H a ≠ none⟩ e M' σ' H' → e[0]? = some (.bx d) → ∃ o', H' b = some o' ∧ RepO g M' b o' d := fun {e M' σ' H' d} r he => by
    obtain ⟨x, _, a, o', _, ha, ro', _, e2⟩ := r.at he
    have : a = b := by
      have e3 : (some b : Option Addr) = some a := e2
      cases e3; rfl
    subst this
    exact ⟨o', ha, ro'⟩
  cases q : t (startBM modes d0 ds N.length) with
  | rt v e =>
    rw [q] at hF
    intro x σ' M' H' r' vr
    have hF' : (match boxOf v e with
      | .ok v d1 => ∀ z M' H' o', ExtB b M H M' H' → H' b = some o' → RepO g M' b o' d1 → PX g M H M' H' z v → (v.nw = true → ∀ q, z = .ref q → M' q = none) → Q z H'
      | .exc x => ∀ c d M' H', ExtB b M H M' H' → ExR g M' c d x → E c d H'
      | .stuck => False) := hF
    unfold boxOf at hF'
    cases he : e[0]? with
    | none => rw [he] at hF'; exact hF'.elim
    | some s =>
      rw [he] at hF'
      cases s with
      | bx d =>
        obtain ⟨o', hb', ro'⟩ := box r' he
        refine hF' x M' H' o' (ext r') hb' ro' ?_ ?_
        · obtain ⟨d, bb⟩ := v
          cases bb with
          | false => exact vr
          | true =>
            obtain ⟨p, o, e1, hp, ro, mp, h0⟩ := vr
            refine ⟨p, o, e1, ?_, hp, ro⟩
            rcases h0 with h0 | h0
            · exact h0
            · exact h0.elim
        · obtain ⟨d, bb⟩ := v
          cases bb with
          | false => exact fun z => by cases z
          | true =>
            intro _ q0 eq
            obtain ⟨p, o, e1, hp, ro, mp, h0⟩ := vr
            rw [e1] at eq; cases eq
            exact mp
      | _ => exact hF'.elim
  | nx e =>
    rw [q] at hF
    intro σ' M' H' r'
    have hF' : (match boxOf (fz .non) e with
      | .ok v d1 => ∀ z M' H' o', ExtB b M H M' H' → H' b = some o' → RepO g M' b o' d1 → PX g M H M' H' z v → (v.nw = true → ∀ q, z = .ref q → M' q = none) → Q z H'
      | .exc x => ∀ c d M' H', ExtB b M H M' H' → ExR g M' c d x → E c d H'
      | .stuck => False) := hF
    unfold boxOf at hF'
    cases he : e[0]? with
    | none => rw [he] at hF'; exact hF'.elim
    | some s =>
      rw [he] at hF'
      cases s with
      | bx d =>
        obtain ⟨o', hb', ro'⟩ := box r' he
        exact hF' .non M' H' o' (ext r') hb' ro' .non (fun z => by cases z)
      | _ => exact hF'.elim
  | bk e => rw [q] at hF; exact hF.elim
  | ct e => rw [q] at hF; exact hF.elim
  | exc x e =>
    rw [q] at hF
    intro c d σ' M' H' r' xr
    exact hF c d M' H' (ext r') xr
  | stuck => rw [q] at hF; exact hF.elim
end
section
variable {P : Program} {w : World} {K : PySem.W.Frag} {mg : Str → Option Value} {base : Heap} {cl : Str → Option Addr} {N ps : List Str} {x qual : Str} {params : Arguments} {body : List Stmt} {scope : Scope} {f : Addr} {fd : FuncData} {k : Nat}
theorem bm_okN {modes : List Bool} {t : SS} (F : FunD K x qual params body scope [] [] f fd) (S : FnScope N ps scope) (hl : modes.length + 1 = ps.length)
    (der : ∀ (cdv : Value) (A : Around) (outer : List Env) (s : Shared) (H : Hp) (E : XK), Room k (ctxN P w K mg base N qual scope f cdv A outer s H E).A → InN (ctxN P w K mg base N qual scope f cdv A outer s H E) (WO E) → VSs (ctxN P w K mg base N qual scope f cdv A outer s H E) cl (WO E) body t) :
    FnOk P w K mg base (L2N.CX P w) (k + 1) f fd ps (spBx ⟨P, w, K, cl⟩ modes (runBM t modes N.length)) :=
  F.ok S (fun vs H Q E h => by rw [spBx_len h]; exact hl) fun cdv A outer s H vs Q E hr h => ⟨_, der cdv A outer s H E hr ⟨L2N.takes_of rfl rfl rfl rfl, L2.passes_of rfl⟩, pure_bxXM h⟩
end
end Ev
set_option Elab.async false
set_option linter.all false
set_option autoImplicit false
set_option maxRecDepth 100000
set_option maxHeartbeats 2000000
namespace Ev
open PySem L2 PySem.Spec PyProof.Rows
def sForR (tg : Tg) (i : Nat) (b : SS) : SS := fun e => match e[i]? with
  | some (.ro (.lst ds)) => forGo tg b ds e
  | _ => .stuck
theorem Rel.roStay {g : Gl0} {G : Gh} {e : En} {M H : Hp} {σ : L2.St} {i : Nat} {ds : List D} (r : Rel g G e M σ H) (h : e[i]? = some (.ro (.lst ds))) :
    ∃ a vs, σ[i]? = some (some (.ref a)) ∧ H a = some (.lst vs) ∧ Reps g M vs ds ∧ ∀ e' M' σ' H', Rel g (G.here e M σ H) e' M' σ' H' → H' a = some (.lst vs) := by
  obtain ⟨x, hx, v, rfl, q⟩ := r.at h
  rcases q with q | ⟨a, o, rfl, ha, ga, ro⟩
  · cases q with
    | lst hm rr hz => exact ⟨_, _, hx, r.sub _ _ hm, rr, fun e' M' σ' H' r' => r'.sub _ _ (r'.base _ _ hm)⟩
  · cases ro with
    | lst rr hz =>
      refine ⟨a, _, hx, ha, rr, fun e' M' σ' H' r' => r'.keep a _ ha fun y => ?_⟩
      rcases r.hereB.mp y with y | ⟨j, y⟩
      · exact (r.lent a ga).2.1 y
      · exact (r.lent a ga).2.2 j y
section
variable {X : Cx} {cl : Str → Option Addr} {W : WX} {body : List Stmt} {b : SS} {pos pos2 : Pos}
theorem zForR {tgt : Expr} {x : Str} {tg : Tg} (hp : PassesOwn (model X.prog X.w) X.A X.env X.xe) (hc : X.calm = true) (i : Nat) (hg : VG X tgt tg) (hb : VSs X cl W body b) (h : nmB X i x = true := by kernel_rfl)
    (hs : ∀ y, foldedSetIterable (.Name x pos2) X.env y = pure y := by intro _; rfl) : VS X cl W (.For tgt (.Name x pos2) body [] pos) (sForR tg i b) :=
  let ⟨n1, n2, n3, n4⟩ := nmB_of h
  PS_imp (ps_for hp hc (pi_seq (pe_var n1 n2 n3 n4)) hg hb hs) fun D σ H ⟨G, e, M, r, h⟩ => by
    unfold sForR at h
    split at h
    case h_2 => exact h.elim
    rename_i ds hs
    obtain ⟨a, vs, hσ, ha, rr, stay⟩ := r.roStay hs
    have hlen := rr.length
    refine ⟨_, hσ, .inl ⟨a, rfl, ⟨vs, .of ha⟩, ?_⟩⟩
    refine ⟨fun i m σ' H' => m = ds.length - i ∧ i ≤ ds.length ∧ ∃ e' M', Rel (gl X cl) (G.here e M σ H) e' M' σ' H' ∧ sPost (gl X cl) W G D (forGo tg b (ds.drop i) e'), ⟨_, rfl, Nat.zero_le _, e, M, r.here, by rw [List.drop_zero]; exact h⟩, ?_⟩
    rintro i m σi Hi ⟨rfl, hi, ei, Mi, ri, hrun⟩
    have hHi := stay _ _ _ _ ri
    by_cases hlt : i < ds.length
    · have hdrop : ds.drop i = ds[i] :: ds.drop (i + 1) := List.drop_eq_getElem_cons hlt
      rw [hdrop] at hrun
      unfold forGo at hrun
      obtain ⟨v, hv, rv⟩ := rr.get (List.getElem?_eq_getElem hlt)
      refine .inr ⟨⟨vs, v, .of hHi, hv⟩, fun σ' H' => ds.length - (i + 1) = ds.length - (i + 1) ∧ i + 1 ≤ ds.length ∧ ∃ e' M', Rel (gl X cl) (G.here e M σ H) e' M' σ' H' ∧ sPost (gl X cl) W G D (forGo tg b (ds.drop (i + 1)) e'), fun σ' H' z => ⟨ds.length - (i + 1), Nat.sub_lt_sub_left hlt (Nat.lt_succ_self i), z⟩, fun x H' hy => ?_⟩
      obtain ⟨rfl, hy⟩ := hy
      have hx := hy vs (.of hHi)
      rw [hv] at hx
      cases hx
      have rx : Rep (gl X cl) Mi v ds[i] := rv.mono ri.base
      cases hset : setTg tg ds[i] ei with
      | none => rw [hset] at hrun; exact hrun.elim
      | some e2 =>
        rw [hset] at hrun
        obtain ⟨σ2, r2, k2⟩ := tg_set rx hset ri
        refine k2 _ ?_
        have hrun' : sPost (gl X cl) W G D (match b e2 with
          | .nx e2 => forGo tg b (ds.drop (i + 1)) e2
          | .ct e2 => forGo tg b (ds.drop (i + 1)) e2
          | .bk e2 => .nx e2
          | r => r) := hrun
        refine ⟨(G.here e M σ H).here e2 Mi σ2 H', e2, Mi, r2.here, ?_⟩
        cases q2 : b e2 with
        | nx e3 => rw [q2] at hrun'; exact fun σ' M'' H'' r' => ⟨rfl, hlt, e3, M'', r2.back r', hrun'⟩
        | ct e3 => rw [q2] at hrun'; exact fun σ' M'' H'' r' => ⟨rfl, hlt, e3, M'', r2.back r', hrun'⟩
        | bk e3 => rw [q2] at hrun'; exact fun σ' M'' H'' r' => hrun' σ' M'' H'' (r.back (r2.back r'))
        | rt v e3 => rw [q2] at hrun'; exact fun x σ' M'' H'' r' v' => hrun' x σ' M'' H'' (r.back (r2.back r')) ((v'.back r2).back r)
        | exc x e3 => rw [q2] at hrun'; exact fun c d σ' M'' H'' r' z => hrun' c d σ' M'' H'' (r.back (r2.back r')) z
        | stuck => rw [q2] at hrun'; exact hrun'.elim
    · have hil : i = ds.length := by omega
      subst hil
      refine .inl ⟨⟨vs, .of hHi, by rw [hlen]; exact Nat.le_refl _⟩, ?_⟩
      rw [List.drop_length] at hrun
      exact hrun _ _ _ (r.back ri)
end
end Ev
set_option Elab.async false
set_option linter.all false
set_option autoImplicit false
set_option maxRecDepth 100000
set_option maxHeartbeats 2000000
namespace Ev
open PySem L2 PySem.Spec PyProof.Rows
structure TalkI (K : PySem.W.Frag) (cl : Str → Option Addr) : Prop where
  ex : ∃ C, cl "TalkError" = some C ∧ talkIK C K = true
def rIsT (C a : Addr) (cls : Value) (d : Option Addr) : List V → Hp → VK → Prop := fun xs H Q => cls = .ref C ∧ xs = [.ref a, .ty "ValueError"] ∧ (∃ dd fs, d = some dd ∧ H dd = some (.xd fs)) ∧ Q (.bl true) H
section
variable {X : Cx} {C fI : Addr}
theorem call_isT {a : Addr} {oe : Obj} {cls : Value} {d : Option Addr} {pn : List (Addr × Obj)} (T : PySem.TalkX.Txt X.prog X.K X.mg C fI) (hI : talkIK C X.K = true) (hz : Zc cls d oe) (hf : ∃ vs, oe.data = .fields vs) :
    CallR (X.suite a ((a, oe) :: pn)) (.builtin "isinstance") (rIsT C a cls d) := by
  intro pins s σ H xs us Q I r h
  obtain ⟨rfl, rfl, ⟨dd, fs, rfl, hdd⟩, q⟩ := h
  obtain ⟨u1, u2, rfl, r1, r2⟩ := vals2 r
  cases (show u1 = Value.ref a from r1)
  cases (show u2 = Value.type "ValueError" from r2)
  unfold talkIK at hI
  simp only [Bool.and_eq_true, decide_eq_true_eq] at hI
  obtain ⟨⟨⟨⟨⟨i1, i2⟩, i3⟩, i4⟩, i5⟩, i6⟩ := hI
  obtain ⟨hget, _⟩ := I.pin (a, oe) (List.mem_append.mpr (.inl List.mem_cons_self))
  obtain ⟨vs, hv⟩ := hf
  have hx : ObjOk X.prog X.w H s.heap dd (.xd fs) := I.hok dd _ hdd
  obtain ⟨mA, hns, _⟩ := hx
  obtain ⟨od, ho, _⟩ := lookIn_ns hns
  have J : PySem.W.InstAt s.heap a oe C (some od) := by
    obtain ⟨oc, odd, oda, osl⟩ := oe
    obtain ⟨h1, h2⟩ := hz
    dsimp only at h1 h2 hv
    subst h1 h2 hv
    exact ⟨hget, rfl, rfl, ho⟩
  exact PySem.W.kia_one (PySem.W.kitx_exc i6 T.ga T.gg T.exC i1 i2 i3 i4) I.kIn J i5 (fun z => nomatch z) fun tk => ⟨.bl true, H, I.tok tk, rfl, q⟩
end
section
variable {X : Cx} {cl : Str → Option Addr} {W : WX} {body : List Stmt} {b : SS} {n : Str} {np p1 p2 p3 p4 p5 p6 p7 p8 p9 p10 p11 p12 pos pos' : Pos} {i j : Nat}
theorem zTryV (T : TalkG X.prog X.K X.mg cl) (TI : TalkI X.K cl) (hm1 : X.mg "int" = none) (hm2 : X.mg "isinstance" = none) (hm3 : X.mg "ValueError" = none) (hN : X.N.Nodup) (i : Nat)
    (hb : ∀ (W : WX) (pn : List (Addr × Obj)) (xe : Value → Shared → Prop), L2.Takes (X.tr pn xe) W → PassesOwn (model X.prog X.w) X.A X.env xe → VSs (X.tr pn xe) cl W body b)
    (tk : L2.Takes X W) (hi : (decide (X.N[i]? = some n) && decide (X.env.kindOf n = some .local)) = true := by kernel_rfl) (h : glB X "TalkError" = true := by kernel_rfl)
    (hv : nmB X i n = true := by kernel_rfl) (b1 : btB X "int" (isTy "int") = true := by kernel_rfl) (b2 : btB X "isinstance" (isB "isinstance") = true := by kernel_rfl) (b3 : btB X "ValueError" (isTy "ValueError") = true := by kernel_rfl)
    (hs : X.stack = X.env :: X.outer := by rfl) (hf : X.env.frame = some X.env.locals := by rfl) (hbs : attributeBase (.Name n p2) "reason" X.env (eval (.Name n p2) X.env) = eval (.Name n p2) X.env := by rfl)
    (h1 : starEach [.Constant .none j p1, .Attribute (.Name n p2) "reason" p3] X.env = (false, eval (.Constant .none j p1) X.env) :: starEach [.Attribute (.Name n p2) "reason" p3] X.env := by rfl)
    (h2 : starEach [.Attribute (.Name n p2) "reason" p3] X.env = (false, eval (.Attribute (.Name n p2) "reason" p3) X.env) :: starEach [] X.env := by rfl)
    (h3 : starEach [.Name n p7, .Name "ValueError" p8] X.env = (false, eval (.Name n p7) X.env) :: starEach [.Name "ValueError" p8] X.env := by rfl)
    (h4 : starEach [.Name "ValueError" p8] X.env = (false, eval (.Name "ValueError" p8) X.env) :: starEach [] X.env := by rfl)
    (h5 : (backTo p9 (starEach [.Name "ValueError" p8] X.env)).any (·.1) = false := by rfl)
    (h6 : starEach [.Call (.Name "isinstance" p6) [.Name n p7, .Name "ValueError" p8] [] p9] X.env = (false, eval (.Call (.Name "isinstance" p6) [.Name n p7, .Name "ValueError" p8] [] p9) X.env) :: starEach [] X.env := by rfl)
    (h7 : (backTo p10 (starEach [] X.env)).any (·.1) = false := by rfl) :
    VS X cl W (.Try body [.ExceptHandler (some (.Name "TalkError" np)) (some n) [.Return (some (.Subscript (.List [.Constant .none j p1, .Attribute (.Name n p2) "reason" p3] p4) (.Call (.Name "int" p5) [.Call (.Name "isinstance" p6) [.Name n p7, .Name "ValueError" p8] [] p9] [] p10) p11)) p12] pos'] [] [] pos) (sTry b (hReason i)) := by
  obtain ⟨C, fI, hcl, T⟩ := T.ex
  obtain ⟨C', hcl', TI⟩ := TI.ex
  have : C' = C := by rw [hcl] at hcl'; cases hcl'; rfl
  subst this
  simp only [Bool.and_eq_true, decide_eq_true_eq] at hi
  obtain ⟨v1, v2, v3, v4⟩ := nmB_of hv
  obtain ⟨q1, q2, q3, u1, q4, q5⟩ := btB_of b1
  obtain ⟨w1, w2, w3, u2, w4, w5⟩ := btB_of b2
  obtain ⟨y1, y2, y3, u3, y4, y5⟩ := btB_of b3
  have e1 : u1 = .type "int" := by unfold isTy at q5; split at q5; exact congrArg _ (beq_iff_eq.mp q5); cases q5
  have e2 : u2 = .builtin "isinstance" := by unfold isB at w5; split at w5; exact congrArg _ (beq_iff_eq.mp w5); cases w5
  have e3 : u3 = .type "ValueError" := by unfold isTy at y5; split at y5; exact congrArg _ (beq_iff_eq.mp y5); cases y5
  subst e1 e2 e3
  refine PS_imp (L2.ps_try_as (i := i) (tb := fun W => tS (gl X cl) W b)
    (ts := fun a cls d => tRet (tOp (rIxL X.K) (tLst (tCons (tC .non) (tCons (tByTalk C' a cls d (tVar i)) tNil))) (tCB (rPs (gl X cl) pInt) (tCons (tCB (rIsT C' a cls d) (tCons (tVar i) (tCons (tC (.ty "ValueError")) tNil))) tNil)))) (Wout := W) hs hf hN hi.1 hi.2 ⟨(glB_of h).1, (glB_of h).2, .inl T.gC⟩ tk
    (fun W pn xe tk' hp => hb W pn xe tk' hp)
    (fun a oe cls d pn hz hfz => pss_one (ps_ret (pe_ix (X := X.suite a ((a, oe) :: pn)) ix_list (pe_lst (pa_cons pe_non (pa_cons (pe_byTalk T hz hfz (pe_var (X := X.suite a ((a, oe) :: pn)) v1 v2 v3 v4) hbs) pa_nil h2) h1))
      (pe_callTy cr_intP q1 hm1 q4 (pa_cons (pe_callB (call_isT T TI hz hfz) w1 hm2 w4 (pa_cons (pe_var (X := X.suite a ((a, oe) :: pn)) v1 v2 v3 v4) (pa_cons (pe_bltn (v := .ty "ValueError") y1 hm3 y4 rfl y3 y2) pa_nil h4) h3) w3 w2 h3 h5) pa_nil h6) q3 q2 h6 h7) (by intro _ _; rfl))))) fun D σ H ⟨G, e, M, r, w⟩ => ⟨G, e, M, r, ?_⟩
  unfold sTry at w
  cases q : b e with
  | nx e' => rw [q] at w; exact w
  | rt v e' => rw [q] at w; exact w
  | bk e' => rw [q] at w; exact w
  | ct e' => rw [q] at w; exact w
  | stuck => rw [q] at w; exact w
  | exc x e' =>
    rw [q] at w
    obtain ⟨xc, xf⟩ := x
    have w : sPost (gl X cl) W G D (if xc = "TalkError" then hReason i ⟨xc, xf⟩ e' else .stuck) := w
    by_cases hx : xc = "TalkError"
    · rw [if_pos hx] at w
      intro cls d σ' M' H' r' xr
      obtain ⟨C2, dd, fs, rfl, hC2, rfl, hdd, rf⟩ := xr
      have hC2 : cl xc = some C2 := hC2
      rw [hx, hcl] at hC2
      cases hC2
      refine ⟨true, T.te, fun _ a ha => ?_, fun z => Bool.noConfusion z⟩
      unfold hReason at w
      cases hei : e'[i]? with
      | none => rw [hei] at w; exact w.elim
      | some sl =>
        rw [hei] at w
        have hl : i < σ'.length := by rw [← r'.len]; exact (List.getElem?_eq_some_iff.mp hei).1
        cases rf with
        | nil => exact w.elim
        | @cons fn vv dv fs2 ds2 rv rest =>
          cases rest with
          | cons _ _ => exact w.elim
          | nil =>
            have w2 : sPost (gl X cl) W G D (if fn = "reason" then Fl.rt (fz dv) e' else .stuck) := w
            by_cases hfn : fn = "reason"
            · rw [if_pos hfn] at w2
              subst hfn
              refine ⟨.ref a, List.getElem?_set_self hl, rfl, rfl, dd, vv, rfl, r'.sub _ _ hdd, by show 2 ≤ sizeLine; decide, fun p hp => ?_⟩
              refine ⟨.ref a, List.getElem?_set_self hl, rfl, rfl, ⟨dd, [("reason", vv)], rfl, ?_⟩, ?_⟩
              · rw [upd_ne (fun z => by subst z; rw [r'.sub _ _ hdd] at hp; cases hp)]
                exact r'.sub _ _ hdd
              · have wx : Ext M' H' M' (upd H' p (.lst [V.non, vv])) := .new r'.sub hp
                refine ⟨M', [.bl true], fz (.int 1), wx.sub, .cons (.inl (.bl true)) .nil, rfl, fun z M3 H3 w3 px _ => ?_⟩
                have hz : z = .int 1 := by
                  have : Rep (gl X cl) M3 z (.int 1) := px
                  cases this; rfl
                subst hz
                refine ⟨p, [V.non, vv], 1, vv, rfl, rfl, .of (w3.keep _ _ upd_same), rfl, ?_⟩
                have r3 := r'.ext (wx.trans w3)
                exact w2 vv σ' M3 H3 r3 (rv.mono (wx.trans w3).mono)
            · rw [if_neg hfn] at w2
              exact w2.elim
    · rw [if_neg hx] at w
      exact w.elim
end
end Ev
set_option Elab.async false
set_option linter.all false
set_option autoImplicit false
set_option maxRecDepth 100000
set_option maxHeartbeats 2000000
namespace Ev
open PySem L2 PySem.Spec PyProof.Rows
section
variable {g : Gl0} {W : WX} {G : Gh} {e e' : En} {M M' H H' : Hp} {σ σ' : L2.St} {cs : List (Addr × D)} {p : Addr} {d d' : D} {i : Nat}
theorem Cells.nil : Cells g G e M σ H [] := ⟨fun _ h => by simp at h, by simp⟩
theorem Cells.live (c : Cells g G e M σ H cs) {a : Addr} (h : a ∈ cs.map (·.1)) : H a ≠ none := by
  obtain ⟨x, hx, rfl⟩ := List.mem_map.mp h
  obtain ⟨q, o, e1, hq, _⟩ := c.vr x hx
  cases e1
  rw [hq]
  exact Option.some_ne_none _
theorem Cells.ext (c : Cells g G e M σ H cs) (w : Ext M H M' H') : Cells g G e M' σ H' cs := ⟨fun x hx => (c.vr x hx).ext w, c.nd⟩
theorem Cells.setV (r : Rel g G e M σ H) (c : Cells g G e M σ H cs) {x : V} {v : Vl} (hne : v.nw = true → ∀ p, x = .ref p → p ∉ cs.map (·.1)) : Cells g G (e.set i v.slot) M (σ.set i (some x)) H cs := ⟨fun y hy => by
  obtain ⟨q, o, e1, hq, ro, mq, h0, nb, nr, ne⟩ := c.vr y hy
  cases e1
  refine ⟨_, o, rfl, hq, ro, mq, h0, nb, nr, fun j z => ?_⟩
  rcases owns_set r.len z with ⟨rfl, o1, e2⟩ | ⟨n1, o1⟩
  · have hv : v.nw = true := by
      unfold Vl.slot at o1
      split at o1
      · assumption
      · exact o1.elim
    cases e2
    exact hne hv _ rfl (List.mem_map.mpr ⟨y, hy, rfl⟩)
  · exact ne j o1, c.nd⟩
theorem Cells.new (r : Rel g G e M σ H) (c : Cells g G e M σ H cs) (r' : Rel g (G.here e M σ H) e' M' σ' H') (v : VR g (G.here e M σ H) e' M' σ' H' (.ref p) (nw d)) : Cells g G e' M' σ' H' ((p, d) :: cs) := by
  have c' := c.stay r r'
  obtain ⟨q, o, e1, hq, ro, mq, h0, nb, nr, ne⟩ := id v
  cases e1
  refine ⟨fun x hx => ?_, ?_⟩
  · rcases List.mem_cons.mp hx with rfl | hx
    · exact v.back r
    · exact c'.vr x hx
  · rw [List.map_cons, List.nodup_cons]
    exact ⟨fun h => c.live h h0, c.nd⟩
theorem carryN {ms : List (Sx Opd)} {Q : VK} (r : Rel g G e M σ H) (c : Cells g G e M σ H cs) (h : sLst ms e = .ok (nw d) e') (k : ∀ p M' H', Rel g G e' M' σ H' → Cells g G e' M' σ H' ((p, d) :: cs) → Q (.ref p) H') : tE g W (sLst ms) σ H Q := by
  refine ⟨G.here e M σ H, e, M, r.here, ?_⟩
  rw [h]
  intro x M' H' r' v'
  obtain ⟨p, o, rfl, _⟩ := id v'
  exact k p M' H' (r.back r') (c.new r r' v')
theorem carryA {ms : List (Sx Opd)} {os : List Opd} {Q : List V → Hp → Prop} (r : Rel g G e M σ H) (c : Cells g G e M σ H cs) (h : sOps ms e = .ok os e') (k : ∀ xs M' H', Rel g G e' M' σ H' → Cells g G e' M' σ H' cs → Sub M M' → OpdRs g M' σ xs os → Q xs H') : tAs g W (sOps ms) σ H Q := by
  refine ⟨G.here e M σ H, e, M, r.here, ?_⟩
  rw [h]
  exact fun xs M' H' r' x => k xs M' H' (r.back r') (c.stay r r') r'.base x
theorem carryO' {m : Sx Opd} {o : Opd} {Q : VK} (r : Rel g G e M σ H) (c : Cells g G e M σ H cs) (h : m e = .ok o e') (k : ∀ x M' H', Rel g G e' M' σ H' → Cells g G e' M' σ H' cs → Sub M M' → OpdR g M' σ x o → Q x H') : tO g W m σ H Q := by
  refine ⟨G.here e M σ H, e, M, r.here, ?_⟩
  rw [h]
  exact fun x M' H' r' v' => k x M' H' (r.back r') (c.stay r r') r'.base v'
theorem refs_set {vs : List V} {ds : List D} (r : Rel g G e M σ H) (c : Cells g G e M σ H cs) (hv : Reps g M vs ds) (hz : ds.length ≤ sizeLine) (hp : H p = none) :
    Rel g G (e.set i (.ow (.lst ds))) M (σ.set i (some (.ref p))) (upd H p (.lst vs)) ∧ Cells g G (e.set i (.ow (.lst ds))) M (σ.set i (some (.ref p))) (upd H p (.lst vs)) cs := by
  have w : Ext M H M (upd H p (.lst vs)) := .new r.sub hp
  obtain ⟨r1, v1⟩ := r.px (v := nw (.lst ds)) w ⟨p, _, rfl, hp, upd_same, .lst hv hz⟩ (fun _ q e => by cases e; exact r.sub.none hp)
  refine ⟨r1.setV v1, (c.ext w).setV r1 (v := nw (.lst ds)) fun _ q e => ?_⟩
  cases e
  exact fun h => c.live h hp
theorem ArgR.ext : ∀ {bs : List Bool} {vs : List V} {ds : List D}, Ext M H M' H' → ArgR g M H bs vs ds → ArgR g M' H' bs vs ds
  | _, _, _, w, .nil => .nil
  | _, _, _, w, .held r t => .held (r.mono w.mono) (ArgR.ext w t)
  | _, _, _, w, .lent r t => .lent (r.imp (fun q => q.mono w.mono) fun ⟨a, o, e, h, ro⟩ => ⟨a, o, e, w.keep _ _ h, ro.mono w.mono⟩) (ArgR.ext w t)
theorem carryM {modes : List Bool} {BS : D → List D → ResB} {C : Addr} {cn : Str} {ms : List (Sx Opd)} {os : List Opd} {ds : List D} {E : XK} {Q : VK} (hC : g.cl cn = some C) (r : Rel g G e M σ H) (c : Cells g G e M σ H cs) (hops : sOps ms e = .ok os e')
    (hargs : ∀ xs M' H', Rel g G e' M' σ H' → Cells g G e' M' σ H' cs → OpdRs g M' σ xs os → ArgR g M' H' modes xs ds) (hB : BS (.obj cn []) ds = .ok (fz .non) d)
    (k : ∀ a M' H', Rel g G e' M' σ H' → Cells g G e' M' σ H' cs → VR g G e' M' σ H' (.ref a) (nw d) → a ∉ cs.map (·.1) → Q (.ref a) H') : tMake C (spBx g modes BS) [] E (tAs g W (sOps ms)) σ H Q := by
  unfold tMake
  refine carryA r c hops fun xs M1 H1 r1 c1 _ hx => ?_
  have ar := hargs xs M1 H1 r1 c1 hx
  intro a dx ha hdx hne
  have w2 : Ext M1 H1 M1 (upd (upd H1 dx (.own a)) a (.ins C dx [])) := by
    have z : Ext M1 H1 M1 (upd H1 dx (.own a)) := .new r1.sub hdx
    exact z.trans (.new z.sub (by rw [upd_ne hne.symm]; exact ha))
  rw [List.append_nil]
  refine ⟨a, .ins C dx [], .obj cn [], M1, xs, ds, rfl, upd_same, .obj hC .nil, r1.sub.none ha, w2.sub, ar.ext w2, ?_⟩
  rw [hB]
  intro z M3 H3 o' wB ho ro px _
  have hz : z = .non := by
    have : Rep g M3 z .non := px
    cases this; rfl
  subst hz
  have m3 : M3 a = none := by
    cases q : M3 a with
    | none => rfl
    | some u =>
      rcases wB.fresh a (by rw [q]; exact Option.some_ne_none _) with h | h
      · exact absurd (r1.sub.none ha) h
      · rw [upd_same] at h; cases h
  have w3 : Ext M1 H1 M3 H3 := ⟨fun b o hb => wB.keep b o (fun z => by subst z; rw [ha] at hb; cases hb) (w2.keep b o hb), wB.mono, wB.sub, fun b hb => by
    rcases wB.fresh b hb with h | h
    · exact .inl h
    · right
      cases q : H1 b with
      | none => rfl
      | some o => rw [w2.keep _ _ q] at h; cases h⟩
  obtain ⟨r3, v3⟩ := r1.px (v := nw d) w3 ⟨a, o', rfl, ha, ho, ro⟩ (fun _ q e => by cases e; exact m3)
  exact ⟨rfl, k a M3 H3 r3 (c1.ext w3) v3 fun h => c1.live h ha⟩
theorem Cells.upd {c1 c2 : List (Addr × D)} {o' : HO} (r : Rel g G e M σ H) (c : Cells g G e M σ H (c1 ++ (p, d) :: c2)) (ro : RepO g M p o' d') : Rel g G e M σ (L2.upd H p o') ∧ Cells g G e M σ (L2.upd H p o') (c1 ++ (p, d') :: c2) := by
  obtain ⟨r1, v1⟩ := r.upT (c.vr (p, d) (by simp)) ro
  refine ⟨r1, fun x hx => ?_, ?_⟩
  · have nd := c.nd
    rw [List.map_append, List.map_cons] at nd
    have hd := List.nodup_append.mp nd
    rcases List.mem_append.mp hx with hx | hx
    · refine (c.vr x (by simp [hx])).upH fun z => ?_
      exact hd.2.2 x.1 (List.mem_map.mpr ⟨x, hx, rfl⟩) p (by simp) z
    · rcases List.mem_cons.mp hx with rfl | hx
      · exact v1
      · refine (c.vr x (by simp [hx])).upH fun z => ?_
        have h2 := (List.nodup_cons.mp hd.2.1).1
        exact h2 (List.mem_map.mpr ⟨x, hx, z⟩)
  · have nd := c.nd
    rw [List.map_append, List.map_cons] at nd ⊢
    exact nd
theorem Cells.drop {c1 c2 : List (Addr × D)} (c : Cells g G e M σ H (c1 ++ c2)) : Cells g G e M σ H c2 := ⟨fun x hx => c.vr x (List.mem_append_right _ hx), by
  have := c.nd
  rw [List.map_append] at this
  exact (List.nodup_append.mp this).2.1⟩
end
end Ev
set_option Elab.async false
set_option linter.all false
set_option autoImplicit false
set_option maxRecDepth 100000
set_option maxHeartbeats 2000000
namespace Ev
open PySem L2 PySem.Spec PyProof.Rows
abbrev oA : D := .lst [.str "a"]
abbrev oC' : D := .lst [.str "c"]
abbrev oR (l : Str) : D := .lst [.tup [.int 0, .str l, .int 0]]
abbrev oZ : D := .lst [.int 0]
abbrev sA (x : Str) : Sx Vl := sLst [oVal (sC (.str x))]
abbrev sR (l : Str) : Sx Vl := sLst [oVal (sTup [oVal (sC (.int 0)), oVal (sC (.str l)), oVal (sC (.int 0))])]
abbrev sZ : Sx Vl := sLst [oVal (sC (.int 0))]
noncomputable abbrev opAt (i : Nat) (k : Int) : Sx Opd := oVal (sPrim pIxA [oName i, oVal (sC (.int k))])
def OwnC (BS BP : D → List D → ResB) (t2 : SS) : Prop := ∃ sv pt, BS (.obj "Service" []) [oA, oC', .int 1, oR "tau", oZ] = .ok (fz .non) sv ∧ BP (.obj "Partner" []) [.int 1, oR "!a", oZ] = .ok (fz .non) pt ∧
  ∀ a c x, ∃ e', t2 [.ow a, .ow sv, .ow c, .ow pt, x] = .rt (fz (.bl true)) e'
open Classical in
noncomputable def ownF (BS BP : D → List D → ResB) (t2 : SS) : List D → Res Vl := fun ds => if ds = [] ∧ OwnC BS BP t2 then .ok (fz (.bl true)) else .stuck
noncomputable def appZ (g : Gl0) (W : WX) : TS := tDrop (tBMG g .lst (rMut g [false] pAppend) (tO g W (oName 4)) (tAs g W (sOps [oVal (sC (.str "z"))])))
noncomputable def ownRaw (g : Gl0) (W : WX) (CS CP : Addr) (BS BP : D → List D → ResB) (t2 : SS) : TS :=
  tSeq (tAsg (tLst (tCons (tE g W (sA "a")) (tCons (tE g W (sA "c")) (tCons (tE g W (sR "tau")) (tCons (tE g W sZ) tNil))))) (gName 0))
  (tSeq (tAsg (fun σ H Q => tMake CS (spBx g [true, true, false, true, true] BS) [] (WAt W σ) (tAs g W (sOps [opAt 0 0, opAt 0 1, oVal (sC (.int 1)), opAt 0 2, opAt 0 3])) σ H Q) (gName 1))
  (tSeq (tAsg (tLst (tCons (tE g W (sR "!a")) (tCons (tE g W sZ) tNil))) (gName 2))
  (tSeq (tAsg (fun σ H Q => tMake CP (spBx g [false, true, true] BP) [] (WAt W σ) (tAs g W (sOps [oVal (sC (.int 1)), opAt 2 0, opAt 2 1])) σ H Q) (gName 3))
  (tSeq (tFor (tI g W (sSeq (oVal (sPrim pAdd [oName 0, oName 2])))) (gName 4) (appZ g W)) (tS g W t2)))))
section
variable {g : Gl0} {W : WX} {G : Gh} {e e' : En} {M M' H H' : Hp} {σ σ' : L2.St} {cs : List (Addr × D)} {p : Addr} {d d' : D} {i : Nat}
theorem Cells.lentAt (c : Cells g G e M σ H cs) (h : (p, d) ∈ cs) : PRep g M H (.ref p) d := by
  obtain ⟨q, o, e1, hq, ro, _⟩ := c.vr _ h
  cases e1
  exact .inr ⟨_, o, rfl, hq, ro⟩
theorem app_cell {c1 c2 : List (Addr × D)} {ds : List D} {D' : Ends} (r : Rel g G e M σ H) (c : Cells g G e M σ H (c1 ++ (p, .lst ds) :: c2)) (h4 : e[4]? = some (.sh (.adr p))) (hz : ds.length < sizeLine)
    (k : ∀ M' H', Sub M M' → Rel g G e M' σ H' → Cells g G e M' σ H' (c1 ++ (p, .lst (ds ++ [.str "z"])) :: c2) → D'.nx σ H') : appZ g W D' σ H := by
  unfold appZ tDrop tBMG
  have ho : oName 4 e = .ok (.sl 4) e := by
    unfold oName
    rw [h4]
    rfl
  refine carryO' r c ho fun x M1 H1 r1 c1' s1 hx => ?_
  obtain ⟨y, hy, v, e1, rv⟩ := r1.at h4
  have hx' : σ[4]? = some (some x) := hx
  rw [hx'] at hy
  cases hy
  cases e1
  cases rv
  obtain ⟨q, o, e2, hq, ro, mq, _⟩ := c1'.vr (p, .lst ds) (by simp)
  cases e2
  refine ⟨⟨M1, .lst ds, r1.sub, .inr ⟨p, o, rfl, hq, ro⟩, rfl⟩, ?_⟩
  have hops : sOps [oVal (sC (.str "z"))] e = .ok [.dt (.str "z")] e := rfl
  refine carryA r1 c1' hops fun xs M2 H2 r2 c2' s2 hxs => ?_
  obtain ⟨q, o, e2, hq, ro, mq, _⟩ := c2'.vr (p, .lst ds) (by simp)
  cases e2
  cases hxs with
  | cons q1 q2 =>
    cases q2
    refine ⟨p, M2, o, .lst ds, [.str "z"], .non, .lst (ds ++ [.str "z"]), rfl, hq, ro, mq, r2.sub, .held q1 .nil, ?_, fun z o' ro' _ => ?_⟩
    · show (if ds.length < sizeLine then some (D.non, D.lst (ds ++ [.str "z"])) else none) = _
      rw [if_pos hz]
    · obtain ⟨r3, c3⟩ := c2'.upd r2 ro'
      exact k M2 _ (s1.trans s2) r3 c3
theorem ix_at {i : Nat} {k : Nat} {l : List D} {x : D} (h : e[i]? = some (.ow (.lst l))) (hk : l[k]? = some x) : opAt i (k : Int) e = .ok (.dt x) e := by
  have a : L2.atI l (k : Int) = some x := L2.atI_nat hk
  have e1 : pIxA [.lst l, .int (k : Int)] = some (fz x) := ixL a
  have e2 : sPrim pIxA [oName i, oVal (sC (.int (k : Int)))] e = .ok (fz x) e := by
    simp [sPrim, sArgs, sOps, oName, oVal, sC, ress, res, h, Slot.look, e1]
  show ((sPrim pIxA [oName i, oVal (sC (.int (k : Int)))] e).bind fun v e => Out.ok (Opd.dt v.d) e) = _
  rw [e2]
  rfl
theorem ops_one {mo : Sx Opd} {ms : List (Sx Opd)} {o : Opd} {os : List Opd} (h : mo e = .ok o e) (h2 : sOps ms e = .ok os e) : sOps (mo :: ms) e = .ok (o :: os) e := by
  show ((mo e).bind fun o e => (sOps ms e).bind fun os e => .ok (o :: os) e) = _
  rw [h, Out.bind_ok, h2]
  rfl
def ownC (L : List (Addr × List D)) (i : Nat) : List (Addr × D) := ((L.drop i).reverse.map fun x => (x.1, D.lst x.2)) ++ ((L.take i).reverse.map fun x => (x.1, D.lst (x.2 ++ [.str "z"])))
theorem ownC_at {L : List (Addr × List D)} {i : Nat} (h : i < L.length) : ownC L i = ((L.drop (i + 1)).reverse.map fun x => (x.1, D.lst x.2)) ++ (L[i].1, .lst L[i].2) :: ((L.take i).reverse.map fun x => (x.1, D.lst (x.2 ++ [.str "z"]))) := by
  unfold ownC
  rw [List.drop_eq_getElem_cons h, List.reverse_cons, List.map_append, List.append_assoc]
  rfl
theorem ownC_to {L : List (Addr × List D)} {i : Nat} (h : i < L.length) : ownC L (i + 1) = ((L.drop (i + 1)).reverse.map fun x => (x.1, D.lst x.2)) ++ (L[i].1, .lst (L[i].2 ++ [.str "z"])) :: ((L.take i).reverse.map fun x => (x.1, D.lst (x.2 ++ [.str "z"]))) := by
  unfold ownC
  rw [← List.take_append_getElem h, List.reverse_append, List.map_append]
  rfl
theorem own_loop {sr : Sx Src} {L : List (Addr × List D)} {A B sv pt : D} {x0 : Slot} {D' : Ends} (r : Rel g G [.ow A, .ow sv, .ow B, .ow pt, x0] M σ H) (c : Cells g G [.ow A, .ow sv, .ow B, .ow pt, x0] M σ H (ownC L 0))
    (hs : sr [.ow A, .ow sv, .ow B, .ow pt, x0] = .ok ⟨L.map fun x => .adr x.1, none⟩ [.ow A, .ow sv, .ow B, .ow pt, x0]) (hL : ∀ x ∈ L, x.2.length < sizeLine)
    (k : ∀ x M' σ' H', Rel g G [.ow A, .ow sv, .ow B, .ow pt, x] M' σ' H' → D'.nx σ' H') : tFor (tI g W sr) (gName 4) (appZ g W) D' σ H := by
  unfold tFor
  refine ⟨_, _, _, r.here, ?_⟩
  rw [hs]
  intro J M1 H1 r1 x1
  obtain ⟨S, jok, hlen, per⟩ := x1
  have rb := r.back r1
  have cb := c.stay r r1
  refine ⟨fun i m σ H => m = L.length - i ∧ i ≤ L.length ∧ ∃ M x, Sub M1 M ∧ Rel g G [.ow A, .ow sv, .ow B, .ow pt, x] M σ H ∧ Cells g G [.ow A, .ow sv, .ow B, .ow pt, x] M σ H (ownC L i), ⟨_, rfl, Nat.zero_le _, M1, x0, .refl, rb, cb⟩, ?_⟩
  rintro i m σi Hi ⟨rfl, hi, Mi, x, sM, ri, ci⟩
  have st : S Mi Hi := per _ _ Mi Hi _ ri sM (by unfold Src.ok; trivial) (fun j d hj => by cases hj)
  have hll : (L.map fun x => D.adr x.1).length = L.length := List.length_map _
  by_cases hlt : i < L.length
  · refine .inr ⟨jok.go i Mi Hi st ri.sub (by rw [hll]; exact hlt), fun σ' H' => L.length - (i + 1) = L.length - (i + 1) ∧ i + 1 ≤ L.length ∧ ∃ M x, Sub M1 M ∧ Rel g G [.ow A, .ow sv, .ow B, .ow pt, x] M σ' H' ∧ Cells g G [.ow A, .ow sv, .ow B, .ow pt, x] M σ' H' (ownC L (i + 1)), fun σ' H' z => ⟨L.length - (i + 1), Nat.sub_lt_sub_left hlt (Nat.lt_succ_self i), z⟩, fun y H' hy => ?_⟩
    obtain ⟨M5, w5, rx⟩ := jok.yld i Mi Hi y H' st ri.sub hy (.adr L[i].1) (by rw [List.getElem?_map, List.getElem?_eq_getElem hlt]; rfl)
    have r5 := ri.ext w5
    have c5 := ci.ext w5
    have r6 : Rel g G [.ow A, .ow sv, .ow B, .ow pt, .sh (.adr L[i].1)] M5 (σi.set 4 (some y)) H' := r5.setSh (i := 4) rx
    have c6 : Cells g G [.ow A, .ow sv, .ow B, .ow pt, .sh (.adr L[i].1)] M5 (σi.set 4 (some y)) H' (ownC L i) := c5.setV (i := 4) r5 (v := fz (.adr L[i].1)) (fun z => by cases z)
    rw [ownC_at hlt] at c6
    refine app_cell r6 c6 rfl (hL _ (List.getElem_mem hlt)) fun M7 H7 s7 r7 c7 => ?_
    rw [← ownC_to hlt] at c7
    exact ⟨rfl, hlt, M7, _, sM.trans (w5.mono.trans s7), r7, c7⟩
  · obtain rfl : i = L.length := by omega
    have hst := jok.stop Mi Hi st ri.sub
    have hst' : J.stop (L.map fun x => D.adr x.1).length Hi := hst
    rw [hll] at hst'
    exact .inl ⟨hst', k _ _ _ _ ri⟩
theorem repAdr {x : V} {a : Addr} (h : OpdR g M σ x (.dt (.adr a))) : x = .ref a := by
  have h' : Rep g M x (.adr a) := h
  cases h'
  rfl
theorem repInt1 {x : V} {n : Int} (h : OpdR g M σ x (.dt (.int n))) : Rep g M x (.int n) := h
theorem own_pure {BS BP : D → List D → ResB} {t2 : SS} {CS CP : Addr} {vs : List V} {Q : VK} {E : XK} (hS : g.cl "Service" = some CS) (hP : g.cl "Partner" = some CP) (h : spFn g [] (ownF BS BP t2) vs H Q E) :
    ownRaw g W0 CS CP BS BP t2 { nx := fun _ H' => Q .non H', rt := Q } (L2.start ["_law_parts", "_law_made_here", "_law_mine", "_law_mate_here", "_law_one"] vs) H := by
  obtain ⟨M, ds, sm, ar, hF⟩ := h
  cases ar
  unfold ownF at hF
  by_cases hc : ([] : List D) = [] ∧ OwnC BS BP t2
  case neg =>
    rw [if_neg hc] at hF
    exact hF.elim
  rw [if_pos hc] at hF
  obtain ⟨_, sv, pt, hB, hB2, ht⟩ := hc
  show ownRaw g W0 CS CP BS BP t2 _ [none, none, none, none, none] H
  have r0 : Rel g (ghP M H none) [.unb, .unb, .unb, .unb, .unb] M [none, none, none, none, none] H := (ShR.unb (.unb (.unb (.unb (.unb .nil))))).rel sm
  unfold ownRaw tSeq tAsg tLst tCons tNil
  refine carryN (d := oA) r0 Cells.nil rfl fun p1 M1 H1 r1 c1 => ?_
  refine carryN (d := oC') r1 c1 rfl fun p2 M2 H2 r2 c2 => ?_
  refine carryN (d := oR "tau") r2 c2 rfl fun p3 M3 H3 r3 c3 => ?_
  refine carryN (d := oZ) r3 c3 rfl fun p4 M4 H4 r4 c4 => ?_
  refine ⟨by show 4 ≤ sizeLine; decide, fun p0 hp0 => ?_⟩
  obtain ⟨r5, c5⟩ : Rel g (ghP M H none) [.ow (.lst [.adr p1, .adr p2, .adr p3, .adr p4]), .unb, .unb, .unb, .unb] M4 [some (.ref p0), none, none, none, none] _ ∧ Cells g (ghP M H none) [.ow (.lst [.adr p1, .adr p2, .adr p3, .adr p4]), .unb, .unb, .unb, .unb] M4 [some (.ref p0), none, none, none, none] _ _ :=
    refs_set (i := 0) (ds := [.adr p1, .adr p2, .adr p3, .adr p4]) r4 c4 (.cons .adr (.cons .adr (.cons .adr (.cons .adr .nil)))) (by show 4 ≤ sizeLine; decide) hp0
  simp only [gName, List.set]
  refine carryM (d := sv) hS r5 c5 (os := [.dt (.adr p1), .dt (.adr p2), .dt (.int 1), .dt (.adr p3), .dt (.adr p4)]) (ops_one (ix_at (k := 0) rfl rfl) (ops_one (ix_at (k := 1) rfl rfl) (ops_one rfl (ops_one (ix_at (k := 2) rfl rfl) (ops_one (ix_at (k := 3) rfl rfl) rfl))))) ?_ hB fun a1 M6 H6 r6 c6 v6 n6 => ?_
  · intro xs M' H' r' c' hx
    cases hx with
    | cons q1 hx =>
    cases hx with
    | cons q2 hx =>
    cases hx with
    | cons q3 hx =>
    cases hx with
    | cons q4 hx =>
    cases hx with
    | cons q5 hx =>
    cases hx
    cases repAdr q1
    cases repAdr q2
    cases repAdr q4
    cases repAdr q5
    exact .lent (c'.lentAt (by simp)) (.lent (c'.lentAt (by simp)) (.held (repInt1 q3) (.lent (c'.lentAt (by simp)) (.lent (c'.lentAt (by simp)) .nil))))
  have r7 : Rel g (ghP M H none) [.ow (.lst [.adr p1, .adr p2, .adr p3, .adr p4]), .ow sv, .unb, .unb, .unb] M6 [some (.ref p0), some (.ref a1), none, none, none] H6 := r6.setV (i := 1) v6
  have c7 : Cells g (ghP M H none) [.ow (.lst [.adr p1, .adr p2, .adr p3, .adr p4]), .ow sv, .unb, .unb, .unb] M6 [some (.ref p0), some (.ref a1), none, none, none] H6 _ := c6.setV (i := 1) r6 (v := nw sv) (fun _ q e => by cases e; exact n6)
  refine carryN (d := oR "!a") r7 c7 rfl fun q1 M8 H8 r8 c8 => ?_
  refine carryN (d := oZ) r8 c8 rfl fun q2 M9 H9 r9 c9 => ?_
  refine ⟨by show 2 ≤ sizeLine; decide, fun q0 hq0 => ?_⟩
  obtain ⟨r10, c10⟩ : Rel g (ghP M H none) [.ow (.lst [.adr p1, .adr p2, .adr p3, .adr p4]), .ow sv, .ow (.lst [.adr q1, .adr q2]), .unb, .unb] M9 [some (.ref p0), some (.ref a1), some (.ref q0), none, none] _ ∧ Cells g (ghP M H none) [.ow (.lst [.adr p1, .adr p2, .adr p3, .adr p4]), .ow sv, .ow (.lst [.adr q1, .adr q2]), .unb, .unb] M9 [some (.ref p0), some (.ref a1), some (.ref q0), none, none] _ _ :=
    refs_set (i := 2) (ds := [.adr q1, .adr q2]) r9 c9 (.cons .adr (.cons .adr .nil)) (by show 2 ≤ sizeLine; decide) hq0
  refine carryM (d := pt) hP r10 c10 (os := [.dt (.int 1), .dt (.adr q1), .dt (.adr q2)]) (ops_one rfl (ops_one (ix_at (k := 0) rfl rfl) (ops_one (ix_at (k := 1) rfl rfl) rfl))) ?_ hB2 fun a2 M11 H11 r11 c11 v11 n11 => ?_
  · intro xs M' H' r' c' hx
    cases hx with
    | cons q1 hx =>
    cases hx with
    | cons q2 hx =>
    cases hx with
    | cons q3 hx =>
    cases hx
    cases repAdr q2
    cases repAdr q3
    exact .held (repInt1 q1) (.lent (c'.lentAt (by simp)) (.lent (c'.lentAt (by simp)) .nil))
  have r12 : Rel g (ghP M H none) [.ow (.lst [.adr p1, .adr p2, .adr p3, .adr p4]), .ow sv, .ow (.lst [.adr q1, .adr q2]), .ow pt, .unb] M11 [some (.ref p0), some (.ref a1), some (.ref q0), some (.ref a2), none] H11 := r11.setV (i := 3) v11
  have c12 : Cells g (ghP M H none) [.ow (.lst [.adr p1, .adr p2, .adr p3, .adr p4]), .ow sv, .ow (.lst [.adr q1, .adr q2]), .ow pt, .unb] M11 [some (.ref p0), some (.ref a1), some (.ref q0), some (.ref a2), none] H11 _ := c11.setV (i := 3) r11 (v := nw pt) (fun _ q e => by cases e; exact n11)
  have c13 : Cells g (ghP M H none) [.ow (.lst [.adr p1, .adr p2, .adr p3, .adr p4]), .ow sv, .ow (.lst [.adr q1, .adr q2]), .ow pt, .unb] M11 [some (.ref p0), some (.ref a1), some (.ref q0), some (.ref a2), none] H11 (ownC [(p1, [.str "a"]), (p2, [.str "c"]), (p3, [.tup [.int 0, .str "tau", .int 0]]), (p4, [.int 0]), (q1, [.tup [.int 0, .str "!a", .int 0]]), (q2, [.int 0])] 0) := c12
  refine own_loop r12 c13 ?_ (fun x hx => ?_) fun x M14 σ14 H14 r14 => ?_
  · have e1 : pAdd [.lst [.adr p1, .adr p2, .adr p3, .adr p4], .lst [.adr q1, .adr q2]] = some (nw (.lst [.adr p1, .adr p2, .adr p3, .adr p4, .adr q1, .adr q2])) := by
      exact if_pos (e := none) (by decide : 4 + 2 ≤ sizeLine)
    simp [sSeq, oVal, sPrim, sArgs, sOps, oName, ress, res, Slot.look, e1, chkOf]
  · simp only [List.mem_cons, List.not_mem_nil, or_false] at hx
    rcases hx with rfl | rfl | rfl | rfl | rfl | rfl <;> (show 1 < sizeLine; decide)
  · refine ⟨_, _, _, r14, ?_⟩
    obtain ⟨e', he⟩ := ht (.lst [.adr p1, .adr p2, .adr p3, .adr p4]) (.lst [.adr q1, .adr q2]) x
    rw [he]
    intro z σ8 M8 H8 r8 vr
    exact hF z M8 H8 (ext_pureR r8) vr (fun z => by cases z)
end
section
variable {X : Cx} {cl : Str → Option Addr} {W : WX} {CX : CXT} {pos pos2 pos3 apos cpos pp : Pos} {x nm : Str} {a ex c o : Expr} {es : List Expr} {k k' : Nat}
theorem rMakeQ {sp : Sp} (FO : ClQ CX X.prog X.w X.K X.mg X.base cl k x sp) (px : PassQ CX X W) {A : Around} {t : TA} (hr : Room k' A) (hk : k + 1 ≤ k') (ha : PA X (a :: es) t) (h : glB X x = true := by kernel_rfl) (eA : X.A = A := by rfl)
    (he : starEach (a :: es) X.env = (false, eval a X.env) :: starEach es X.env := by rfl) (hpl : (backTo pos (starEach es X.env)).any (·.1) = false := by rfl) : PE X (.Call (.Name x pos2) (a :: es) [] pos) (fun σ H Q => tMake (cAt cl x) sp [] (WAt W σ) t σ H Q) := by
  subst eA
  obtain ⟨C, f, fd, ps, hC, MK, ok, hm, hb⟩ := FO.ex
  obtain ⟨g1, g2⟩ := glB_of h
  have : cAt cl x = C := by unfold cAt; rw [hC]; rfl
  rw [this]
  exact pe_makeSD (E := WAt W) MK ok (hr.mono hk) g1 hm hb .nil px ha g2 he hpl
theorem rAppE {m : Sx Opd} {ms : List (Sx Opd)} (ho : VO X cl W o m) (ha : VA X cl W [a] ms) (hbase : attributeBase o "append" X.env (eval o X.env) = eval o X.env := by rfl)
    (hfew : ((backTo cpos (starEach (a :: []) X.env)).all (fun x => !x.1) && (backToKw cpos (keywordEach [] X.env)).all (fun x => x.1.isSome)
      && decide ((a :: []).length + ([] : List Keyword).length + (if ([] : List Keyword).isEmpty then 0 else 1) < 30)) = true := by rfl)
    (hline : (apos.endLine == cpos.line) = true := by rfl) (hst : starEach (a :: []) X.env = (false, eval a X.env) :: starEach [] X.env := by rfl) (hplain : (backTo cpos (starEach [] X.env)).any (·.1) = false := by rfl)
    (hs : swapsWith (.Call (.Attribute o "append" apos) [a] [] cpos) none pos.line X.env = pure false := by rfl) :
    PS X (.Expr (.Call (.Attribute o "append" apos) [a] [] cpos) pos) (tDrop (tBMG (gl X cl) .lst (rMut (gl X cl) [false] pAppend) (tO (gl X cl) W m) (tAs (gl X cl) W (sOps ms)))) :=
  ps_expr (pe_bmG (cl := cl) (T := .lst) F.plainAttrs_list F.slot_list_append F.type_list_append mt_appendP ho ha hbase hfew hline hst hplain) hs
theorem rLst4 {e1 e2 e3 e4 : Expr} {m1 m2 m3 m4 : Sx Vl} (h1 : VE X cl W e1 m1) (h2 : VE X cl W e2 m2) (h3 : VE X cl W e3 m3) (h4 : VE X cl W e4 m4) (s1 : starEach [e1, e2, e3, e4] X.env = (false, eval e1 X.env) :: starEach [e2, e3, e4] X.env := by rfl) (s2 : starEach [e2, e3, e4] X.env = (false, eval e2 X.env) :: starEach [e3, e4] X.env := by rfl) (s3 : starEach [e3, e4] X.env = (false, eval e3 X.env) :: starEach [e4] X.env := by rfl) (s4 : starEach [e4] X.env = (false, eval e4 X.env) :: starEach [] X.env := by rfl) :
    PE X (.List [e1, e2, e3, e4] pos) (tLst (tCons (tE (gl X cl) W m1) (tCons (tE (gl X cl) W m2) (tCons (tE (gl X cl) W m3) (tCons (tE (gl X cl) W m4) tNil))))) := pe_lst (pa_cons h1 (pa_cons h2 (pa_cons h3 (pa_cons h4 pa_nil s4) s3) s2) s1)
theorem rLst2 {e1 e2 : Expr} {m1 m2 : Sx Vl} (h1 : VE X cl W e1 m1) (h2 : VE X cl W e2 m2) (s1 : starEach [e1, e2] X.env = (false, eval e1 X.env) :: starEach [e2] X.env := by rfl) (s2 : starEach [e2] X.env = (false, eval e2 X.env) :: starEach [] X.env := by rfl) :
    PE X (.List [e1, e2] pos) (tLst (tCons (tE (gl X cl) W m1) (tCons (tE (gl X cl) W m2) tNil))) := pe_lst (pa_cons h1 (pa_cons h2 pa_nil s2) s1)
theorem rFor1 {tgt iter : Expr} {st : Stmt} {s : Sx Src} {t : TS} {i : Nat} (hp : PassesOwn (model X.prog X.w) X.A X.env X.xe) (hc : X.calm = true) (hi : VI X cl W tgt iter s) (hg : PG X tgt (gName i)) (hb : PS X st t)
    (hs : ∀ x, foldedSetIterable iter X.env x = pure x := by intro _; rfl) : PS X (.For tgt iter [st] [] pos) (tFor (tI (gl X cl) W s) (gName i) t) := ps_for hp hc hi hg (pss_one hb) hs
theorem rawOwn {BS BP : D → List D → ResB} {t2 : SS} {CS CP : Addr} {a1 a2 a3 a4 a5 : Stmt} {l : List Stmt}
    (h1 : PS X a1 (tAsg (tLst (tCons (tE (gl X cl) W (sA "a")) (tCons (tE (gl X cl) W (sA "c")) (tCons (tE (gl X cl) W (sR "tau")) (tCons (tE (gl X cl) W sZ) tNil))))) (gName 0)))
    (h2 : PS X a2 (tAsg (fun σ H Q => tMake CS (spBx (gl X cl) [true, true, false, true, true] BS) [] (WAt W σ) (tAs (gl X cl) W (sOps [opAt 0 0, opAt 0 1, oVal (sC (.int 1)), opAt 0 2, opAt 0 3])) σ H Q) (gName 1)))
    (h3 : PS X a3 (tAsg (tLst (tCons (tE (gl X cl) W (sR "!a")) (tCons (tE (gl X cl) W sZ) tNil))) (gName 2)))
    (h4 : PS X a4 (tAsg (fun σ H Q => tMake CP (spBx (gl X cl) [false, true, true] BP) [] (WAt W σ) (tAs (gl X cl) W (sOps [oVal (sC (.int 1)), opAt 2 0, opAt 2 1])) σ H Q) (gName 3)))
    (h5 : PS X a5 (tFor (tI (gl X cl) W (sSeq (oVal (sPrim pAdd [oName 0, oName 2])))) (gName 4) (appZ (gl X cl) W))) (h6 : VSs X cl W l t2) : PSs X (a1 :: a2 :: a3 :: a4 :: a5 :: l) (ownRaw (gl X cl) W CS CP BS BP t2) :=
  pss_cons h1 (pss_cons h2 (pss_cons h3 (pss_cons h4 (pss_cons h5 h6))))
end
section
variable {P : Program} {w : World} {K : PySem.W.Frag} {mg : Str → Option Value} {base : Heap} {cl : Str → Option Addr} {x qual : Str} {params : Arguments} {body : List Stmt} {scope : Scope} {f : Addr} {fd : FuncData} {k k1 k2 : Nat} {CX1 CX2 : CXT}
theorem own_ok {BS BP : D → List D → ResB} {t2 : SS} (FS : ClQ CX1 P w K mg base cl k1 "Service" (spBx ⟨P, w, K, cl⟩ [true, true, false, true, true] BS)) (FP : ClQ CX2 P w K mg base cl k2 "Partner" (spBx ⟨P, w, K, cl⟩ [false, true, true] BP))
    (F : FunD K x qual params body scope [] [] f fd) (S : FnScope ["_law_parts", "_law_made_here", "_law_mine", "_law_mate_here", "_law_one"] [] scope)
    (der : ∀ (cdv : Value) (A : Around) (outer : List Env) (s : Shared) (H : Hp) (E : XK), Room k (ctx P w K mg base ["_law_parts", "_law_made_here", "_law_mine", "_law_mate_here", "_law_one"] qual scope f cdv A outer s H E).A → PSs (ctx P w K mg base ["_law_parts", "_law_made_here", "_law_mine", "_law_mate_here", "_law_one"] qual scope f cdv A outer s H E) body (ownRaw ⟨P, w, K, cl⟩ W0 (cAt cl "Service") (cAt cl "Partner") BS BP t2)) :
    FnOk P w K mg base CX0' (k + 1) f fd [] (spFn ⟨P, w, K, cl⟩ [] (ownF BS BP t2)) := by
  obtain ⟨C, _, _, _, hC, _⟩ := FS.ex
  obtain ⟨CP, _, _, _, hP, _⟩ := FP.ex
  have e1 : cAt cl "Service" = C := by unfold cAt; rw [hC]; rfl
  have e2 : cAt cl "Partner" = CP := by unfold cAt; rw [hP]; rfl
  rw [e1, e2] at der
  exact F.ok S (fun vs H Q E h => spFn_len h) fun cdv A outer s H vs Q E hr h => ⟨_, (der cdv A outer s H E hr).nox, own_pure hC hP h⟩
end
end Ev
set_option Elab.async false
set_option linter.all false
set_option autoImplicit false
set_option maxRecDepth 100000
set_option maxHeartbeats 1000000
namespace Ev
open PySem
inductive T (α : Type) where
  | ok (a : α) | exc (r : Str) | no
inductive St (σ ρ : Type) where
  | nx (s : σ) | rt (r : ρ) | exc (r : Str) | no
def T.o {α : Type} : T α → Option α
  | .ok a => some a
  | _ => none
theorem T.o_ok {α : Type} {t : T α} {a : α} (h : t.o = some a) : t = .ok a := by
  cases t with
  | ok b => cases h; rfl
  | exc r => cases h
  | no => cases h
namespace St
variable {σ τ ρ α : Type}
def bind (t : St σ ρ) (f : σ → St τ ρ) : St τ ρ := match t with
  | .nx s => f s
  | .rt r => .rt r
  | .exc r => .exc r
  | .no => .no
def lt (v : α) (f : α → St τ ρ) : St τ ρ := f v
def ob (t : Option α) (f : α → St τ ρ) : St τ ρ := match t with
  | some a => f a
  | none => .no
def tb (t : T α) (f : α → St τ ρ) : St τ ρ := match t with
  | .ok a => f a
  | .exc r => .exc r
  | .no => .no
def fo (t : St σ ρ) (f : σ → Option ρ) : Option ρ := match t with
  | .nx s => f s
  | .rt r => some r
  | .exc _ => none
  | .no => none
def ft (t : St σ ρ) (f : σ → T ρ) : T ρ := match t with
  | .nx s => f s
  | .rt r => .ok r
  | .exc r => .exc r
  | .no => .no
def tr (t : St σ ρ) (h : Str → St σ ρ) : St σ ρ := match t with
  | .exc r => h r
  | r => r
@[simp] theorem bind_nx (s : σ) (f : σ → St τ ρ) : (St.nx s).bind f = f s := rfl
@[simp] theorem bind_rt (r : ρ) (f : σ → St τ ρ) : (St.rt r : St σ ρ).bind f = .rt r := rfl
@[simp] theorem bind_exc (r : Str) (f : σ → St τ ρ) : (St.exc r : St σ ρ).bind f = .exc r := rfl
@[simp] theorem bind_no (f : σ → St τ ρ) : (St.no : St σ ρ).bind f = .no := rfl
@[simp] theorem lt_eq (v : α) (f : α → St τ ρ) : St.lt v f = f v := rfl
@[simp] theorem ob_some (v : α) (f : α → St τ ρ) : St.ob (some v) f = f v := rfl
@[simp] theorem tb_ok (v : α) (f : α → St τ ρ) : St.tb (.ok v) f = f v := rfl
@[simp] theorem tb_exc (r : Str) (f : α → St τ ρ) : St.tb (.exc r) f = .exc r := rfl
@[simp] theorem fo_nx (s : σ) (f : σ → Option ρ) : (St.nx s).fo f = f s := rfl
@[simp] theorem fo_rt (r : ρ) (f : σ → Option ρ) : (St.rt r).fo f = some r := rfl
@[simp] theorem ft_nx (s : σ) (f : σ → T ρ) : (St.nx s).ft f = f s := rfl
@[simp] theorem ft_rt (r : ρ) (f : σ → T ρ) : (St.rt r).ft f = .ok r := rfl
@[simp] theorem ft_exc (r : Str) (f : σ → T ρ) : (St.exc r).ft f = .exc r := rfl
@[simp] theorem tr_nx (s : σ) (h : Str → St σ ρ) : (St.nx s : St σ ρ).tr h = .nx s := rfl
@[simp] theorem tr_rt (s : ρ) (h : Str → St σ ρ) : (St.rt s : St σ ρ).tr h = .rt s := rfl
@[simp] theorem tr_exc (s : Str) (h : Str → St σ ρ) : (St.exc s : St σ ρ).tr h = h s := rfl
end St
section
variable {σ ρ α β : Type}
def forT (f : σ → α → St σ ρ) : List α → σ → St σ ρ
  | [], s => .nx s
  | x :: xs, s => (f s x).bind (forT f xs)
def oC {γ : Type} (x : Option α) (a : γ) (f : α → γ) : γ := match x with
  | none => a
  | some y => f y
@[simp] theorem oC_none {γ : Type} (a : γ) (f : α → γ) : oC none a f = a := rfl
@[simp] theorem oC_some {γ : Type} (x : α) (a : γ) (f : α → γ) : oC (some x) a f = f x := rfl
def compO (g : α → Option (Option β)) : List α → Option (List β)
  | [] => some []
  | x :: xs => (g x).bind fun r => (compO g xs).map fun ys => r.toList ++ ys
def compS (g : α → σ → Option (Option β × σ)) : List α → σ → Option (List β × σ)
  | [], s => some ([], s)
  | x :: xs, s => (g x s).bind fun r => (compS g xs r.2).map fun ys => (r.1.toList ++ ys.1, ys.2)
end
inductive SP where
  | U | S (d : D) | O (d : D) | B (d : D) | R (d : D) | L (d : D) | J | A | F
def SP.ok : SP → Slot → Prop
  | .U, s => s = .unb
  | .S d, s => s = .sh d
  | .O d, s => s = .ow d
  | .B d, s => s = .bx d
  | .R d, s => s = .ro d
  | .L d, s => s = .ow d ∨ s = .sh d
  | .J, s => s = .unb ∨ ∃ d, s = .sh d
  | .A, _ => True
  | .F, _ => False
abbrev Ga := List SP
def Fits : Ga → En → Prop
  | [], [] => True
  | p :: ps, s :: ss => p.ok s ∧ Fits ps ss
  | _, _ => False
def SP.le (p q : SP) : Prop := ∀ s, p.ok s → q.ok s
def Le : Ga → Ga → Prop
  | [], [] => True
  | p :: ps, q :: qs => p.le q ∧ Le ps qs
  | _, _ => False
def SP.look : SP → Option D
  | .S d => some d
  | .O d => some d
  | .B d => some d
  | .R d => some d
  | .L d => some d
  | _ => none
def Ga.look (Γ : Ga) (i : Nat) : Option D := match Γ[i]? with
  | some p => p.look
  | none => none
def Ga.res (Γ : Ga) : Opd → Option D
  | .dt d => some d
  | .sl i => Ga.look Γ i
def Ga.ress (Γ : Ga) : List Opd → Option (List D)
  | [] => some []
  | o :: os => match Ga.res Γ o, Ga.ress Γ os with
    | some d, some ds => some (d :: ds)
    | _, _ => none
theorem SP.le_rfl {p : SP} : p.le p := fun _ h => h
theorem SP.le_UJ : SP.U.le .J := fun _ h => .inl h
theorem SP.le_SJ {d : D} : (SP.S d).le .J := fun _ h => .inr ⟨d, h⟩
theorem SP.le_SL {d : D} : (SP.S d).le (.L d) := fun _ h => .inr h
theorem SP.le_OL {d : D} : (SP.O d).le (.L d) := fun _ h => .inl h
theorem SP.le_A {p : SP} : p.le .A := fun _ _ => trivial
theorem Le.refl : ∀ Γ : Ga, Le Γ Γ
  | [] => trivial
  | _ :: ps => ⟨SP.le_rfl, Le.refl ps⟩
theorem Fits.le : ∀ {Γ Δ : Ga} {e : En}, Fits Γ e → Le Γ Δ → Fits Δ e
  | [], [], [], _, _ => trivial
  | _ :: _, _ :: _, _ :: _, h, l => ⟨l.1 _ h.1, Fits.le h.2 l.2⟩
  | [], [], _ :: _, h, _ => h.elim
  | [], _ :: _, _, _, l => l.elim
  | _ :: _, [], _, _, l => l.elim
  | _ :: _, _ :: _, [], h, _ => h.elim
theorem Fits.get : ∀ {Γ : Ga} {e : En} {i : Nat} {p : SP}, Fits Γ e → Γ[i]? = some p → ∃ s, e[i]? = some s ∧ p.ok s
  | [], _, _, _, _, h => by simp at h
  | p :: ps, [], _, _, h, _ => h.elim
  | p :: ps, s :: ss, 0, q, h, e => by
    simp at e; subst e; exact ⟨s, rfl, h.1⟩
  | p :: ps, s :: ss, i + 1, q, h, e => by
    obtain ⟨t, h1, h2⟩ := Fits.get (i := i) h.2 (by simpa using e)
    exact ⟨t, by simpa using h1, h2⟩
theorem Fits.set : ∀ {Γ : Ga} {e : En} (i : Nat) {p : SP} {s : Slot}, Fits Γ e → p.ok s → Fits (Γ.set i p) (e.set i s)
  | [], [], _, _, _, _, _ => trivial
  | [], _ :: _, _, _, _, h, _ => h.elim
  | _ :: _, [], _, _, _, h, _ => h.elim
  | _ :: _, _ :: _, 0, _, _, h, k => ⟨k, h.2⟩
  | _ :: _, _ :: _, i + 1, _, _, h, k => ⟨h.1, Fits.set i h.2 k⟩
theorem Fits.len : ∀ {Γ : Ga} {e : En}, Fits Γ e → e.length = Γ.length
  | [], [], _ => rfl
  | _ :: _, _ :: _, h => congrArg (· + 1) (Fits.len h.2)
  | [], _ :: _, h => h.elim
  | _ :: _, [], h => h.elim
theorem SP.look_ok : ∀ {p : SP} {s : Slot} {d : D}, p.ok s → p.look = some d → s.look = some d := by
  intro p s d h e
  cases p with
  | S x => cases e; cases (show s = .sh d from h); rfl
  | O x => cases e; cases (show s = .ow d from h); rfl
  | B x => cases e; cases (show s = .bx d from h); rfl
  | R x => cases e; cases (show s = .ro d from h); rfl
  | L x => cases e; rcases (show s = .ow d ∨ s = .sh d from h) with h | h <;> (cases h; rfl)
  | U => cases e
  | J => cases e
  | A => cases e
  | F => cases e
theorem Fits.look {Γ : Ga} {e : En} {i : Nat} {d : D} (h : Fits Γ e) (k : Ga.look Γ i = some d) : res e (.sl i) = some d := by
  unfold Ga.look at k
  cases q : Γ[i]? with
  | none => rw [q] at k; cases k
  | some p =>
    rw [q] at k
    obtain ⟨s, h1, h2⟩ := h.get q
    show (match e[i]? with | some s => s.look | none => none) = some d
    rw [h1]
    exact SP.look_ok h2 k
theorem Fits.res {Γ : Ga} {e : En} {o : Opd} {d : D} (h : Fits Γ e) (k : Ga.res Γ o = some d) : Ev.res e o = some d := by
  cases o with
  | dt x => exact k
  | sl i => exact h.look k
theorem Fits.ress {Γ : Ga} {e : En} (h : Fits Γ e) : ∀ {os : List Opd} {ds : List D}, Ga.ress Γ os = some ds → Ev.ress e os = some ds
  | [], ds, k => k
  | o :: os, ds, k => by
    have k' : (match Ga.res Γ o, Ga.ress Γ os with | some d, some ds => some (d :: ds) | _, _ => none) = some ds := k
    show (match Ev.res e o, Ev.ress e os with | some d, some ds => some (d :: ds) | _, _ => none) = some ds
    cases h1 : Ga.res Γ o with
    | none => rw [h1] at k'; cases k'
    | some d =>
      cases h2 : Ga.ress Γ os with
      | none => rw [h1, h2] at k'; cases k'
      | some ds' =>
        rw [h1, h2] at k'
        rw [h.res h1, Fits.ress h h2]
        exact k'
theorem Fits.stop {e : En} (h : Fits [.F] e) : False := by
  cases e with
  | nil => exact h
  | cons s ss => exact h.1
def XQ {β : Type} (Γ : Ga) (m : Sx β) (b : β) (Δ : Ga) : Prop := ∀ e, Fits Γ e → ∃ e', m e = .ok b e' ∧ Fits Δ e'
def XE {β : Type} (N : Nat) (Γ : Ga) (m : Sx β) (r : Str) : Prop := ∀ e, Fits Γ e → ∃ e', m e = .exc (talkE r) e' ∧ e'.length = N
section
variable {N : Nat} {β γ : Type} {Γ Δ Ε Θ : Ga} {m n : Sx Vl} {o o2 : Opd} {mo no : Sx Opd} {ms : List (Sx Opd)} {os : List Opd} {ds : List D} {d d2 x x' : D} {v w : Vl} {i : Nat} {r : Str}
theorem XQ.le {m : Sx β} {b : β} (h : XQ Γ m b Δ) (l : Le Δ Ε) : XQ Γ m b Ε := fun e he => let ⟨e', h1, h2⟩ := h e he; ⟨e', h1, h2.le l⟩
theorem XQ.pre {m : Sx β} {b : β} (l : Le Γ Δ) (h : XQ Δ m b Ε) : XQ Γ m b Ε := fun e he => h e (he.le l)
theorem XQ.of {m : Sx β} {b c : β} (h : XQ Γ m b Δ) (e : b = c) : XQ Γ m c Δ := e ▸ h
theorem XQ.bnd {m : Sx β} {f : β → Sx γ} {b : β} {c : γ} (h : XQ Γ m b Δ) (k : XQ Δ (f b) c Ε) : XQ Γ (fun e => (m e).bind f) c Ε := fun e he => by
  obtain ⟨e1, h1, h2⟩ := h e he
  obtain ⟨e2, h3, h4⟩ := k e1 h2
  exact ⟨e2, by show (m e).bind f = _; rw [h1, Out.bind_ok, h3], h4⟩
theorem XE.bnd {m : Sx β} {f : β → Sx γ} {b : β} (h : XQ Γ m b Δ) (k : XE N Δ (f b) r) : XE N Γ (fun e => (m e).bind f) r := fun e he => by
  obtain ⟨e1, h1, h2⟩ := h e he
  obtain ⟨e2, h3, h4⟩ := k e1 h2
  exact ⟨e2, by show (m e).bind f = _; rw [h1, Out.bind_ok, h3], h4⟩
theorem q_c : XQ Γ (sC d) (fz d) Γ := fun e he => ⟨e, rfl, he⟩
theorem q_nmS (h : Γ[i]? = some (.S d) := by rfl) : XQ Γ (sName i) (fz d) Γ := fun e he => by
  obtain ⟨s, h1, h2⟩ := he.get h
  cases (show s = .sh d from h2)
  exact ⟨e, by unfold sName; rw [h1], he⟩
theorem q_nmO (h : Γ[i]? = some (.O d) := by rfl) : XQ Γ (sName i) (fz d) (Γ.set i (.S d)) := fun e he => by
  obtain ⟨s, h1, h2⟩ := he.get h
  cases (show s = .ow d from h2)
  exact ⟨e.set i (.sh d), by unfold sName; rw [h1], he.set i rfl⟩
theorem list_set_self {α : Type} : ∀ {l : List α} {i : Nat} {a : α}, l[i]? = some a → l.set i a = l
  | [], _, _, h => by simp at h
  | _ :: _, 0, _, h => by simp at h; subst h; rfl
  | y :: l, i + 1, a, h => by
    show y :: l.set i a = _
    rw [list_set_self (by simpa using h)]
theorem q_nmL (h : Γ[i]? = some (.L d) := by rfl) : XQ Γ (sName i) (fz d) (Γ.set i (.S d)) := fun e he => by
  obtain ⟨s, h1, h2⟩ := he.get h
  rcases (show s = .ow d ∨ s = .sh d from h2) with h3 | h3
  · cases h3
    exact ⟨e.set i (.sh d), by unfold sName; rw [h1], he.set i rfl⟩
  · cases h3
    refine ⟨e, by unfold sName; rw [h1], ?_⟩
    have := he.set i (p := .S d) (s := .sh d) rfl
    rw [list_set_self (l := e) h1] at this
    exact this
theorem q_on (h : Ga.look Γ i = some d := by rfl) : XQ Γ (oName i) (.sl i) Γ := fun e he => by
  have k := he.look h
  have k' : (match e[i]? with | some s => s.look | none => none) = some d := k
  refine ⟨e, ?_, he⟩
  unfold oName
  cases q : e[i]? with
  | none => rw [q] at k'; cases k'
  | some s => rw [q] at k'; simp only [k']
theorem q_ov {f : Bool} (h : XQ Γ m ⟨d, f⟩ Δ) : XQ Γ (oVal m) (.dt d) Δ := h.bnd fun e he => ⟨e, rfl, he⟩
theorem q_o0 : XQ Γ (sOps []) [] Γ := fun e he => ⟨e, rfl, he⟩
theorem q_o1 (h : XQ Γ mo o Δ) (k : XQ Δ (sOps ms) os Ε) : XQ Γ (sOps (mo :: ms)) (o :: os) Ε := h.bnd (k.bnd fun e he => ⟨e, rfl, he⟩)
theorem q_args (h : XQ Γ (sOps ms) os Δ) (hr : Ga.ress Δ os = some ds := by rfl) : XQ Γ (sArgs ms) ds Δ := h.bnd fun e he => ⟨e, by rw [he.ress hr], he⟩
theorem q_prim {p : List D → Option Vl} (h : XQ Γ (sOps ms) os Δ) (hp : p ds = some v) (hr : Ga.ress Δ os = some ds := by rfl) : XQ Γ (sPrim p ms) v Δ := (q_args h hr).bnd fun e he => ⟨e, by rw [hp], he⟩
theorem q_primD {p : List D → Option Vl} (h : XQ Γ (sOps ms) os Δ) (hr : Ga.ress Δ os = some ds) (hp : p ds = some v) : XQ Γ (sPrim p ms) v Δ := q_prim h hp hr
theorem ops_len {e e' : En} : ∀ {ms : List (Sx Opd)} {os : List Opd} {e e' : En}, sOps ms e = .ok os e' → os.length = ms.length
  | [], os, e, e', h => by cases h; rfl
  | m :: ms, os, e, e', h => by
    have h' : ((m e).bind fun o e => (sOps ms e).bind fun os e => .ok (o :: os) e) = .ok os e' := h
    cases q : m e with
    | stuck => rw [q] at h'; cases h'
    | exc x e1 => rw [q] at h'; cases h'
    | ok o e1 =>
      rw [q, Out.bind_ok] at h'
      cases q2 : sOps ms e1 with
      | stuck => rw [q2] at h'; cases h'
      | exc x e2 => rw [q2] at h'; cases h'
      | ok os2 e2 =>
        rw [q2, Out.bind_ok] at h'
        cases h'
        rw [List.length_cons, List.length_cons, ops_len (e := e) (e' := e) q2]
theorem dts_len : ∀ {os : List Opd} {ds : List D}, dts os = some ds → ds.length = os.length
  | [], ds, h => by cases h; rfl
  | .dt d :: os, ds, h => by
    obtain ⟨x, hx, rfl⟩ := Option.map_eq_some_iff.mp (show (dts os).map (d :: ·) = some ds from h)
    rw [List.length_cons, List.length_cons, dts_len hx]
  | .sl _ :: os, ds, h => by cases h
theorem q_seqD {k : List D → Vl} (h : XQ Γ (sOps ms) os Δ) (hd : dts os = some ds) (hl : ms.length ≤ 1000) : XQ Γ (sSeqD k ms) (k ds) Δ := fun e he => by
  obtain ⟨e1, h1, h2⟩ := h e he
  refine ⟨e1, ?_, h2⟩
  unfold sSeqD
  rw [h1, Out.bind_ok, hd]
  exact if_pos (by rw [dts_len hd, ops_len (e := e) (e' := e) h1, sizeLine_eq]; omega)
theorem q_tup (h : XQ Γ (sOps ms) os Δ) (hd : dts os = some ds := by rfl) (hl : ms.length ≤ 1000 := by decide) : XQ Γ (sTup ms) (fz (.tup ds)) Δ := q_seqD h hd hl
theorem q_lst (h : XQ Γ (sOps ms) os Δ) (hd : dts os = some ds := by rfl) (hl : ms.length ≤ 1000 := by decide) : XQ Γ (sLst ms) (nw (.lst ds)) Δ := q_seqD h hd hl
theorem q_call {modes : List Bool} {F : List D → Res Vl} (h : XQ Γ (sOps ms) os Δ) (hF : F ds = .ok v) (hm : okModes modes os = true := by rfl) (hr : Ga.ress Δ os = some ds := by rfl) : XQ Γ (sCall modes F ms) v Δ := h.bnd fun e he => ⟨e, by
  rw [if_pos hm, he.ress hr]
  simp only [hF, ofRes], he⟩
theorem q_make {c : Str} {modes : List Bool} {B : D → List D → ResB} (h : XQ Γ (sOps ms) os Δ) (hF : B (.obj c []) ds = .ok (fz .non) d) (hm : okModes modes os = true := by rfl) (hr : Ga.ress Δ os = some ds := by rfl) : XQ Γ (sMake c modes B ms) (nw d) Δ := h.bnd fun e he => ⟨e, by
  rw [if_pos hm, he.ress hr]
  simp only [hF], he⟩
theorem q_callBO {modes : List Bool} {B : D → List D → ResB} (h : XQ Γ (sOps ms) os Δ) (hF : B x ds = .ok v x') (h0 : Ga.look Γ i = some d := by rfl) (hs : Δ[i]? = some (.O x) := by rfl) (hm : okModes modes os = true := by rfl) (hr : Ga.ress Δ os = some ds := by rfl) : XQ Γ (sCallB modes B i ms) v (Δ.set i (.O x')) := (q_o1 (q_on h0) h).bnd fun e he => by
  obtain ⟨s, h1, h2⟩ := he.get hs
  cases (show s = .ow x from h2)
  refine ⟨e.set i (.ow x'), ?_, he.set i rfl⟩
  show (if okModes modes os = true then _ else _) = _
  rw [if_pos hm]
  simp only [he.ress hr, h1, hF]
theorem q_callBB {modes : List Bool} {B : D → List D → ResB} (h : XQ Γ (sOps ms) os Δ) (hF : B x ds = .ok v x') (h0 : Ga.look Γ i = some d := by rfl) (hs : Δ[i]? = some (.B x) := by rfl) (hm : okModes modes os = true := by rfl) (hr : Ga.ress Δ os = some ds := by rfl) : XQ Γ (sCallB modes B i ms) v (Δ.set i (.B x')) := (q_o1 (q_on h0) h).bnd fun e he => by
  obtain ⟨s, h1, h2⟩ := he.get hs
  cases (show s = .bx x from h2)
  refine ⟨e.set i (.bx x'), ?_, he.set i rfl⟩
  show (if okModes modes os = true then _ else _) = _
  rw [if_pos hm]
  simp only [he.ress hr, h1, hF]
theorem x_make {c : Str} {modes : List Bool} {B : D → List D → ResB} (h : XQ Γ (sOps ms) os Δ) (hF : B (.obj c []) ds = .exc (talkE r)) (hm : okModes modes os = true := by rfl) (hr : Ga.ress Δ os = some ds := by rfl) (hn : Δ.length = N := by rfl) : XE N Γ (sMake c modes B ms) r := XE.bnd h fun e he => ⟨e, by
  rw [if_pos hm, he.ress hr]
  simp only [hF], he.len.trans hn⟩
variable {a b k : Bool} {t u : Sx Bool}
theorem q_tBool (h : XQ Γ m (fz (.bl b)) Δ) : XQ Γ (tBool m) b Δ := h.bnd fun e he => ⟨e, rfl, he⟩
theorem q_tVal (h : XQ Γ (sOps [mo]) os Δ) (ht : truth d = some b) (hr : Ga.ress Δ os = some [d] := by rfl) : XQ Γ (tVal mo) b Δ := (q_args h hr).bnd fun e he => ⟨e, by simp only [ht], he⟩
theorem q_tNot (h : XQ Γ t b Δ) : XQ Γ (Ev.tNot t) (!b) Δ := h.bnd fun e he => ⟨e, rfl, he⟩
theorem q_sNot (h : XQ Γ (tVal mo) b Δ) : XQ Γ (sNot mo) (fz (.bl (!b))) Δ := h.bnd fun e he => ⟨e, rfl, he⟩
theorem q_tAnd (h : XQ Γ t a Δ) (k : XQ Δ u b Δ) : XQ Γ (Ev.tAnd t u) (a && b) Δ := by
  refine h.bnd ?_
  cases a
  · exact fun e he => ⟨e, rfl, he⟩
  · exact fun e he => let ⟨e', h1, h2⟩ := k e he; ⟨e', h1, h2⟩
theorem q_tOr (h : XQ Γ t a Δ) (k : XQ Δ u b Δ) : XQ Γ (Ev.tOr t u) (a || b) Δ := by
  refine h.bnd ?_
  cases a
  · exact fun e he => let ⟨e', h1, h2⟩ := k e he; ⟨e', h1, h2⟩
  · exact fun e he => ⟨e, rfl, he⟩
theorem q_sAnd (h : XQ Γ m (fz (.bl a)) Δ) (k : XQ Δ n (fz (.bl b)) Δ) : XQ Γ (sAnd m n) (fz (.bl (a && b))) Δ := by
  refine h.bnd ?_
  cases a
  · exact fun e he => ⟨e, rfl, he⟩
  · exact fun e he => k e he
def andO (a : Bool) (t : Option Bool) : Option Bool := if a = true then t else some false
def orO (a : Bool) (t : Option Bool) : Option Bool := if a = true then some true else t
theorem q_tOrO {z : Option Bool} (hz : orO a z = some b) (h : XQ Γ t a Δ) (k : ∀ c, z = some c → XQ Δ u c Ε) (l : Le Δ Ε) : XQ Γ (Ev.tOr t u) b Ε := by
  refine h.bnd ?_
  cases a
  · exact fun e he => let ⟨e', h1, h2⟩ := k b hz e he; ⟨e', h1, h2⟩
  · cases hz
    exact fun e he => ⟨e, rfl, he.le l⟩
theorem q_sAndO {z : Option Bool} (hz : andO a z = some b) (h : XQ Γ m (fz (.bl a)) Δ) (k : ∀ c, z = some c → XQ Δ n (fz (.bl c)) Ε) (l : Le Δ Ε) : XQ Γ (sAnd m n) (fz (.bl b)) Ε := by
  refine h.bnd ?_
  cases a
  · cases hz
    exact fun e he => ⟨e, rfl, he.le l⟩
  · exact fun e he => k b hz e he
theorem q_tOrS {σ : Type} {z : Option (Bool × σ)} {s0 : σ} {c : Bool × σ} (Δ : σ → Ga) (hz : (if a = true then some (true, s0) else z) = some c) (h : XQ Γ t a (Δ s0)) (k : ∀ c, z = some c → XQ (Δ s0) u c.1 (Δ c.2)) : XQ Γ (Ev.tOr t u) c.1 (Δ c.2) := by
  refine h.bnd ?_
  cases a
  · exact fun e he => let ⟨e', h1, h2⟩ := k c hz e he; ⟨e', h1, h2⟩
  · cases hz
    exact fun e he => ⟨e, rfl, he⟩
theorem q_chain {p q : List D → Option Vl} {ma mb mc : Sx Opd} {oa ob oc : Opd} {da db dc : D} {w1 : Bool} (h1 : XQ Γ ma oa Δ) (h2 : XQ Δ mb ob Ε) (h3 : XQ Ε mc oc Ε) (hp : p [da, db] = some ⟨.bl a, w1⟩) (hq : q [db, dc] = some (fz (.bl b)))
    (r1 : Ga.ress Ε [oa, ob] = some [da, db] := by rfl) (r2 : Ga.ress Ε [ob, oc] = some [db, dc] := by rfl) : XQ Γ (sChain p q ma mb mc) (fz (.bl (a && b))) Ε := by
  refine h1.bnd (h2.bnd fun e he => ?_)
  simp only [he.ress r1, hp]
  cases a
  · exact ⟨e, rfl, he⟩
  · obtain ⟨e', z1, z2⟩ := h3 e he
    refine ⟨e', ?_, z2⟩
    simp only [z1, Out.bind_ok, z2.ress r2, hq, Bool.true_and]
theorem q_slice {lo hi : Option (Sx Opd)} {l h : Option Int} (h1 : XQ Γ mo o Δ) (h2 : XQ Δ (oPart lo) l Ε) (h3 : XQ Ε (oPart hi) h Θ) (hp : pSlice l h d = some v) (hr : Ga.res Θ o = some d := by rfl) : XQ Γ (sSlice mo lo hi) v Θ := by
  refine h1.bnd (h2.bnd (h3.bnd fun e he => ⟨e, ?_, he⟩))
  simp only [he.res hr, hp]
theorem q_part0 : XQ Γ (oPart none) none Γ := fun e he => ⟨e, rfl, he⟩
theorem q_part1 {j : Int} (h : XQ Γ (sOps [mo]) os Δ) (hr : Ga.ress Δ os = some [.int j] := by rfl) : XQ Γ (oPart (some mo)) (some j) Δ := (q_args h hr).bnd fun e he => ⟨e, rfl, he⟩
theorem q_methO {T : MTy} {p : D → List D → Option (D × D)} {modes : List Bool} (h : XQ Γ (sOps ms) os Δ) (hp : p x ds = some (d, x')) (h0 : Ga.look Γ i = some d2 := by rfl) (hT : T.is d2 = true := by rfl) (hs : Δ[i]? = some (.O x) := by rfl) (hm : okModes modes os = true := by rfl) (hr : Ga.ress Δ os = some ds := by rfl) : XQ Γ (sMeth T p modes i ms) (fz d) (Δ.set i (.O x')) := fun e he => by
  obtain ⟨e', z1, z2⟩ := h e he
  obtain ⟨s, h1, h2⟩ := z2.get hs
  cases (show s = .ow x from h2)
  refine ⟨e'.set i (.ow x'), ?_, z2.set i rfl⟩
  unfold sMeth
  simp only [he.look h0, hT, if_true, z1, Out.bind_ok, hm, z2.ress hr, h1, hp]
theorem q_seqL (h : XQ Γ mo o Δ) (hr : Ga.res Δ o = some (.lst ds) := by rfl) : XQ Γ (sSeq mo) ⟨ds, chkOf o (.lst ds)⟩ Δ := h.bnd fun e he => ⟨e, by rw [he.res hr], he⟩
theorem q_seqS {z : Str} (h : XQ Γ mo o Δ) (hr : Ga.res Δ o = some (.str z) := by rfl) : XQ Γ (sSeq mo) ⟨signs z, none⟩ Δ := h.bnd fun e he => ⟨e, by rw [he.res hr], he⟩
theorem q_zipL {es : List D} (h : XQ Γ mo o Δ) (k : XQ Δ no (.dt (.lst es)) Ε) (hr : Ga.res Ε o = some (.lst ds) := by rfl) : XQ Γ (sZip mo no) ⟨zipItems ds es, chkOf o (.lst ds)⟩ Ε := h.bnd (k.bnd fun e he => ⟨e, by rw [he.res hr], he⟩)
@[irreducible] def rangeO (i j : Int) : Option (List Int) := if (-(2 ^ 62) ≤ i ∧ i < 2 ^ 62 ∧ -(2 ^ 62) ≤ j ∧ j < 2 ^ 62) ∧ (j - i).toNat ≤ 16777216 then some ((List.range (j - i).toNat).map fun k : Nat => i + (k : Int)) else none
theorem q_range1 {j : Int} {l : List Int} (hl : rangeO 0 j = some l) (h : XQ Γ (sOps ms) os Δ) (hr : Ga.ress Δ os = some [.int j] := by rfl) : XQ Γ (sRange ms) ⟨l.map D.int, none⟩ Δ := fun e he => by
  obtain ⟨e', h1, h2⟩ := q_args h hr e he
  refine ⟨e', ?_, h2⟩
  unfold rangeO at hl
  split at hl
  · rename_i hc
    cases hl
    rw [Int.sub_zero] at hc
    have : -(2 ^ 62) ≤ j ∧ j < 2 ^ 62 ∧ j.toNat ≤ sizeLine := ⟨hc.1.2.2.1, hc.1.2.2.2, by rw [sizeLine_eq]; exact hc.2⟩
    unfold sRange
    simp only [h1, Out.bind_ok]
    rw [if_pos this, List.map_map, Int.sub_zero]
    rfl
  · cases hl
theorem q_range2 {i j : Int} {l : List Int} (hl : rangeO i j = some l) (h : XQ Γ (sOps ms) os Δ) (hr : Ga.ress Δ os = some [.int i, .int j] := by rfl) : XQ Γ (sRange ms) ⟨l.map D.int, none⟩ Δ := fun e he => by
  obtain ⟨e', h1, h2⟩ := q_args h hr e he
  refine ⟨e', ?_, h2⟩
  unfold rangeO at hl
  split at hl
  · rename_i hc
    cases hl
    have : (-(2 ^ 62) ≤ i ∧ i < 2 ^ 62 ∧ -(2 ^ 62) ≤ j ∧ j < 2 ^ 62) ∧ (j - i).toNat ≤ sizeLine := ⟨hc.1, by rw [sizeLine_eq]; exact hc.2⟩
    unfold sRange
    simp only [h1, Out.bind_ok]
    rw [if_pos this, List.map_map]
    rfl
  · cases hl
@[irreducible] def listRO (j : Int) : Option (List Int) := if 0 ≤ j ∧ j ≤ 100000 then some ((List.range j.toNat).map fun k : Nat => (k : Int)) else none
end
end Ev
set_option Elab.async false
set_option linter.all false
set_option autoImplicit false
set_option maxRecDepth 100000
set_option maxHeartbeats 1000000
namespace Ev
open PySem
def Ga.wipe (vs : List Nat) (Γ : Ga) : Ga := match vs with
  | [] => Γ
  | v :: vs => (Ga.wipe vs Γ).set v .U
theorem Fits.wipe {Γ : Ga} {e : En} (h : Fits Γ e) : ∀ vs : List Nat, Fits (Γ.wipe vs) (wipeE vs e)
  | [] => h
  | v :: vs => (Fits.wipe h vs).set v rfl
def Ga.setMany : List Nat → List D → Ga → Option Ga
  | [], [], e => some e
  | i :: is, d :: ds, e => Ga.setMany is ds (e.set i (.S d))
  | _, _, _ => none
def Ga.setTg : Tg → D → Ga → Option Ga
  | .one i, d, e => some (e.set i (.S d))
  | .many is, .tup ds, e => Ga.setMany is ds e
  | .many _, _, _ => none
  | .nest i is, .tup [d, .tup ds], e => Ga.setMany is ds (e.set i (.S d))
  | .nest _ _, _, _ => none
theorem Fits.setMany : ∀ (is : List Nat) (ds : List D) {Γ Δ : Ga} {e : En}, Fits Γ e → Ga.setMany is ds Γ = some Δ → ∃ e1, Ev.setMany is ds e = some e1 ∧ Fits Δ e1
  | [], [], _, _, e, h, k => by cases k; exact ⟨e, rfl, h⟩
  | i :: is, d :: ds, _, _, _, h, k => Fits.setMany is ds (h.set i (p := .S d) (s := .sh d) rfl) k
  | [], _ :: _, _, _, _, _, k => by cases k
  | _ :: _, [], _, _, _, _, k => by cases k
theorem Fits.setTg {tg : Tg} {d : D} {Γ Δ : Ga} {e : En} (h : Fits Γ e) (k : Ga.setTg tg d Γ = some Δ) : ∃ e1, Ev.setTg tg d e = some e1 ∧ Fits Δ e1 := by
  cases tg with
  | one i => cases k; exact ⟨_, rfl, h.set i rfl⟩
  | many is =>
    cases d with
    | tup ds => exact Fits.setMany is ds h k
    | _ => cases k
  | nest i is =>
    match d, k with
    | .tup [d1, .tup ds], k => exact Fits.setMany is ds (h.set i (p := .S d1) (s := .sh d1) rfl) k
def Ga.hid (vs : List Nat) (Γ : Ga) : Bool := vs.all fun i => match Γ[i]? with
  | some .U => true
  | some .J => true
  | some (.S _) => true
  | _ => false
theorem Fits.hid {Γ : Ga} {e : En} (h : Fits Γ e) {vs : List Nat} (k : Γ.hid vs = true) : hidOk vs e = true := by
  unfold hidOk
  refine List.all_eq_true.mpr fun i hi => ?_
  have := List.all_eq_true.mp k i hi
  cases q : Γ[i]? with
  | none => rw [q] at this; cases this
  | some p =>
    obtain ⟨s, h1, h2⟩ := h.get q
    rw [q] at this
    rw [h1]
    cases p with
    | U => cases (show s = .unb from h2); rfl
    | S d => cases (show s = .sh d from h2); rfl
    | J => rcases (show s = .unb ∨ ∃ d, s = .sh d from h2) with z | ⟨d, z⟩ <;> (cases z; rfl)
    | _ => cases this
def Ga.ckOk (Γ : Ga) (vs : List Nat) : Option (Nat × D) → Prop
  | none => True
  | some (i, d) => vs.contains i = false ∧ Γ.look i = some d
theorem wipe_look {vs : List Nat} {Γ : Ga} {i : Nat} (h : vs.contains i = false) : (Γ.wipe vs).look i = Γ.look i := by
  induction vs with
  | nil => rfl
  | cons v vs ih =>
    rw [List.contains_cons, Bool.or_eq_false_iff] at h
    have hv : v ≠ i := fun z => by subst z; simp at h
    show Ga.look ((Ga.wipe vs Γ).set v .U) i = _
    unfold Ga.look at ih ⊢
    rw [List.getElem?_set_ne hv]
    exact ih h.2
theorem Ga.ckOk.ok {Γ : Ga} {vs : List Nat} {ck : Option (Nat × D)} {its : List D} {e : En} (h : Γ.ckOk vs ck) (f : Fits (Γ.wipe vs) e) : Src.ok ⟨its, ck⟩ e := by
  cases ck with
  | none => trivial
  | some p => exact f.look ((wipe_look h.1).trans h.2)
theorem Ga.ckOk.apart {Γ : Ga} {vs : List Nat} {ck : Option (Nat × D)} {its : List D} (h : Γ.ckOk vs ck) : Src.apart ⟨its, ck⟩ vs = true := by
  cases ck with
  | none => rfl
  | some p => show (!vs.contains p.1) = true; rw [h.1]; rfl
theorem fits_iff {Γ : Ga} {e : En} : Fits Γ e ↔ e.length = Γ.length ∧ ∀ (i : Nat) (p : SP), Γ[i]? = some p → ∃ s, e[i]? = some s ∧ SP.ok p s := by
  constructor
  · exact fun h => ⟨h.len, fun i p q => h.get q⟩
  · induction Γ generalizing e with
    | nil =>
      rintro ⟨h, _⟩
      cases e with
      | nil => trivial
      | cons _ _ => cases h
    | cons p ps ih =>
      rintro ⟨h, k⟩
      cases e with
      | nil => cases h
      | cons s ss =>
        refine ⟨?_, ih ⟨by simpa using h, fun i q e => by
          have := k (i + 1) q (by rw [List.getElem?_cons_succ]; exact e)
          rwa [List.getElem?_cons_succ] at this⟩⟩
        obtain ⟨t, h1, h2⟩ := k 0 p rfl
        cases h1
        exact h2
theorem gwipe_out (vs : List Nat) (Γ : Ga) (j : Nat) (h : j ∉ vs) : (Γ.wipe vs)[j]? = Γ[j]? := by
  induction vs with
  | nil => rfl
  | cons v vs ih =>
    show ((Ga.wipe vs Γ).set v .U)[j]? = _
    rw [List.getElem?_set_ne (by rintro rfl; exact h (.head _)), ih fun q => h (.tail _ q)]
theorem gwipe_len (vs : List Nat) (Γ : Ga) : (Γ.wipe vs).length = Γ.length := by
  induction vs with
  | nil => rfl
  | cons v vs ih => show ((Ga.wipe vs Γ).set v .U).length = _; rw [List.length_set, ih]
theorem Fits.restore {Γ Δ : Ga} {vs : List Nat} {e0 e : En} (h0 : Fits Γ e0) (h : Fits (Δ.wipe vs) e) (hs : ∀ v ∈ vs, Γ[v]? = Δ[v]?) : Fits Δ (restoreE vs e0 e) := by
  have hl : Γ.length = Δ.length ∨ True := .inr trivial
  rw [fits_iff] at h0 h ⊢
  rw [gwipe_len] at h
  have key : ∀ us : List Nat, (restoreE us e0 e).length = e.length ∧ ∀ j, (j ∈ us → e0[j]? ≠ none → j < e.length → (restoreE us e0 e)[j]? = e0[j]?) ∧ (j ∉ us → (restoreE us e0 e)[j]? = e[j]?) := by
    intro us
    induction us with
    | nil => exact ⟨rfl, fun j => ⟨fun z => (by cases z), fun _ => rfl⟩⟩
    | cons u us ih =>
      have e1 : restoreE (u :: us) e0 e = match e0[u]? with | some s => (restoreE us e0 e).set u s | none => restoreE us e0 e := rfl
      cases q : e0[u]? with
      | none =>
        rw [e1, q]
        refine ⟨ih.1, fun j => ⟨fun z z2 z3 => ?_, fun z => (ih.2 j).2 fun y => z (.tail _ y)⟩⟩
        cases z with
        | head => exact absurd q z2
        | tail _ z => exact (ih.2 j).1 z z2 z3
      | some s =>
        rw [e1, q]
        refine ⟨by simp [ih.1], fun j => ⟨fun z z2 z3 => ?_, fun z => ?_⟩⟩
        · by_cases hj : j = u
          · subst hj
            show ((restoreE us e0 e).set j s)[j]? = _
            rw [List.getElem?_set_self (by rw [ih.1]; exact z3), q]
          · show ((restoreE us e0 e).set u s)[j]? = _
            rw [List.getElem?_set_ne (Ne.symm hj)]
            cases z with
            | head => exact absurd rfl hj
            | tail _ z => exact (ih.2 j).1 z z2 z3
        · show ((restoreE us e0 e).set u s)[j]? = _
          rw [List.getElem?_set_ne (by rintro rfl; exact z (.head _))]
          exact (ih.2 j).2 fun y => z (.tail _ y)
  obtain ⟨k1, k2⟩ := key vs
  refine ⟨k1.trans h.1, fun j p q => ?_⟩
  by_cases hj : j ∈ vs
  · have q' := (hs j hj).trans q
    obtain ⟨s, z1, z2⟩ := h0.2 j p q'
    refine ⟨s, ?_, z2⟩
    rw [(k2 j).1 hj (by rw [z1]; exact Option.some_ne_none s) (by rw [h.1]; exact (List.getElem?_eq_some_iff.mp q).1)]
    exact z1
  · obtain ⟨s, z1, z2⟩ := h.2 j p (by rw [gwipe_out vs Δ j hj]; exact q)
    exact ⟨s, by rw [(k2 j).2 hj]; exact z1, z2⟩
section
variable {α β σ : Type}
def EJ (Θ : Ga) (t : Sx Bool) (el : Sx Opd) (g : Option (Option β × σ)) (en : β → D) (vs : List Nat) (Δ : σ → Ga) : Prop := ∀ e, Fits Θ e → match g with
  | none => True
  | some (none, s) => ∃ e', t e = .ok false e' ∧ Fits ((Δ s).wipe vs) (wipeE vs e')
  | some (some y, s) => ∃ e' e'', t e = .ok true e' ∧ el e' = .ok (.dt (en y)) e'' ∧ Fits ((Δ s).wipe vs) (wipeE vs e'')
variable {Θ Θ' Ξ : Ga} {t : Sx Bool} {el : Sx Opd} {en : β → D} {vs : List Nat} {Δ : σ → Ga}
theorem ej_ob {γ : Type} {x : Option γ} {f : γ → Option (Option β × σ)} (h : ∀ a, x = some a → EJ Θ t el (f a) en vs Δ) : EJ Θ t el (x.bind f) en vs Δ := by
  cases x with
  | none => exact fun e he => trivial
  | some a => exact h a rfl
theorem ej_y {y : β} {s : σ} (h : XQ Θ t true Θ') (k : XQ Θ' el (.dt (en y)) Ξ) (l : Le (Ξ.wipe vs) ((Δ s).wipe vs) := by exact Le.refl _) : EJ Θ t el (some (some y, s)) en vs Δ := fun e he => by
  obtain ⟨e1, h1, h2⟩ := h e he
  obtain ⟨e2, h3, h4⟩ := k e1 h2
  exact ⟨e1, e2, h1, h3, (h4.wipe vs).le l⟩
theorem ej_n {s : σ} (h : XQ Θ t false Ξ) (l : Le (Ξ.wipe vs) ((Δ s).wipe vs) := by exact Le.refl _) : EJ Θ t el (some (none, s)) en vs Δ := fun e he => by
  obtain ⟨e1, h1, h2⟩ := h e he
  exact ⟨e1, h1, (h2.wipe vs).le l⟩
theorem ej_all {y : β} {s : σ} (k : XQ Θ el (.dt (en y)) Ξ) (l : Le (Ξ.wipe vs) ((Δ s).wipe vs) := by exact Le.refl _) : EJ Θ tTrue el (some (some y, s)) en vs Δ := ej_y (fun e he => ⟨e, rfl, he⟩) k l
theorem compGo_S {s : Src} {tg : Tg} {ei : α → D} {en : β → D} {t : Sx Bool} {el : Sx Opd} (g : α → σ → Option (Option β × σ)) (hk : ∀ s0, (Δ s0).ckOk vs s.chk) (Θ : α → σ → Ga) (hset : ∀ x s0, Ga.setTg tg (ei x) ((Δ s0).wipe vs) = some (Θ x s0)) (hb : ∀ x s0, EJ (Θ x s0) t el (g x s0) en vs Δ) :
    ∀ (xs : List α) (s0 : σ) (e : En) (r : List β × σ), Fits ((Δ s0).wipe vs) e → compS g xs s0 = some r → ∃ e', compGo s vs tg t el (xs.map ei) e = .ok (r.1.map en) e' ∧ Fits ((Δ r.2).wipe vs) e'
  | [], s0, e, r, he, hr => by
    cases hr
    refine ⟨e, ?_, he⟩
    rw [List.map_nil]
    unfold compGo
    rw [if_pos ((hk s0).ok he)]
    rfl
  | x :: xs, s0, e, r, he, hr => by
    obtain ⟨z, hz, hr2⟩ := Option.bind_eq_some_iff.mp (show ((g x s0).bind fun r => (compS g xs r.2).map fun ys => (r.1.toList ++ ys.1, ys.2)) = some r from hr)
    obtain ⟨ys, hy, rfl⟩ := Option.map_eq_some_iff.mp hr2
    obtain ⟨e1, h1, h2⟩ := he.setTg (hset x s0)
    have hgo : compGo s vs tg t el ((x :: xs).map ei) e = ((noX t e1).bind fun k e2 => if k = true then ((noX el e2).bind fun o e3 => match o with
        | .dt d => (compGo s vs tg t el (xs.map ei) (wipeE vs e3)).bind fun ds e4 => .ok (d :: ds) e4
        | .sl _ => .stuck)
      else compGo s vs tg t el (xs.map ei) (wipeE vs e2)) := by
      rw [List.map_cons]
      unfold compGo
      rw [if_pos ((hk s0).ok he), h1]
      cases xs <;> rfl
    have hj := hb x s0 e1 h2
    rw [hz] at hj
    obtain ⟨y, s1⟩ := z
    cases y with
    | none =>
      obtain ⟨e2, j1, j2⟩ := hj
      obtain ⟨e', i1, i2⟩ := compGo_S g hk Θ hset hb xs s1 _ _ j2 hy
      refine ⟨e', ?_, i2⟩
      rw [hgo, noX_of j1, Out.bind_ok, if_neg Bool.false_ne_true, i1]
      rfl
    | some y =>
      obtain ⟨e2, e3, j1, j2, j3⟩ := hj
      obtain ⟨e', i1, i2⟩ := compGo_S g hk Θ hset hb xs s1 _ _ j3 hy
      refine ⟨e', ?_, i2⟩
      rw [hgo, noX_of j1, Out.bind_ok, if_pos rfl, noX_of j2, Out.bind_ok]
      show (compGo s vs tg t el (xs.map ei) (wipeE vs e3)).bind _ = _
      rw [i1]
      rfl
theorem q_compS {Γ : Ga} {s : Sx Src} {tg : Tg} {ei : α → D} {en : β → D} {xs : List α} {ck : Option (Nat × D)} {s0 : σ} {r : List β × σ} (g : α → σ → Option (Option β × σ)) (Δ : σ → Ga) (hr : compS g xs s0 = some r) (hs : XQ Γ s ⟨xs.map ei, ck⟩ (Δ s0)) (hk : ∀ s0, (Δ s0).ckOk vs ck) (hh : (Δ s0).hid vs = true) (ht : tg.ix.all vs.contains = true) (hv : ∀ v ∈ vs, (Δ s0)[v]? = (Δ r.2)[v]?)
    (Θ : α → σ → Ga) (hset : ∀ x s0, Ga.setTg tg (ei x) ((Δ s0).wipe vs) = some (Θ x s0)) (hb : ∀ x s0, EJ (Θ x s0) t el (g x s0) en vs Δ) : XQ Γ (sComp vs tg s t el) (nw (.lst (r.1.map en))) (Δ r.2) := by
  refine hs.bnd fun e he => ?_
  obtain ⟨e', i1, i2⟩ := compGo_S (s := ⟨xs.map ei, ck⟩) g hk Θ hset hb xs s0 _ r (he.wipe vs) hr
  refine ⟨restoreE vs e e', ?_, he.restore i2 hv⟩
  show (if _ then _ else _) = _
  rw [if_pos (by rw [he.hid hh, (hk s0).apart, ht]; rfl), i1]
  rfl
end
section
variable {α β : Type} {Γ Δ : Ga} {vs : List Nat} {tg : Tg} {s : Sx Src} {t : Sx Bool} {el : Sx Opd} {ei : α → D} {en : β → D} {xs : List α} {ck : Option (Nat × D)}
theorem compS_of (g : α → Option (Option β)) : ∀ xs : List α, compS (fun x (_ : Unit) => (g x).map fun r => (r, ())) xs () = (compO g xs).map fun ys => (ys, ())
  | [] => rfl
  | x :: xs => by
    show (((g x).map fun r => (r, ())).bind fun r => (compS (fun x (_ : Unit) => (g x).map fun r => (r, ())) xs r.2).map fun ys => (r.1.toList ++ ys.1, ys.2)) = ((g x).bind fun r => (compO g xs).map fun ys => r.toList ++ ys).map fun ys => (ys, ())
    cases g x with
    | none => rfl
    | some r =>
      show (compS _ xs ()).map _ = _
      rw [compS_of g xs]
      cases compO g xs <;> rfl
def EJ0 (Θ : Ga) (t : Sx Bool) (el : Sx Opd) (g : Option (Option β)) (en : β → D) (vs : List Nat) (Δ : Ga) : Prop := EJ Θ t el (g.map fun r => (r, ())) en vs (fun _ : Unit => Δ)
section
variable {Θ Θ' : Ga} {σ : Type}
theorem ej0_ob {γ : Type} {x : Option γ} {f : γ → Option (Option β)} (h : ∀ a, x = some a → EJ0 Θ t el (f a) en vs Δ) : EJ0 Θ t el (x.bind f) en vs Δ := by
  cases x with
  | none => exact fun e he => trivial
  | some a => exact h a rfl
theorem ej0_test {k : Bool} {g2 : Option β} (ht : XQ Θ t k Θ') (he : ∀ y, g2 = some y → ∃ Ξ, XQ Θ' el (.dt (en y)) Ξ ∧ Le (Ξ.wipe vs) (Δ.wipe vs)) (l : Le (Θ'.wipe vs) (Δ.wipe vs)) : EJ0 Θ t el (if k = true then g2.map some else some none) en vs Δ := by
  cases k with
  | false => exact ej_n (s := ()) (Δ := fun _ => Δ) ht l
  | true =>
    cases g2 with
    | none => exact fun e he => trivial
    | some y =>
      obtain ⟨Ξ, h1, h2⟩ := he y rfl
      exact ej_y (s := ()) (Δ := fun _ => Δ) ht h1 h2
theorem ej0_el {g2 : Option β} (he : ∀ y, g2 = some y → ∃ Ξ, XQ Θ el (.dt (en y)) Ξ ∧ Le (Ξ.wipe vs) (Δ.wipe vs)) : EJ0 Θ tTrue el (g2.map some) en vs Δ := by
  cases g2 with
  | none => exact fun e he => trivial
  | some y =>
    obtain ⟨Ξ, h1, h2⟩ := he y rfl
    exact ej_all (s := ()) (Δ := fun _ => Δ) h1 h2
theorem ejs_test {Δ : σ → Ga} {k : Bool} {s : σ} {g2 : Option (β × σ)} (ht : XQ Θ t k Θ') (he : ∀ y, g2 = some y → ∃ Ξ, XQ Θ' el (.dt (en y.1)) Ξ ∧ Le (Ξ.wipe vs) ((Δ y.2).wipe vs)) (l : Le (Θ'.wipe vs) ((Δ s).wipe vs)) : EJ Θ t el (if k = true then g2.map (fun r => (some r.1, r.2)) else some (none, s)) en vs Δ := by
  cases k with
  | false => exact ej_n ht l
  | true =>
    cases g2 with
    | none => exact fun e he => trivial
    | some y =>
      obtain ⟨Ξ, h1, h2⟩ := he y rfl
      exact ej_y ht h1 h2
end
theorem q_compO {ys : List β} (g : α → Option (Option β)) (hr : compO g xs = some ys) (hs : XQ Γ s ⟨xs.map ei, ck⟩ Δ) (hk : Δ.ckOk vs ck) (hh : Δ.hid vs = true) (ht : tg.ix.all vs.contains = true)
    (Θ : α → Ga) (hset : ∀ x, Ga.setTg tg (ei x) (Δ.wipe vs) = some (Θ x)) (hb : ∀ x, EJ0 (Θ x) t el (g x) en vs Δ) : XQ Γ (sComp vs tg s t el) (nw (.lst (ys.map en))) Δ :=
  q_compS (s0 := ()) (r := (ys, ())) (fun x _ => (g x).map fun r => (r, ())) (fun _ => Δ) (by rw [compS_of, hr]; rfl) hs (fun _ => hk) hh ht (fun _ _ => rfl) (fun x _ => Θ x) (fun x _ => hset x) fun x _ => hb x
theorem compO_all (f : α → β) : ∀ xs : List α, compO (fun x => some (some (f x))) xs = some (xs.map f)
  | [] => rfl
  | x :: xs => by
    show (compO (fun x => some (some (f x))) xs).map _ = _
    rw [compO_all f xs]
    simp
theorem q_compA {Ξ : α → Ga} (f : α → β) (hs : XQ Γ s ⟨xs.map ei, ck⟩ Δ) (hk : Δ.ckOk vs ck) (hh : Δ.hid vs = true) (ht : tg.ix.all vs.contains = true)
    (Θ : α → Ga) (hset : ∀ x, Ga.setTg tg (ei x) (Δ.wipe vs) = some (Θ x)) (h2 : ∀ x, XQ (Θ x) el (.dt (en (f x))) (Ξ x)) (l : ∀ x, Le ((Ξ x).wipe vs) (Δ.wipe vs)) : XQ Γ (sComp vs tg s tTrue el) (nw (.lst ((xs.map f).map en))) Δ :=
  q_compO (fun x => some (some (f x))) (compO_all f xs) hs hk hh ht Θ hset fun x => ej_all (h2 x) (l x)
end
end Ev
set_option Elab.async false
set_option linter.all false
set_option autoImplicit false
set_option maxRecDepth 100000
set_option maxHeartbeats 1000000
namespace Ev
open PySem
def Y {σ ρ : Type} (N : Nat) (Γ : Ga) (s : SS) (t : St σ ρ) (Γn : σ → Ga) (R : ρ → Vl → En → Prop) : Prop := ∀ e, Fits Γ e → match t with
  | .nx a => ∃ e', s e = .nx e' ∧ Fits (Γn a) e'
  | .rt r => ∃ v e', s e = .rt v e' ∧ R r v e'
  | .exc r => ∃ e', s e = .exc (talkE r) e' ∧ e'.length = N
  | .no => True
def YE (N : Nat) (Γ : Ga) (s : SS) (r : Str) : Prop := ∀ e, Fits Γ e → ∃ e', s e = .exc (talkE r) e' ∧ e'.length = N
section
variable {N : Nat} {σ τ ρ α β γ : Type} {Γ Δ Ε : Ga} {Γn : σ → Ga} {Γ1 : τ → Ga} {R : ρ → Vl → En → Prop} {a b c s : SS} {m : Sx Vl} {v : Vl} {i : Nat} {r : Str} {t : St σ ρ} {ct : Sx Bool} {k : Bool}
theorem Y.pre (l : Le Γ Δ) (h : Y N Δ s t Γn R) : Y N Γ s t Γn R := fun e he => h e (he.le l)
theorem y_no : Y N Γ s (.no : St σ ρ) Γn R := fun e he => trivial
theorem y_ob {x : Option α} {f : α → St σ ρ} (h : ∀ z, x = some z → Y N Γ s (f z) Γn R) : Y N Γ s (St.ob x f) Γn R := by
  cases x with
  | none => exact y_no
  | some z => exact h z rfl
theorem y_tb {x : T α} {f : α → St σ ρ} (h : ∀ z, x = .ok z → Y N Γ s (f z) Γn R) (hx : ∀ r, x = .exc r → YE N Γ s r) : Y N Γ s (St.tb x f) Γn R := by
  cases x with
  | no => exact y_no
  | ok z => exact h z rfl
  | exc r => exact hx r rfl
theorem y_skip {x : σ} (l : Le Γ (Γn x)) : Y N Γ sSkip (.nx x : St σ ρ) Γn R := fun e he => ⟨e, rfl, he.le l⟩
theorem y_then {ta : St τ ρ} {tb : τ → St σ ρ} (h : Y N Γ a ta Γ1 R) (k : ∀ x, Y N (Γ1 x) b (tb x) Γn R) : Y N Γ (sThen a b) (ta.bind tb) Γn R := fun e he => by
  have h1 := h e he
  cases ta with
  | no => trivial
  | nx x =>
    obtain ⟨e1, z1, z2⟩ := h1
    have h2 := k x e1 z2
    show match tb x with | .nx a => _ | .rt r => _ | .exc r => _ | .no => True
    have hs : sThen a b e = b e1 := by unfold sThen; rw [z1]
    cases q : tb x <;> (rw [q] at h2; first | trivial | (simp only [hs]; exact h2))
  | rt r =>
    obtain ⟨w, e1, z1, z2⟩ := h1
    exact ⟨w, e1, by unfold sThen; rw [z1], z2⟩
  | exc r =>
    obtain ⟨e1, z1, z2⟩ := h1
    exact ⟨e1, by unfold sThen; rw [z1], z2⟩
theorem y_seq {ta : α} {tb : α → St σ ρ} {Γ1 : α → Ga} (h : Y N Γ a (.nx ta : St α ρ) Γ1 R) (k : ∀ x, Y N (Γ1 x) b (tb x) Γn R) : Y N Γ (sThen a b) (St.lt ta tb) Γn R := y_then h k
theorem y_sq {t : St σ ρ} (h : Y N Γ a (.nx () : St Unit ρ) (fun _ => Δ) R) (k : Y N Δ b t Γn R) : Y N Γ (sThen a b) t Γn R := y_then (tb := fun _ => t) h fun _ => k
theorem y_asg {x : σ} {w : Vl} (h : XQ Γ m w Δ) (hn : (∃ d, w = fz d ∧ Le (Δ.set i (.S d)) (Γn x)) ∨ (∃ d, w = nw d ∧ Le (Δ.set i (.O d)) (Γn x))) : Y N Γ (sAsg m i) (.nx x : St σ ρ) Γn R := fun e he => by
  obtain ⟨e1, z1, z2⟩ := h e he
  rcases hn with ⟨d, rfl, l⟩ | ⟨d, rfl, l⟩
  · exact ⟨e1.set i (.sh d), by unfold sAsg; rw [z1]; rfl, (z2.set i (p := .S d) rfl).le l⟩
  · exact ⟨e1.set i (.ow d), by unfold sAsg; rw [z1]; rfl, (z2.set i (p := .O d) rfl).le l⟩
theorem y_asgF {x : σ} {d : D} (h : XQ Γ m (fz d) Δ) (l : Le (Δ.set i (.S d)) (Γn x) := by exact Le.refl _) : Y N Γ (sAsg m i) (.nx x : St σ ρ) Γn R := y_asg h (.inl ⟨d, rfl, l⟩)
theorem y_asgN {x : σ} {d : D} (h : XQ Γ m (nw d) Δ) (l : Le (Δ.set i (.O d)) (Γn x) := by exact Le.refl _) : Y N Γ (sAsg m i) (.nx x : St σ ρ) Γn R := y_asg h (.inr ⟨d, rfl, l⟩)
theorem ye_asg (h : XE N Γ m r) : YE N Γ (sAsg m i) r := fun e he => by
  obtain ⟨e1, z1, z2⟩ := h e he
  exact ⟨e1, by unfold sAsg; rw [z1], z2⟩
theorem y_drop {x : σ} (h : XQ Γ m v Δ) (l : Le Δ (Γn x) := by exact Le.refl _) : Y N Γ (sDrop m) (.nx x : St σ ρ) Γn R := fun e he => by
  obtain ⟨e1, z1, z2⟩ := h e he
  exact ⟨e1, by unfold sDrop; rw [z1], z2.le l⟩
theorem y_if {ta tb : St σ ρ} (h : XQ Γ ct k Δ) (h1 : k = true → Y N Δ a ta Γn R) (h2 : k = false → Y N Δ b tb Γn R) : Y N Γ (sIfS ct a b) (if k = true then ta else tb) Γn R := fun e he => by
  obtain ⟨e1, z1, z2⟩ := h e he
  cases k with
  | true =>
    have hs : sIfS ct a b e = a e1 := by unfold sIfS; rw [z1]; rfl
    have := h1 rfl e1 z2
    rw [if_pos rfl]
    cases q : ta <;> (rw [q] at this; first | trivial | (simp only [hs]; exact this))
  | false =>
    have hs : sIfS ct a b e = b e1 := by unfold sIfS; rw [z1]; rfl
    have := h2 rfl e1 z2
    rw [if_neg Bool.false_ne_true]
    cases q : tb <;> (rw [q] at this; first | trivial | (simp only [hs]; exact this))
theorem y_stop {t : St σ ρ} (h : Y N Γ a t (fun _ => [.F]) R) : Y N Γ (sThen a b) t Γn R := fun e he => by
  have h1 := h e he
  cases t with
  | no => trivial
  | nx x => obtain ⟨e1, z1, z2⟩ := h1; exact z2.stop.elim
  | rt r => obtain ⟨w, e1, z1, z2⟩ := h1; exact ⟨w, e1, by unfold sThen; rw [z1], z2⟩
  | exc r => obtain ⟨e1, z1, z2⟩ := h1; exact ⟨e1, by unfold sThen; rw [z1], z2⟩
theorem y_guard {ta tb : St σ ρ} (h : XQ Γ ct k Δ) (h1 : k = true → Y N Δ a ta (fun _ => [.F]) R) (h2 : k = false → Y N Δ b tb Γn R) : Y N Γ (sThen (sIfS ct a sSkip) b) (if k = true then ta else tb) Γn R := by
  cases k with
  | true =>
    refine fun e he => ?_
    obtain ⟨e1, z1, z2⟩ := h e he
    have := y_stop (b := b) (Γn := Γn) (h1 rfl) e1 z2
    have hs : sThen (sIfS ct a sSkip) b e = sThen a b e1 := by unfold sThen sIfS; rw [z1]; rfl
    rw [if_pos rfl]
    cases q : ta <;> (rw [q] at this; first | trivial | (simp only [hs]; exact this))
  | false =>
    refine fun e he => ?_
    obtain ⟨e1, z1, z2⟩ := h e he
    have := h2 rfl e1 z2
    have hs : sThen (sIfS ct a sSkip) b e = b e1 := by unfold sThen sIfS; rw [z1]; rfl
    rw [if_neg Bool.false_ne_true]
    cases q : tb <;> (rw [q] at this; first | trivial | (simp only [hs]; exact this))
theorem y_raise {x : Str} (hn : Γ.length = N := by rfl) : Y N Γ (sRaise x) (.exc x : St σ ρ) Γn R := fun e he => ⟨e, rfl, he.len.trans hn⟩
theorem fits_A : ∀ e : En, Fits (List.replicate e.length .A) e
  | [] => trivial
  | _ :: e => ⟨trivial, fits_A e⟩
theorem y_try {h : Exn → SS} {th : Str → St σ ρ} (hb : Y N Γ a t Γn R) (hx : ∀ x, Y N (List.replicate N .A) (h (talkE x)) (th x) Γn R) : Y N Γ (sTry a h) (t.tr th) Γn R := fun e he => by
  have h1 := hb e he
  cases t with
  | no => trivial
  | nx x => obtain ⟨e1, z1, z2⟩ := h1; exact ⟨e1, by unfold sTry; rw [z1], z2⟩
  | rt r => obtain ⟨w, e1, z1, z2⟩ := h1; exact ⟨w, e1, by unfold sTry; rw [z1], z2⟩
  | exc x =>
    obtain ⟨e1, z1, z2⟩ := h1
    have h2 := hx x e1 (by rw [← z2]; exact fits_A e1)
    have hs : sTry a h e = h (talkE x) e1 := by unfold sTry; rw [z1]; rfl
    show match th x with | .nx a => _ | .rt r => _ | .exc r => _ | .no => True
    cases q : th x <;> (rw [q] at h2; first | trivial | (simp only [hs]; exact h2))
theorem y_map {t : St τ ρ} (g : τ → σ) (h : Y N Γ a t Γ1 R) (l : ∀ x, Le (Γ1 x) (Γn (g x))) : Y N Γ a (t.bind fun x => .nx (g x)) Γn R := fun e he => by
  have h1 := h e he
  cases t with
  | no => trivial
  | nx x => obtain ⟨e1, z1, z2⟩ := h1; exact ⟨e1, z1, z2.le (l x)⟩
  | rt r => exact h1
  | exc r => exact h1
theorem y_for {sr : Sx Src} {tg : Tg} {ei : α → D} {xs : List α} {s0 : σ} {f : σ → α → St σ ρ} (hs : XQ Γ sr ⟨xs.map ei, none⟩ Δ) (l : Le Δ (Γn s0)) (Θ : σ → α → Ga) (hset : ∀ z x, Ga.setTg tg (ei x) (Γn z) = some (Θ z x)) (hb : ∀ z x, Y N (Θ z x) b (f z x) Γn R) : Y N Γ (sFor tg sr b) (forT f xs s0) Γn R := by
  have key : ∀ (xs : List α) (z : σ) (e : En), Fits (Γn z) e → match forT f xs z with
      | .nx a => ∃ e', forGo tg b (xs.map ei) e = .nx e' ∧ Fits (Γn a) e'
      | .rt r => ∃ v e', forGo tg b (xs.map ei) e = .rt v e' ∧ R r v e'
      | .exc r => ∃ e', forGo tg b (xs.map ei) e = .exc (talkE r) e' ∧ e'.length = N
      | .no => True := by
    intro xs
    induction xs with
    | nil => intro z e he; exact ⟨e, rfl, he⟩
    | cons x xs ih =>
      intro z e he
      obtain ⟨e1, z1, z2⟩ := he.setTg (hset z x)
      have h1 := hb z x e1 z2
      have hgo : forGo tg b ((x :: xs).map ei) e = (match b e1 with
          | .nx e2 => forGo tg b (xs.map ei) e2
          | .ct e2 => forGo tg b (xs.map ei) e2
          | .bk e2 => .nx e2
          | r => r) := by
        rw [List.map_cons]
        conv => lhs; unfold forGo
        rw [z1]
        all_goals rfl
      show match (f z x).bind (forT f xs) with | .nx a => _ | .rt r => _ | .exc r => _ | .no => True
      cases q : f z x with
      | no => trivial
      | nx z' =>
        rw [q] at h1
        obtain ⟨e2, w1, w2⟩ := h1
        have h2 := ih z' e2 w2
        rw [w1] at hgo
        simp only [hgo]
        exact h2
      | rt r =>
        rw [q] at h1
        obtain ⟨v, e2, w1, w2⟩ := h1
        rw [w1] at hgo
        exact ⟨v, e2, hgo, w2⟩
      | exc r =>
        rw [q] at h1
        obtain ⟨e2, w1, w2⟩ := h1
        rw [w1] at hgo
        exact ⟨e2, hgo, w2⟩
  refine fun e he => ?_
  obtain ⟨e1, z1, z2⟩ := hs e he
  have h2 := key xs s0 e1 (z2.le l)
  have hf : sFor tg sr b e = forGo tg b (xs.map ei) e1 := by unfold sFor; rw [z1]
  cases q : forT f xs s0 <;> (rw [q] at h2; first | trivial | (simp only [hf]; exact h2))
@[reducible] def vl (e : ρ → D) (f : ρ → Bool) : ρ → Vl := fun r => ⟨e r, f r⟩
def RF (V : ρ → Vl) : ρ → Vl → En → Prop := fun r v _ => v = V r
def RB (V : ρ → Vl) (x : ρ → D) : ρ → Vl → En → Prop := fun r v e => v = V r ∧ e[0]? = some (.bx (x r))
variable {V : ρ → Vl} {X : ρ → D} {q : ρ}
theorem y_ret (h : XQ Γ m (V q) Δ) : Y N Γ (sRet m) (.rt q : St σ ρ) Γn (RF V) := fun e he => by
  obtain ⟨e1, z1, z2⟩ := h e he
  exact ⟨_, e1, by unfold sRet; rw [z1], rfl⟩
theorem y_retB (h : XQ Γ m (V q) Δ) (h0 : Δ[0]? = some (.B (X q)) := by rfl) : Y N Γ (sRet m) (.rt q : St σ ρ) Γn (RB V X) := fun e he => by
  obtain ⟨e1, z1, z2⟩ := h e he
  obtain ⟨s, h1, h2⟩ := z2.get h0
  exact ⟨_, e1, by unfold sRet; rw [z1], rfl, by rw [h1]; exact congrArg some h2⟩
theorem y_reason {x : Str} {i : Nat} (hv : V q = fz (.str x) := by rfl) (hi : i < N := by decide) : Y N (List.replicate N .A) (hReason i (talkE x)) (.rt q : St σ ρ) Γn (RF V) := fun e he => by
  have hl := he.len
  rw [List.length_replicate] at hl
  refine ⟨fz (.str x), e, ?_, hv.symm⟩
  exact reason_rt (List.getElem?_eq_getElem (show i < e.length by rw [hl]; exact hi))
theorem y_retO {d : D} (h : Γ[i]? = some (.O d) := by rfl) (hv : V q = nw d := by rfl) : Y N Γ (sRetName i) (.rt q : St σ ρ) Γn (RF V) := fun e he => by
  obtain ⟨s, h1, h2⟩ := he.get h
  cases (show s = .ow d from h2)
  exact ⟨_, e.set i .unb, by unfold sRetName; rw [h1], hv.symm⟩
theorem y_retOB {d : D} (h : Γ[i]? = some (.O d) := by rfl) (h0 : (Γ.set i .U)[0]? = some (.B (X q)) := by rfl) (hv : V q = nw d := by rfl) : Y N Γ (sRetName i) (.rt q : St σ ρ) Γn (RB V X) := fun e he => by
  obtain ⟨s, h1, h2⟩ := he.get h
  obtain ⟨s', h3, h4⟩ := (he.set i (p := .U) (s := .unb) rfl).get h0
  cases (show s = .ow d from h2)
  exact ⟨_, e.set i .unb, by unfold sRetName; rw [h1], hv.symm, by rw [h3]; exact congrArg some h4⟩
def startG (modes : List Bool) (ds : List D) (n : Nat) : Ga := List.zipWith (fun b d => if b = true then SP.R d else SP.S d) modes ds ++ List.replicate (n - ds.length) .U
theorem fits_rep : ∀ n : Nat, Fits (List.replicate n .U) (List.replicate n .unb)
  | 0 => trivial
  | n + 1 => ⟨rfl, fits_rep n⟩
theorem Fits.app : ∀ {Γ Δ : Ga} {e e' : En}, Fits Γ e → Fits Δ e' → Fits (Γ ++ Δ) (e ++ e')
  | [], _, [], _, _, h => h
  | _ :: _, _, _ :: _, _, h, k => ⟨h.1, Fits.app h.2 k⟩
  | [], _, _ :: _, _, h, _ => h.elim
  | _ :: _, _, [], _, h, _ => h.elim
theorem fits_start (modes : List Bool) (ds : List D) (n : Nat) : Fits (startG modes ds n) (startE modes ds n) := by
  refine Fits.app ?_ (fits_rep _)
  induction modes generalizing ds with
  | nil => trivial
  | cons b bs ih =>
    cases ds with
    | nil => trivial
    | cons d ds =>
      refine ⟨?_, ih ds⟩
      cases b <;> rfl
def startGB (d0 : D) (ds : List D) (n : Nat) : Ga := .B d0 :: (ds.map SP.S ++ List.replicate (n - (ds.length + 1)) .U)
theorem fits_startB (d0 : D) (ds : List D) (n : Nat) : Fits (startGB d0 ds n) (startB d0 ds n) := by
  refine ⟨rfl, Fits.app ?_ (fits_rep _)⟩
  induction ds with
  | nil => trivial
  | cons d ds ih => exact ⟨rfl, ih⟩
variable {modes : List Bool} {n : Nat} {ds : List D} {tt : SS} {d0 : D} {mm : Nat} {df : σ → Option ρ} {dt : σ → T ρ}
theorem runF_ty {pp : Option ρ} (hr : pp = some q) (ep : pp = t.fo df) (hy : Y N Γ tt t Γn (RF V)) (hd : ∀ x, df x = none ∨ (∃ q, df x = some q ∧ V q = fz .non)) (hΓ : startG modes ds n = Γ := by rfl) (hl : ds.length = modes.length := by rfl) : runF tt modes n ds = .ok (V q) := by
  subst hΓ
  rw [ep] at hr
  have h := hy _ (fits_start modes ds n)
  unfold runF
  rw [if_pos hl]
  cases t with
  | no => cases hr
  | exc r => cases hr
  | nx x =>
    obtain ⟨e1, z1, _⟩ := h
    rw [z1]
    rcases hd x with z | ⟨q', z, z2⟩
    · rw [show (St.nx x : St σ ρ).fo df = df x from rfl, z] at hr; cases hr
    · rw [show (St.nx x : St σ ρ).fo df = df x from rfl, z] at hr
      cases hr
      rw [z2]
  | rt r =>
    obtain ⟨v, e1, z1, z2⟩ := h
    cases hr
    rw [z1, show v = V q from z2]
theorem runB_ty {pp : Option ρ} (hr : pp = some q) (ep : pp = t.fo df) (hy : Y N Γ tt t Γn (RB V X)) (hd : ∀ x, df x = none ∨ (∃ q, df x = some q ∧ V q = fz .non ∧ (Γn x)[0]? = some (.B (X q)))) (hΓ : startGB d0 ds n = Γ := by rfl) (hl : ds.length = mm := by rfl) : runB tt mm n d0 ds = .ok (V q) (X q) := by
  subst hΓ
  rw [ep] at hr
  have h := hy _ (fits_startB d0 ds n)
  unfold runB
  rw [if_pos hl]
  cases t with
  | no => cases hr
  | exc r => cases hr
  | nx x =>
    obtain ⟨e1, z1, z3⟩ := h
    rw [z1]
    rcases hd x with z | ⟨q', z, z2, z4⟩
    · rw [show (St.nx x : St σ ρ).fo df = df x from rfl, z] at hr; cases hr
    · rw [show (St.nx x : St σ ρ).fo df = df x from rfl, z] at hr
      cases hr
      obtain ⟨s, w1, w2⟩ := z3.get z4
      cases (show s = .bx (X q) from w2)
      show boxOf (fz .non) e1 = _
      unfold boxOf
      rw [w1, z2]
  | rt r =>
    obtain ⟨v, e1, z1, z2, z3⟩ := h
    cases hr
    rw [z1, show v = V q from z2]
    show boxOf (V q) e1 = _
    unfold boxOf
    rw [z3]
theorem runBX_ty {pp : T ρ} (ep : pp = t.ft dt) (hy : Y N Γ tt t Γn (RB V X)) (hd : ∀ x, dt x = .no ∨ (∃ q, dt x = .ok q ∧ V q = fz .non ∧ (Γn x)[0]? = some (.B (X q)))) (hΓ : startGB d0 ds n = Γ := by rfl) (hl : ds.length = mm := by rfl) : (∀ q, pp = .ok q → runBX tt mm n d0 ds = .ok (V q) (X q)) ∧ ∀ r, pp = .exc r → runBX tt mm n d0 ds = .exc (talkE r) := by
  subst hΓ
  subst ep
  have h := hy _ (fits_startB d0 ds n)
  unfold runBX
  rw [if_pos hl]
  cases t with
  | no => exact ⟨fun q z => (by cases z), fun q z => (by cases z)⟩
  | exc r =>
    obtain ⟨e1, z1, _⟩ := h
    refine ⟨fun q z => (by cases z), fun q z => ?_⟩
    cases z
    rw [z1]
  | nx x =>
    obtain ⟨e1, z1, z3⟩ := h
    rw [z1]
    rcases hd x with z | ⟨q', z, z2, z4⟩
    · exact ⟨fun q y => (by rw [show (St.nx x : St σ ρ).ft dt = dt x from rfl, z] at y; cases y), fun q y => (by rw [show (St.nx x : St σ ρ).ft dt = dt x from rfl, z] at y; cases y)⟩
    · refine ⟨fun q y => ?_, fun q y => (by rw [show (St.nx x : St σ ρ).ft dt = dt x from rfl, z] at y; cases y)⟩
      rw [show (St.nx x : St σ ρ).ft dt = dt x from rfl, z] at y
      cases y
      obtain ⟨s, w1, w2⟩ := z3.get z4
      cases (show s = .bx (X q') from w2)
      show boxOf (fz .non) e1 = _
      unfold boxOf
      rw [w1, z2]
  | rt r =>
    obtain ⟨v, e1, z1, z2, z3⟩ := h
    refine ⟨fun q z => ?_, fun q z => (by cases z)⟩
    cases z
    rw [z1, show v = V _ from z2]
    show boxOf (V _) e1 = _
    unfold boxOf
    rw [z3]
theorem y_setIO {p : D → List D → Option D} {mk : Sx Opd} {o : Opd} {w : Vl} {kd x x' dl : D} {z : σ} (hv : XQ Γ m w Δ) (hk : XQ Δ mk o Ε) (hp : p x [kd, w.d] = some x') (h0 : Ga.look Δ i = some dl := by rfl) (hr : Ga.res Ε o = some kd := by rfl) (hs : Ε[i]? = some (.O x) := by rfl) (l : Le (Ε.set i (.O x')) (Γn z) := by exact Le.refl _) : Y N Γ (sSetI p i mk m) (.nx z : St σ ρ) Γn R := fun e he => by
  obtain ⟨e1, z1, z2⟩ := hv e he
  obtain ⟨e2, z3, z4⟩ := hk e1 z2
  obtain ⟨s, h1, h2⟩ := z4.get hs
  cases (show s = .ow x from h2)
  have hl : ∃ s, e1[i]? = some s ∧ s.look = some dl := by
    have := z2.look h0
    have this' : (match e1[i]? with | some s => s.look | none => none) = some dl := this
    cases q : e1[i]? with
    | none => rw [q] at this'; cases this'
    | some s => rw [q] at this'; exact ⟨s, rfl, this'⟩
  obtain ⟨s1, l1, l2⟩ := hl
  refine ⟨e2.set i (.ow x'), ?_, (z4.set i (p := .O x') rfl).le l⟩
  unfold sSetI
  simp only [z1, l1, l2, z3, z4.res hr, h1, hp]
theorem y_setIB {p : D → List D → Option D} {mk : Sx Opd} {o : Opd} {w : Vl} {kd x x' dl : D} {z : σ} (hv : XQ Γ m w Δ) (hk : XQ Δ mk o Ε) (hp : p x [kd, w.d] = some x') (h0 : Ga.look Δ i = some dl := by rfl) (hr : Ga.res Ε o = some kd := by rfl) (hs : Ε[i]? = some (.B x) := by rfl) (l : Le (Ε.set i (.B x')) (Γn z) := by exact Le.refl _) : Y N Γ (sSetI p i mk m) (.nx z : St σ ρ) Γn R := fun e he => by
  obtain ⟨e1, z1, z2⟩ := hv e he
  obtain ⟨e2, z3, z4⟩ := hk e1 z2
  obtain ⟨s, h1, h2⟩ := z4.get hs
  cases (show s = .bx x from h2)
  have hl : ∃ s, e1[i]? = some s ∧ s.look = some dl := by
    have := z2.look h0
    have this' : (match e1[i]? with | some s => s.look | none => none) = some dl := this
    cases q : e1[i]? with
    | none => rw [q] at this'; cases this'
    | some s => rw [q] at this'; exact ⟨s, rfl, this'⟩
  obtain ⟨s1, l1, l2⟩ := hl
  refine ⟨e2.set i (.bx x'), ?_, (z4.set i (p := .B x') rfl).le l⟩
  unfold sSetI
  simp only [z1, l1, l2, z3, z4.res hr, h1, hp]
theorem y_setF {at_ : Str → Str → Bool} {f c : Str} {fs : List (Str × D)} {z : σ} (hv : XQ Γ m v Δ) (ha : at_ c f = true := by rfl) (hl : fs.length < 1000 := by simp) (hs : Δ[i]? = some (.B (.obj c fs)) := by rfl) (l : Le (Δ.set i (.B (.obj c (putD f v.d fs)))) (Γn z) := by exact Le.refl _) : Y N Γ (sSetF at_ f i m) (.nx z : St σ ρ) Γn R := fun e he => by
  obtain ⟨e1, z1, z2⟩ := hv e he
  obtain ⟨s, h1, h2⟩ := z2.get hs
  cases (show s = .bx (.obj c fs) from h2)
  refine ⟨e1.set i (.bx (.obj c (putD f v.d fs))), ?_, (z2.set i (p := .B _) rfl).le l⟩
  unfold sSetF
  rw [z1]
  show (match e1[i]? with | some (.ow (.obj c fs)) => _ | some (.bx (.obj c fs)) => _ | _ => _) = _
  rw [h1]
  show (if at_ c f = true ∧ fs.length < 1000 then _ else _) = _
  rw [if_pos ⟨ha, hl⟩]
end
end Ev
set_option Elab.async false
set_option linter.all false
set_option autoImplicit false
set_option maxRecDepth 100000
set_option maxHeartbeats 1000000
namespace Ev
open PySem
section
variable {α β γ δ ε ζ : Type}
@[reducible] def eL (e : α → D) (l : List α) : D := .lst (l.map e)
@[reducible] def eTL (e : α → D) (l : List α) : D := .tup (l.map e)
@[reducible] def eT2 (a : α → D) (b : β → D) (p : α × β) : D := .tup [a p.1, b p.2]
@[reducible] def eT3 (a : α → D) (b : β → D) (c : γ → D) (p : α × β × γ) : D := .tup [a p.1, b p.2.1, c p.2.2]
@[reducible] def eT4 (a : α → D) (b : β → D) (c : γ → D) (d : δ → D) (p : α × β × γ × δ) : D := .tup [a p.1, b p.2.1, c p.2.2.1, d p.2.2.2]
@[reducible] def eT5 (a : α → D) (b : β → D) (c : γ → D) (d : δ → D) (e : ε → D) (p : α × β × γ × δ × ε) : D := .tup [a p.1, b p.2.1, c p.2.2.1, d p.2.2.2.1, e p.2.2.2.2]
@[reducible] def eH2 (a : α → D) (b : β → D) (p : α × β) : D := .lst [a p.1, b p.2]
@[reducible] def eH3 (a : α → D) (b : β → D) (c : γ → D) (p : α × β × γ) : D := .lst [a p.1, b p.2.1, c p.2.2]
@[reducible] def eH4 (a : α → D) (b : β → D) (c : γ → D) (d : δ → D) (p : α × β × γ × δ) : D := .lst [a p.1, b p.2.1, c p.2.2.1, d p.2.2.2]
@[reducible] def eH5 (a : α → D) (b : β → D) (c : γ → D) (d : δ → D) (e : ε → D) (p : α × β × γ × δ × ε) : D := .lst [a p.1, b p.2.1, c p.2.2.1, d p.2.2.2.1, e p.2.2.2.2]
@[reducible] def eD (k : α → D) (v : β → D) (l : List (α × β)) : D := .dic (l.map (encDi k v))
@[reducible] def eO (e : α → D) (o : Option α) : D := match o with
  | none => .non
  | some a => e a
@[reducible] def eU (_ : Unit) : D := .non
@[reducible] def eI (i : Int) : D := .int i
@[reducible] def eS (s : Str) : D := .str s
@[reducible] def eB (b : Bool) : D := .bl b
@[reducible] def eX (d : D) : D := d
@[reducible] def eP (a : α → D) (b : β → D) (p : α ⊕ β) : D := match p with
  | .inl x => a x
  | .inr y => b y
structure EqE (n : Nat) (e : α → D) : Prop where
  dat : ∀ a, (e a).dat = true ∧ (e a).py.depth ≤ n
  eq : ∀ a b, pyEq (e a) (e b) = true ↔ a = b
theorem eq_I : EqE 0 eI := ⟨fun _ => ⟨rfl, Nat.le_refl _⟩, fun a b => by simp [pyEq, D.py, PyData.eqv]⟩
theorem eq_S : EqE 0 eS := ⟨fun _ => ⟨rfl, Nat.le_refl _⟩, fun a b => by simp [pyEq, D.py, PyData.eqv]⟩
theorem eq_B : EqE 0 eB := ⟨fun _ => ⟨rfl, Nat.le_refl _⟩, fun a b => by cases a <;> cases b <;> simp [pyEq, D.py, PyData.eqv]⟩
theorem eqs_all {n : Nat} {e : α → D} (h : EqE n e) : ∀ l m : List α, PyData.eqvAll (D.pys (l.map e)) (D.pys (m.map e)) = true ↔ l = m
  | [], [] => by simp [D.pys, PyData.eqvAll]
  | [], _ :: _ => by simp [D.pys, PyData.eqvAll]
  | _ :: _, [] => by simp [D.pys, PyData.eqvAll]
  | a :: l, b :: m => by
    have i := eqs_all h l m
    have j := h.eq a b
    unfold pyEq at j
    simp only [List.map_cons, D.pys, PyData.eqvAll, Bool.and_eq_true, i, j, List.cons.injEq]
theorem dats_all {n : Nat} {e : α → D} (h : EqE n e) : ∀ l : List α, D.dats (l.map e) = true ∧ PyData.depthAll (D.pys (l.map e)) ≤ n
  | [] => ⟨rfl, Nat.zero_le _⟩
  | a :: l => by
    obtain ⟨h1, h2⟩ := h.dat a
    obtain ⟨h3, h4⟩ := dats_all h l
    exact ⟨by rw [List.map_cons, D.dats, h1, h3]; rfl, Nat.max_le.mpr ⟨h2, h4⟩⟩
theorem eq_L {n : Nat} {e : α → D} (h : EqE n e) : EqE (n + 1) (eL e) := ⟨fun l => ⟨(dats_all h l).1, Nat.succ_le_succ (dats_all h l).2⟩, fun a b => by
  have := eqs_all h a b
  simpa [pyEq, D.py, PyData.eqv] using this⟩
theorem eq_T3 {n m o : Nat} {a : α → D} {b : β → D} {c : γ → D} (h : EqE n a) (k : EqE m b) (l : EqE o c) : EqE (max n (max m o) + 1) (eT3 a b c) := ⟨fun p => by
  obtain ⟨h1, h2⟩ := h.dat p.1
  obtain ⟨k1, k2⟩ := k.dat p.2.1
  obtain ⟨l1, l2⟩ := l.dat p.2.2
  refine ⟨?_, ?_⟩
  · show ((a p.1).dat && ((b p.2.1).dat && ((c p.2.2).dat && true))) = true
    rw [h1, k1, l1]; rfl
  · exact Nat.succ_le_succ (Nat.max_le.mpr ⟨by omega, Nat.max_le.mpr ⟨by omega, Nat.max_le.mpr ⟨by omega, Nat.zero_le _⟩⟩⟩), fun p q => by
  have i := h.eq p.1 q.1
  have j := k.eq p.2.1 q.2.1
  have r := l.eq p.2.2 q.2.2
  unfold pyEq at i j r
  obtain ⟨p1, p2, p3⟩ := p
  obtain ⟨q1, q2, q3⟩ := q
  simp only [pyEq, eT3, D.py, D.pys, PyData.eqv, PyData.eqvAll, Bool.and_eq_true, Prod.mk.injEq, and_true] at i j r ⊢
  rw [i, j, r]⟩
theorem eq_H3 {n m o : Nat} {a : α → D} {b : β → D} {c : γ → D} (h : EqE n a) (k : EqE m b) (l : EqE o c) : EqE (max n (max m o) + 1) (eH3 a b c) := ⟨fun p => by
  obtain ⟨h1, h2⟩ := h.dat p.1
  obtain ⟨k1, k2⟩ := k.dat p.2.1
  obtain ⟨l1, l2⟩ := l.dat p.2.2
  refine ⟨?_, ?_⟩
  · show ((a p.1).dat && ((b p.2.1).dat && ((c p.2.2).dat && true))) = true
    rw [h1, k1, l1]; rfl
  · exact Nat.succ_le_succ (Nat.max_le.mpr ⟨by omega, Nat.max_le.mpr ⟨by omega, Nat.max_le.mpr ⟨by omega, Nat.zero_le _⟩⟩⟩), fun p q => by
  have i := h.eq p.1 q.1
  have j := k.eq p.2.1 q.2.1
  have r := l.eq p.2.2 q.2.2
  unfold pyEq at i j r
  obtain ⟨p1, p2, p3⟩ := p
  obtain ⟨q1, q2, q3⟩ := q
  simp only [pyEq, eH3, D.py, D.pys, PyData.eqv, PyData.eqvAll, Bool.and_eq_true, Prod.mk.injEq, and_true] at i j r ⊢
  rw [i, j, r]⟩
variable {n m : Nat} {e : α → D}
theorem EqE.cmp (h : EqE n e) (hn : n ≤ 60) (a : α) : (e a).cmp = true := by
  obtain ⟨h1, h2⟩ := h.dat a
  unfold D.cmp
  rw [h1, Bool.true_and]
  exact decide_eq_true (by omega)
theorem EqE.dec (h : EqE n e) (a b : α) [Decidable (a = b)] : pyEq (e a) (e b) = decide (a = b) := by
  by_cases q : a = b
  · rw [decide_eq_true q]; exact (h.eq a b).mpr q
  · rw [decide_eq_false q]
    cases z : pyEq (e a) (e b) with
    | false => rfl
    | true => exact absurd ((h.eq a b).mp z) q
theorem EqE.inj (h : EqE n e) {a b : α} (q : e a = e b) : a = b := (h.eq a b).mp (by rw [q]; exact (h.eq b b).mpr rfl)
theorem p_eq (h : EqE n e) {a b : α} [Decidable (a = b)] (hn : n ≤ 60 := by decide) : pEq [e a, e b] = some (fz (.bl (decide (a = b)))) := by
  show (if ((e a).cmp && (e b).cmp) = true then _ else _) = _
  rw [h.cmp hn, h.cmp hn, Bool.and_self, if_pos rfl, h.dec]
theorem p_ne (h : EqE n e) {a b : α} [Decidable (a = b)] (hn : n ≤ 60 := by decide) : pNe [e a, e b] = some (fz (.bl (!decide (a = b)))) := by
  show (if ((e a).cmp && (e b).cmp) = true then _ else _) = _
  rw [h.cmp hn, h.cmp hn, Bool.and_self, if_pos rfl, h.dec]
theorem any_dec' (h : EqE n e) (a : α) : ∀ xs : List α, (((xs.map e).any fun z => pyEq z (e a)) = true ↔ a ∈ xs)
  | [] => by simp
  | x :: xs => by
    rw [List.map_cons, List.any_cons, Bool.or_eq_true, any_dec' h a xs, h.eq, List.mem_cons]
    exact or_congr_left ⟨Eq.symm, Eq.symm⟩
theorem any_dec (h : EqE n e) (a : α) (xs : List α) [Decidable (a ∈ xs)] : ((xs.map e).any fun z => pyEq z (e a)) = decide (a ∈ xs) := by
  rw [Bool.eq_iff_iff, any_dec' h, decide_eq_true_eq]
theorem p_in (h : EqE n e) {a : α} {xs : List α} [Decidable (a ∈ xs)] (hn : n ≤ 59 := by decide) : pInA [e a, .lst (xs.map e)] = some (fz (.bl (decide (a ∈ xs)))) := by
  have : pIn [e a, .lst (xs.map e)] = some (fz (.bl (decide (a ∈ xs)))) := by
    show (if ((e a).cmp && (eL e xs).cmp) = true then _ else _) = _
    rw [h.cmp (by omega), (eq_L h).cmp (by omega), Bool.and_self, if_pos rfl, any_dec h]
  unfold pInA orP
  rw [this]
theorem p_notin (h : EqE n e) {a : α} {xs : List α} [Decidable (a ∈ xs)] (hn : n ≤ 59 := by decide) : pNotInA [e a, .lst (xs.map e)] = some (fz (.bl (!decide (a ∈ xs)))) := by
  have : pNotIn [e a, .lst (xs.map e)] = some (fz (.bl (!decide (a ∈ xs)))) := by
    unfold pNotIn
    have : pIn [e a, .lst (xs.map e)] = some (fz (.bl (decide (a ∈ xs)))) := by
      show (if ((e a).cmp && (eL e xs).cmp) = true then _ else _) = _
      rw [h.cmp (by omega), (eq_L h).cmp (by omega), Bool.and_self, if_pos rfl, any_dec h]
    rw [this]
    rfl
  unfold pNotInA orP
  rw [this]
theorem p_inT (h : EqE n e) (hf : ∀ a, (e a).flat = true) {a : α} {xs : List α} [Decidable (a ∈ xs)] : pInA [e a, .tup (xs.map e)] = some (fz (.bl (decide (a ∈ xs)))) := by
  have : pIn [e a, .tup (xs.map e)] = some (fz (.bl (decide (a ∈ xs)))) := by
    show (if ((e a).flat && (xs.map e).all D.flat) = true then _ else _) = _
    rw [if_pos (by rw [hf, Bool.true_and, List.all_map]; exact List.all_eq_true.mpr fun x _ => hf x), any_dec h]
  unfold pInA orP
  rw [this]
@[reducible] def ixO (xs : List α) (i : Int) : Option α := L2.atI xs i
theorem p_ix {xs : List α} {i : Int} {a : α} (h : ixO xs i = some a) : pIxA [.lst (xs.map e), .int i] = some (fz (e a)) := ixL (by rw [atI_map, show L2.atI xs i = some a from h]; rfl)
def slI (xs : List α) (lo hi : Option Int) : List α := (xs.drop (HT.sIx xs.length 0 lo)).take (HT.sIx xs.length xs.length hi - HT.sIx xs.length 0 lo)
theorem p_sl {xs : List α} {lo hi : Option Int} : pSlice lo hi (.lst (xs.map e)) = some (nw (.lst ((slI xs lo hi).map e))) := by
  show some (nw (.lst (((xs.map e).drop _).take _))) = _
  unfold slI
  rw [List.length_map, List.map_take, List.map_drop]
def big : Nat := 16777216
theorem big_eq : sizeLine = big := sizeLine_eq
def addL (a b : List α) : Option (List α) := if a.length + b.length ≤ big then some (a ++ b) else none
theorem addL_of {a b c : List α} (h : addL a b = some c) : a.length + b.length ≤ sizeLine ∧ c = a ++ b := by
  unfold addL at h
  split at h
  · rename_i q; cases h; exact ⟨by rw [big_eq]; exact q, rfl⟩
  · cases h
theorem addL_some {a b : List α} (h : a.length + b.length ≤ big) : addL a b = some (a ++ b) := if_pos h
theorem p_addL {a b c : List α} (h : addL a b = some c) : pAdd [.lst (a.map e), .lst (b.map e)] = some (nw (.lst (c.map e))) := by
  obtain ⟨h1, rfl⟩ := addL_of h
  rw [pAdd_lst (by simpa using h1), List.map_append]
def pushO (a : List α) (x : α) : Option (List α) := if a.length < big then some (a ++ [x]) else none
theorem pushO_some {a : List α} {x : α} (h : a.length < big) : pushO a x = some (a ++ [x]) := if_pos h
theorem p_push {a c : List α} {x : α} (h : pushO a x = some c) : pAppend (.lst (a.map e)) [e x] = some (.non, .lst (c.map e)) := by
  unfold pushO at h
  split at h
  · rename_i q
    cases h
    rw [pAppend_lst (by rw [List.length_map, big_eq]; exact q), List.map_append]
    rfl
  · cases h
theorem p_allA {xs : List β} {f : β → Bool} : pAll [.lst ((xs.map f).map eB)] = some (fz (.bl (xs.all f))) := by
  rw [show (xs.map f).map eB = (xs.map f).map D.bl from rfl, pAll_bls, List.all_map]
  rfl
theorem p_anyA {xs : List β} {f : β → Bool} : pAny [.lst ((xs.map f).map eB)] = some (fz (.bl (xs.any f))) := by
  rw [show (xs.map f).map eB = (xs.map f).map D.bl from rfl, pAny_bls, List.any_map]
  rfl
theorem p_all {xs : List Bool} : pAll [.lst (xs.map eB)] = some (fz (.bl (xs.all id))) := by
  rw [show xs.map eB = xs.map D.bl from rfl, pAll_bls]
theorem p_len {xs : List α} : pLenA [.lst (xs.map e)] = some (fz (.int (xs.length : Int))) := by rw [pLenA_lst, List.length_map]
def addS (a b : Str) : Option Str := if a.length + b.length ≤ big then some (a ++ b) else none
theorem p_addS {a b c : Str} (h : addS a b = some c) : pAdd [.str a, .str b] = some (fz (.str c)) := by
  unfold addS at h
  split at h
  · rename_i q; cases h; exact pAdd_str (by rw [big_eq]; exact q)
  · cases h
def modO (i j : Int) : Option Int := if j ≠ 0 then some (i.fmod j) else none
theorem p_mod {i j k : Int} (h : modO i j = some k) : pMod [.int i, .int j] = some (fz (.int k)) := by
  unfold modO at h
  split at h
  · rename_i q; cases h; exact pMod_int q
  · cases h
@[irreducible] def mulO (i j : Int) : Option Int := if (-(2 ^ 64) < i ∧ i < 2 ^ 64) ∨ (-(2 ^ 64) < j ∧ j < 2 ^ 64) then some (i * j) else none
structure HashE (n : Nat) (e : α → D) : Prop where
  inj : ∀ a b, e a = e b → a = b
  hash : ∀ a, hashN n (e a) = true
theorem hashN_mono : ∀ (n : Nat) (d : D), hashN n d = true → hashN (n + 1) d = true
  | n, .non, _ => by simp
  | n, .int _, _ => by simp
  | n, .str _, _ => by simp
  | n + 1, .tup l, h => by
    rw [hashN_tup] at h ⊢
    exact List.all_eq_true.mpr fun x hx => hashN_mono n x (List.all_eq_true.mp h x hx)
  | 0, .tup _, h => by cases h
  | 0, .lst _, h => by cases h
  | 0, .bl _, h => by cases h
  | 0, .dic _, h => by cases h
  | 0, .obj _ _, h => by cases h
  | 0, .scr _, h => by cases h
  | 0, .adr _, h => by cases h
  | _ + 1, .lst _, h => by cases h
  | _ + 1, .bl _, h => by cases h
  | _ + 1, .dic _, h => by cases h
  | _ + 1, .obj _ _, h => by cases h
  | _ + 1, .scr _, h => by cases h
  | _ + 1, .adr _, h => by cases h
theorem hashN_le {n m : Nat} (h : n ≤ m) {d : D} (k : hashN n d = true) : hashN m d = true := by
  induction h with
  | refl => exact k
  | step _ ih => exact hashN_mono _ _ ih
theorem ha_I : HashE 0 eI := ⟨fun _ _ e => D.int.inj e, fun _ => rfl⟩
theorem ha_S : HashE 0 eS := ⟨fun _ _ e => D.str.inj e, fun _ => rfl⟩
theorem ha_T3 {o : Nat} {a : α → D} {b : β → D} {c : γ → D} (h : HashE n a) (k : HashE m b) (l : HashE o c) : HashE (max n (max m o) + 1) (eT3 a b c) := ⟨fun p q z => by
  obtain ⟨p1, p2, p3⟩ := p
  obtain ⟨q1, q2, q3⟩ := q
  have := D.tup.inj z
  simp only [List.cons.injEq, and_true] at this
  rw [h.inj _ _ this.1, k.inj _ _ this.2.1, l.inj _ _ this.2.2], fun p => by
  show [a p.1, b p.2.1, c p.2.2].all (hashN (max n (max m o))) = true
  simp [hashN_le (show n ≤ max n (max m o) by omega) (h.hash p.1), hashN_le (show m ≤ max n (max m o) by omega) (k.hash p.2.1), hashN_le (show o ≤ max n (max m o) by omega) (l.hash p.2.2)]⟩
theorem HashE.key {e : α → D} (h : HashE n e) (ht : ∀ a, ∃ l, e a = .tup l) (hn : n ≤ 8 := by decide) : KeyE true e := ⟨h.inj, fun a => by
  obtain ⟨l, hl⟩ := ht a
  rw [hl]
  exact keyB_of (by rw [← hl]; exact hashN_le hn (h.hash a))⟩
theorem ky_T3 {a : α → D} {b : β → D} {c : γ → D} (h : HashE n (eT3 a b c)) (hn : n ≤ 8 := by decide) : KeyE true (eT3 a b c) := h.key (fun a => ⟨_, rfl⟩) hn
structure SortE (n : Nat) (e : α → D) : Prop where
  dat : ∀ a, (e a).dat = true ∧ (e a).py.depth ≤ n
  al : ∀ a b, PySem.W.alike (e a).py (e b).py = true
theorem so_I : SortE 0 eI := ⟨fun _ => ⟨rfl, Nat.le_refl _⟩, fun _ _ => rfl⟩
theorem so_S : SortE 0 eS := ⟨fun _ => ⟨rfl, Nat.le_refl _⟩, fun _ _ => rfl⟩
theorem so_T3 {o : Nat} {a : α → D} {b : β → D} {c : γ → D} (h : SortE n a) (k : SortE m b) (l : SortE o c) : SortE (max n (max m o) + 1) (eT3 a b c) := ⟨fun p => by
  obtain ⟨h1, h2⟩ := h.dat p.1
  obtain ⟨k1, k2⟩ := k.dat p.2.1
  obtain ⟨l1, l2⟩ := l.dat p.2.2
  refine ⟨?_, ?_⟩
  · show ((a p.1).dat && ((b p.2.1).dat && ((c p.2.2).dat && true))) = true
    rw [h1, k1, l1]; rfl
  · exact Nat.succ_le_succ (Nat.max_le.mpr ⟨by omega, Nat.max_le.mpr ⟨by omega, Nat.max_le.mpr ⟨by omega, Nat.zero_le _⟩⟩⟩), fun p q => by
  show (PySem.W.alike (a p.1).py (a q.1).py && (PySem.W.alike (b p.2.1).py (b q.2.1).py && (PySem.W.alike (c p.2.2).py (c q.2.2).py && true))) = true
  rw [h.al, k.al, l.al]; rfl⟩
def ItOk (l : List D) : Prop := (∀ d ∈ l, ∃ x r, d = .tup (x :: r)) ∨ ∀ d ∈ l, d ≠ .non ∧ ∀ xs, d ≠ .tup xs
theorem SortE.ok {e : α → D} (h : SortE n e) {l : List α} (hi : ItOk (l.map e)) (hn : n ≤ 8 := by decide) : sortOk (l.map e) := by
  refine ⟨?_, ?_, ?_⟩
  · rw [List.map_map]; exact PySem.W.AllAlike.of fun a b => h.al a b
  · rcases hi with hi | hi
    · refine .inl fun d hd => ?_
      obtain ⟨x, hx, rfl⟩ := List.mem_map.mp hd
      obtain ⟨y, r, rfl⟩ := hi x hx
      exact ⟨_, _, rfl⟩
    · refine .inr fun d hd => ?_
      obtain ⟨x, hx, rfl⟩ := List.mem_map.mp hd
      obtain ⟨h1, h2⟩ := hi x hx
      cases x with
      | non => exact absurd rfl h1
      | tup xs => exact absurd rfl (h2 xs)
      | bl _ => exact ⟨PyData.noConfusion, fun _ => PyData.noConfusion⟩
      | int _ => exact ⟨PyData.noConfusion, fun _ => PyData.noConfusion⟩
      | str _ => exact ⟨PyData.noConfusion, fun _ => PyData.noConfusion⟩
      | lst _ => exact ⟨PyData.noConfusion, fun _ => PyData.noConfusion⟩
      | dic _ => exact ⟨PyData.noConfusion, fun _ => PyData.noConfusion⟩
      | obj _ _ => exact ⟨PyData.noConfusion, fun _ => PyData.noConfusion⟩
      | scr _ => exact ⟨PyData.noConfusion, fun _ => PyData.noConfusion⟩
      | adr _ => exact ⟨PyData.noConfusion, fun _ => PyData.noConfusion⟩
  · intro d hd
    obtain ⟨x, _, rfl⟩ := List.mem_map.mp hd
    obtain ⟨h1, h2⟩ := h.dat x
    exact ⟨h1, by omega⟩
theorem it_T3 {a : α → D} {b : β → D} {c : γ → D} (l : List (α × β × γ)) : ItOk (l.map (eT3 a b c)) := .inl fun d hd => by obtain ⟨x, _, rfl⟩ := List.mem_map.mp hd; exact ⟨_, _, rfl⟩
theorem p_sort {e : α → D} (h : SortE n e) {l : List α} (hi : ItOk (l.map e)) (hn : n ≤ 8 := by decide) : pSortedA [.lst (l.map e)] = some (nw (.lst ((sortE e l).map e))) := sorted_enc (h.ok hi hn)
noncomputable def dictOf {K : Type} (ps : List (K × β)) : List (K × β) := ps.foldl (fun a q => tdput a q.1 q.2) []
theorem p_lenD {K : Type} {ek : K → D} {ev : β → D} {d : List (K × β)} : pLenA [.dic (d.map (encDi ek ev))] = some (fz (.int (d.length : Int))) := by rw [pLenA_dic, List.length_map]
end
end Ev
set_option Elab.async false
set_option linter.all false
set_option autoImplicit false
set_option maxRecDepth 100000
set_option maxHeartbeats 1000000
namespace Ev
open PySem
section
variable {α β γ K : Type} {Γ Δ Ε : Ga} {mo no mk mv : Sx Opd} {o : Opd} {ms : List (Sx Opd)} {os : List Opd}
theorem p_rev {e : α → D} {xs : List α} : pRev [.lst (xs.map e)] = some (nw (.lst (xs.reverse.map e))) := by
  show some (nw (.lst (xs.map e).reverse)) = _
  rw [List.map_reverse]
theorem q_zipI {e1 : α → D} {e2 : β → D} {xs : List α} {ys : List β} (h : XQ Γ mo o Δ) (k : XQ Δ no (.dt (.lst (ys.map e2))) Ε) (hr : Ga.res Ε o = some (.lst (xs.map e1)) := by rfl) : XQ Γ (sZip mo no) ⟨(xs.zip ys).map (eT2 e1 e2), chkOf o (.lst (xs.map e1))⟩ Ε := (q_zipL h k hr).of (by
  congr 1
  unfold zipItems
  rw [List.zip_map, List.map_map]
  rfl)
def signsT (z : Str) : List Str := z.cps.toList.map fun c => (⟨#[c]⟩ : Str)
theorem q_seqSt {z : Str} (h : XQ Γ mo o Δ) (hr : Ga.res Δ o = some (.str z) := by rfl) : XQ Γ (sSeq mo) ⟨(signsT z).map eS, none⟩ Δ := (q_seqS h hr).of (by
  congr 1
  unfold signs signsT
  rw [List.map_map]
  rfl)
theorem p_isnotB {a b : Bool} : pIsNot [.bl a, .bl b] = some (fz (.bl (!decide (a = b)))) := by
  cases a <;> cases b <;> (unfold pIsNot; simp)
theorem q_tt : XQ Γ tTrue true Γ := fun e he => ⟨e, rfl, he⟩
theorem eq_P {n m : Nat} {a : α → D} {b : β → D} (h : EqE n a) (k : EqE m b) (x : ∀ i j, pyEq (a i) (b j) = false ∧ pyEq (b j) (a i) = false) : EqE (max n m) (eP a b) := ⟨fun p => by
  cases p with
  | inl i => obtain ⟨h1, h2⟩ := h.dat i; exact ⟨h1, by show (a i).py.depth ≤ _; omega⟩
  | inr j => obtain ⟨h1, h2⟩ := k.dat j; exact ⟨h1, by show (b j).py.depth ≤ _; omega⟩, fun p q => by
  cases p with
  | inl i =>
    cases q with
    | inl j => simpa using h.eq i j
    | inr j => simp [(x i j).1]
  | inr i =>
    cases q with
    | inl j => simp [(x j i).2]
    | inr j => simpa using k.eq i j⟩
def inS (x z : Str) : Option Bool := match x.cps.toList with
  | [c] => some (decide (c ∈ z.cps.toList))
  | _ => none
theorem p_inS {x z : Str} {b : Bool} (h : inS x z = some b) : pInA [.str x, .str z] = some (fz (.bl b)) := by
  have : pIn [.str x, .str z] = some (fz (.bl b)) := by
    unfold inS at h
    show (match x.cps.toList with | [c] => some (fz (.bl (decide (c ∈ z.cps.toList)))) | _ => none) = _
    split at h
    · rename_i c q
      cases h
      rfl
    · cases h
  unfold pInA orP
  rw [this]
@[reducible] def eC (l : List Int) : D := .scr l
theorem p_ixC {xs : List Int} {i a : Int} (h : ixO xs i = some a) : pIxA [.scr xs, .int i] = some (fz (.int a)) := by
  rw [pIxA_scr, show L2.atI xs i = some a from h]; rfl
noncomputable def dcompO (p : α → Bool) (f : α → Option (K × β)) (xs : List α) : Option (List (K × β)) :=
  if xs.length ≤ big then (compO (fun x => if p x = true then (f x).map some else some none) xs).map dictOf else none
theorem q_dcomp {vs : List Nat} {tg : Tg} {s : Sx Src} {t : Sx Bool} {mk mv : Sx Opd} {ei : α → D} {ek : K → D} {ev : β → D} {b : Bool} {xs : List α} {ck : Option (Nat × D)} {d : List (K × β)} (E : KeyE b ek) (p : α → Bool) (f : α → Option (K × β)) (hd : dcompO p f xs = some d) (hs : XQ Γ s ⟨xs.map ei, ck⟩ Δ) (hk : Δ.ckOk vs ck) (hh : Δ.hid vs = true) (ht : tg.ix.all vs.contains = true)
    (Θ : α → Ga) (hset : ∀ x, Ga.setTg tg (ei x) (Δ.wipe vs) = some (Θ x)) (h1 : ∀ x, XQ (Θ x) t (p x) (Θ x)) (h2 : ∀ x y, f x = some y → XQ (Θ x) mk (.dt (ek y.1)) (Θ x) ∧ XQ (Θ x) mv (.dt (ev y.2)) (Θ x)) (l : ∀ x, Le ((Θ x).wipe vs) (Δ.wipe vs)) : XQ Γ (sDComp vs tg s t mk mv) (nw (.dic (d.map (encDi ek ev)))) Δ := by
  refine hs.bnd fun e he0 => ?_
  unfold dcompO at hd
  split at hd
  · rename_i hl
    obtain ⟨ys, hy, rfl⟩ := Option.map_eq_some_iff.mp hd
    have key : ∀ (l' : List α) (ys : List (K × β)) (acc : List (K × β)) (e : En), Fits (Δ.wipe vs) e → compO (fun x => if p x = true then (f x).map some else some none) l' = some ys → acc.length + l'.length ≤ big → ∃ e', dcGo ⟨xs.map ei, ck⟩ vs tg t mk mv (l'.map ei) (acc.map (encDi ek ev)) e = .ok ((ys.foldl (fun a q => tdput a q.1 q.2) acc).map (encDi ek ev)) e' ∧ Fits (Δ.wipe vs) e' := by
      intro l'
      induction l' with
      | nil =>
        intro ys acc e hf hc _
        cases hc
        refine ⟨e, ?_, hf⟩
        show dcGo _ vs tg t mk mv [] _ e = _
        unfold dcGo
        rw [if_pos (hk.ok hf)]
        rfl
      | cons x l' ih =>
        intro ys acc e hf hc hn
        rw [List.length_cons] at hn
        obtain ⟨z, hz, hc2⟩ := Option.bind_eq_some_iff.mp (show ((if p x = true then (f x).map some else some none).bind fun r => (compO (fun x => if p x = true then (f x).map some else some none) l').map fun ys => r.toList ++ ys) = some ys from hc)
        obtain ⟨ys', hy', rfl⟩ := Option.map_eq_some_iff.mp hc2
        obtain ⟨e1, a1, a2⟩ := hf.setTg (hset x)
        obtain ⟨e2, a3, a4⟩ := h1 x e1 a2
        have hgo : dcGo ⟨xs.map ei, ck⟩ vs tg t mk mv ((x :: l').map ei) (acc.map (encDi ek ev)) e = ((noX t e1).bind fun k e2 => if k = true then ((noX mk e2).bind fun o e3 => (noX mv e3).bind fun o2 e4 => match o, o2 with
            | .dt kd, .dt d => if dkOk (acc.map (encDi ek ev)) kd = true ∧ (acc.map (encDi ek ev)).length < sizeLine then dcGo ⟨xs.map ei, ck⟩ vs tg t mk mv (l'.map ei) (dput (acc.map (encDi ek ev)) kd d) (wipeE vs e4) else .stuck
            | _, _ => .stuck)
            else dcGo ⟨xs.map ei, ck⟩ vs tg t mk mv (l'.map ei) (acc.map (encDi ek ev)) (wipeE vs e2)) := by
          rw [List.map_cons]
          conv => lhs; unfold dcGo
          rw [if_pos (hk.ok hf), a1]
          all_goals (cases l' <;> rfl)
        cases hp : p x with
        | false =>
          rw [hp, if_neg Bool.false_ne_true] at hz
          cases hz
          obtain ⟨e3, b1, b2⟩ := ih ys' acc (wipeE vs e2) ((a4.wipe vs).le (l x)) hy' (by omega)
          refine ⟨e3, ?_, b2⟩
          rw [hgo, noX_of a3, Out.bind_ok, hp, if_neg Bool.false_ne_true, b1]
          rfl
        | true =>
          rw [hp, if_pos rfl] at hz
          obtain ⟨y, hy2, rfl⟩ := Option.map_eq_some_iff.mp hz
          obtain ⟨c1, c2⟩ := h2 x y hy2
          obtain ⟨e3, c3, c4⟩ := c1 e2 a4
          obtain ⟨e4, c5, c6⟩ := c2 e3 c4
          have hd := tdput_len acc y.1 y.2
          obtain ⟨e5, b1, b2⟩ := ih ys' (tdput acc y.1 y.2) (wipeE vs e4) ((c6.wipe vs).le (l x)) hy' (by omega)
          refine ⟨e5, ?_, b2⟩
          rw [hgo, noX_of a3, Out.bind_ok, hp, if_pos rfl, noX_of c3, Out.bind_ok, noX_of c5, Out.bind_ok]
          show (if dkOk (acc.map (encDi ek ev)) (ek y.1) = true ∧ (acc.map (encDi ek ev)).length < sizeLine then dcGo ⟨xs.map ei, ck⟩ vs tg t mk mv (l'.map ei) (dput (acc.map (encDi ek ev)) (ek y.1) (ev y.2)) (wipeE vs e4) else .stuck) = _
          rw [if_pos ⟨dk_enc E acc y.1, by rw [List.length_map, big_eq]; omega⟩, tdput_enc E, b1]
          rfl
    obtain ⟨e', k1, k2⟩ := key xs ys [] _ (he0.wipe vs) hy (by simpa using hl)
    refine ⟨restoreE vs e e', ?_, he0.restore k2 fun _ _ => rfl⟩
    show (if _ then _ else _) = _
    rw [if_pos (by rw [he0.hid hh, hk.apart, ht]; rfl)]
    show (dcGo ⟨xs.map ei, ck⟩ vs tg t mk mv (xs.map ei) ([].map (encDi ek ev)) (wipeE vs e)).bind _ = _
    rw [k1]
    rfl
  · cases hd
end
structure Bx where
  row : List Int
  at' : Int
def encBx (b : Bx) : D := .lst [.lst (b.row.map D.int), .int b.at']
end Ev
set_option Elab.async false
set_option linter.all false
set_option autoImplicit false
set_option maxRecDepth 100000
set_option maxHeartbeats 1000000
namespace Ev
open PySem
structure Nd where
  mv : List (Str × Int)
  fb : List Str
  cl : List (List Str)
deriving DecidableEq
structure Gd where
  ins : List Str
  outs : List Str
  nd : List Nd
deriving DecidableEq
abbrev Rw := Int × Str × Int
structure Pt where
  n : Int
  rows : List Rw
  fin : List Int
deriving DecidableEq
structure Sv where
  ins : List Str
  outs : List Str
  n : Int
  rows : List Rw
  fin : List Int
deriving DecidableEq
structure Lk where
  cap : Int
  ord : Str
  los : Int
  dou : Int
deriving DecidableEq
structure Lks where
  ts : Lk
  tp : Lk
deriving DecidableEq
abbrev W := Int × List Str × List Str × (Int × Int) × (Int × Int)
structure Ses where
  sets : List (List W)
  steps : List (List (Str × Int))
abbrev eRw := eT3 eI eS eI
abbrev eMv := eT2 eS eI
abbrev eW := eT5 eI (eTL eS) (eTL eS) (eT2 eI eI) (eT2 eI eI)
@[reducible] def encNd (n : Nd) : D := .lst [eL eMv n.mv, eL eS n.fb, eL (eL eS) n.cl]
@[reducible] def encGd (g : Gd) : D := .lst [eL eS g.ins, eL eS g.outs, eL encNd g.nd]
@[reducible] def encPt (p : Pt) : D := .lst [.int p.n, eL eRw p.rows, eL eI p.fin]
@[reducible] def encSv (v : Sv) : D := .lst [eL eS v.ins, eL eS v.outs, .int v.n, eL eRw v.rows, eL eI v.fin]
@[reducible] def encLk (l : Lk) : D := .lst [.int l.cap, .str l.ord, .int l.los, .int l.dou]
@[reducible] def obNd (n : Nd) : D := .obj "Node" [("moves", eL eMv n.mv), ("forbidden", eL eS n.fb), ("clauses", eL (eL eS) n.cl)]
@[reducible] def obGd (g : Gd) : D := .obj "Guide" [("inputs", eL eS g.ins), ("outputs", eL eS g.outs), ("nodes", eL obNd g.nd)]
@[reducible] def obPt (p : Pt) : D := .obj "Partner" [("states", .int p.n), ("transitions", eL eRw p.rows), ("final", eL eI p.fin)]
@[reducible] def obSv (v : Sv) : D := .obj "Service" [("inputs", eL eS v.ins), ("outputs", eL eS v.outs), ("states", .int v.n), ("transitions", eL eRw v.rows), ("final", eL eI v.fin)]
@[reducible] def obLk (l : Lk) : D := .obj "Link" [("capacity", .int l.cap), ("order", .str l.ord), ("losses", .int l.los), ("doubles", .int l.dou)]
@[reducible] def obLks (l : Lks) : D := .obj "Links" [("to_service", obLk l.ts), ("to_partner", obLk l.tp)]
@[reducible] def obSes (s : Ses) : D := .obj "Sets" [("sets", eL (eTL eW) s.sets), ("steps", eL (eD eS eI) s.steps)]
section
variable {α β : Type} {n : Nat} {e : β → D} {e' : α → D}
theorem eq_via (f : α → β) (h : EqE n e) (inj : ∀ a b, f a = f b → a = b) (he : ∀ a, e' a = e (f a)) : EqE n e' := ⟨fun a => by rw [he]; exact h.dat _, fun a b => by
  rw [he, he, h.eq]
  exact ⟨inj a b, fun q => by rw [q]⟩⟩
end
theorem eq_Pt : EqE 3 encPt := eq_via (n := 3) (fun n => (n.n, n.rows, n.fin)) (eq_H3 eq_I (eq_L (eq_T3 eq_I eq_S eq_I)) (eq_L eq_I)) (fun a b q => by cases a; cases b; simpa using q) (fun _ => rfl)
end Ev
set_option Elab.async false
set_option linter.all false
set_option autoImplicit false
set_option maxRecDepth 100000
set_option maxHeartbeats 1000000
namespace Ev
open PySem
section
variable {σ τ ρ α β γ : Type}
def St.Is (t : St σ ρ) (N : σ → Prop) (R : ρ → Prop) (E : Str → Prop) : Prop := match t with
  | .nx s => N s
  | .rt r => R r
  | .exc x => E x
  | .no => False
variable {N : σ → Prop} {N' : τ → Prop} {R : ρ → Prop} {E : Str → Prop}
theorem is_nx {s : σ} (h : N s) : (St.nx s : St σ ρ).Is N R E := h
theorem is_rt {r : ρ} (h : R r) : (St.rt r : St σ ρ).Is N R E := h
theorem is_exc {x : Str} (h : E x) : (St.exc x : St σ ρ).Is N R E := h
theorem is_lt {v : α} {f : α → St σ ρ} (h : (f v).Is N R E) : (St.lt v f).Is N R E := h
theorem is_ob {t : Option α} {f : α → St σ ρ} {v : α} (e : t = some v) (h : (f v).Is N R E) : (St.ob t f).Is N R E := by rw [e]; exact h
theorem is_ob' {t : Option α} {f : α → St σ ρ} (Q : α → Prop) (e : ∃ v, t = some v ∧ Q v) (h : ∀ v, Q v → (f v).Is N R E) : (St.ob t f).Is N R E := by
  obtain ⟨v, rfl, q⟩ := e; exact h v q
theorem is_bind {t : St τ ρ} {f : τ → St σ ρ} (h : t.Is N' R E) (k : ∀ s, N' s → (f s).Is N R E) : (t.bind f).Is N R E := by
  cases t with
  | nx s => exact k s h
  | rt r => exact h
  | exc x => exact h
  | no => exact h.elim
theorem St.Is.imp {t : St σ ρ} {M : σ → Prop} {S : ρ → Prop} {F : Str → Prop} (h : t.Is N R E) (a : ∀ s, N s → M s) (b : ∀ s, R s → S s) (c : ∀ s, E s → F s) : t.Is M S F := by
  cases t with
  | nx s => exact a _ h
  | rt r => exact b _ h
  | exc x => exact c _ h
  | no => exact h.elim
theorem is_ite {k : Bool} {a b : St σ ρ} (h1 : k = true → a.Is N R E) (h2 : k = false → b.Is N R E) : (if k = true then a else b).Is N R E := by
  cases k
  · exact h2 rfl
  · exact h1 rfl
theorem is_for {f : σ → α → St σ ρ} {xs : List α} {s0 : σ} (I : Nat → σ → Prop) (h0 : I 0 s0) (step : ∀ k x s, xs[k]? = some x → I k s → (f s x).Is (I (k + 1)) R E) (hN : ∀ s, I xs.length s → N s) : (forT f xs s0).Is N R E := by
  have key : ∀ (ys pre : List α) (s : σ), xs = pre ++ ys → I pre.length s → (forT f ys s).Is (I xs.length) R E := by
    intro ys
    induction ys with
    | nil =>
      intro pre s e hi
      rw [List.append_nil] at e
      subst e
      exact hi
    | cons x ys ih =>
      intro pre s e hi
      have hx : xs[pre.length]? = some x := by rw [e]; simp
      refine is_bind (step pre.length x s hx hi) fun s' hi' => ih (pre ++ [x]) s' (by rw [e]; simp) (by simpa using hi')
  exact (key xs [] s0 rfl h0).imp hN (fun _ h => h) (fun _ h => h)
theorem fo_is {t : St σ ρ} {df : σ → Option ρ} (h : t.Is (fun s => ∃ v, df s = some v ∧ R v) R (fun _ => False)) : ∃ v, t.fo df = some v ∧ R v := by
  cases t with
  | nx s => exact h
  | rt r => exact ⟨r, rfl, h⟩
  | exc x => exact h.elim
  | no => exact h.elim
theorem fo_eq {t : St σ ρ} {df : σ → Option ρ} {v : ρ} (h : t.Is (fun s => df s = some v) (fun r => r = v) (fun _ => False)) : t.fo df = some v := by
  cases t with
  | nx s => exact h
  | rt r => exact congrArg some h
  | exc x => exact h.elim
  | no => exact h.elim
theorem ft_eq {t : St σ ρ} {df : σ → T ρ} {v : ρ} (h : t.Is (fun s => df s = .ok v) (fun r => r = v) (fun _ => False)) : t.ft df = .ok v := by
  cases t with
  | nx s => exact h
  | rt r => exact congrArg T.ok h
  | exc x => exact h.elim
  | no => exact h.elim
theorem ft_exc {t : St σ ρ} {df : σ → T ρ} {x : Str} (h : t.Is (fun s => df s = .exc x) (fun r => False) (fun y => y = x)) : t.ft df = .exc x := by
  cases t with
  | nx s => exact h
  | rt r => exact h.elim
  | exc y => exact congrArg T.exc h
  | no => exact h.elim
@[simp] theorem orO_f {t : Option Bool} : orO false t = t := rfl
@[simp] theorem orO_t {t : Option Bool} : orO true t = some true := rfl
@[simp] theorem andO_f {t : Option Bool} : andO false t = some false := rfl
@[simp] theorem andO_t {t : Option Bool} : andO true t = t := rfl
theorem T.o_of {t : T α} {a : α} (h : t = .ok a) : t.o = some a := by rw [h]; rfl
theorem compO_map {g : α → Option (Option β)} {f : α → β} {xs : List α} (h : ∀ x ∈ xs, g x = some (some (f x))) : compO g xs = some (xs.map f) := by
  induction xs with
  | nil => rfl
  | cons x xs ih =>
    show ((g x).bind fun r => (compO g xs).map fun ys => r.toList ++ ys) = _
    rw [h x (.head _), ih fun y hy => h y (.tail _ hy)]
    rfl
theorem compO_filt {g : α → Option (Option β)} {p : α → Bool} {f : α → β} {xs : List α} (h : ∀ x ∈ xs, g x = some (if p x = true then some (f x) else none)) : compO g xs = some ((xs.filter p).map f) := by
  induction xs with
  | nil => rfl
  | cons x xs ih =>
    show ((g x).bind fun r => (compO g xs).map fun ys => r.toList ++ ys) = _
    rw [h x (.head _), ih fun y hy => h y (.tail _ hy), List.filter_cons]
    cases p x <;> rfl
theorem compS_sub {g : α → σ → Option (Option α × σ)} (I : σ → Prop) : ∀ (xs : List α) (s : σ), I s → (∀ x ∈ xs, ∀ s, I s → ∃ r s', g x s = some (r, s') ∧ (r = some x ∨ r = none) ∧ I s') → ∃ ys s', compS g xs s = some (ys, s') ∧ ys.Sublist xs ∧ I s'
  | [], s, hi, _ => ⟨[], s, rfl, .slnil, hi⟩
  | x :: xs, s, hi, h => by
    obtain ⟨r, s1, h1, h2, h3⟩ := h x (.head _) s hi
    obtain ⟨ys, s2, h4, h5, h6⟩ := compS_sub I xs s1 h3 fun z hz => h z (.tail _ hz)
    refine ⟨r.toList ++ ys, s2, ?_, ?_, h6⟩
    · show ((g x s).bind fun r => (compS g xs r.2).map fun ys => (r.1.toList ++ ys.1, ys.2)) = _
      rw [h1]
      show (compS g xs s1).map _ = _
      rw [h4]
      rfl
    · rcases h2 with rfl | rfl
      · exact h5.cons₂ x
      · exact h5.cons x
theorem rangeO_of {i j : Int} (h : -(2 ^ 62) ≤ i ∧ i < 2 ^ 62 ∧ -(2 ^ 62) ≤ j ∧ j < 2 ^ 62) (h2 : (j - i).toNat ≤ 16777216) : rangeO i j = some ((List.range (j - i).toNat).map fun k : Nat => i + (k : Int)) := by
  unfold rangeO
  rw [if_pos ⟨h, h2⟩]
theorem rangeO_nat {n : Nat} (h : n ≤ 100000) : rangeO 0 (n : Int) = some ((List.range n).map fun k : Nat => (k : Int)) := by
  rw [rangeO_of (by omega) (by omega)]
  simp
theorem ixO_nat {xs : List α} {i : Int} {n : Nat} {a : α} (hi : i = n) (h : xs[n]? = some a) : ixO xs i = some a := by
  have hl := (List.getElem?_eq_some_iff.mp h).1
  show L2.atI xs i = some a
  rw [atI_nat hi hl, ← h, List.getElem?_eq_getElem hl]
theorem ixO_ex {xs : List α} {i : Int} (h : 0 ≤ i ∧ i < xs.length) : ∃ a, ixO xs i = some a ∧ a ∈ xs ∧ xs[i.toNat]? = some a := by
  have hl : i.toNat < xs.length := by omega
  exact ⟨xs[i.toNat], ixO_nat (n := i.toNat) (by omega) (List.getElem?_eq_getElem hl), List.getElem_mem hl, List.getElem?_eq_getElem hl⟩
theorem slI_drop1 (xs : List α) : slI xs (some 1) none = xs.drop 1 := by
  unfold slI HT.sIx
  cases xs with
  | nil => simp
  | cons x xs => simp
theorem ite_som {b : Bool} {a : α} : (if b = true then Option.map some (some a) else some none) = some (if b = true then some a else none) := by cases b <;> rfl
end
end Ev
set_option Elab.async false
set_option linter.all false
set_option autoImplicit false
set_option maxRecDepth 100000
set_option maxHeartbeats 1000000
namespace Ev
section
variable {α β L : Type} [DecidableEq α]
variable {succ : α → List (L × α)} {nxt : α → β → L → β} {o0 : List (α × β)}
inductive Pth (succ : α → List (L × α)) (a : α) : List L → α → Prop
  | nil : Pth succ a [] a
  | snoc {w : List L} {x y : α} {l : L} : Pth succ a w x → (l, y) ∈ succ x → Pth succ a (w ++ [l]) y
def Rch (succ : α → List (L × α)) (a x : α) : Prop := ∃ w, Pth succ a w x
theorem Rch.refl {a : α} : Rch succ a a := ⟨[], .nil⟩
theorem Rch.step {a x y : α} {l : L} (h : Rch succ a x) (k : (l, y) ∈ succ x) : Rch succ a y := let ⟨w, h⟩ := h; ⟨_, .snoc h k⟩
structure Lev (len : β → Nat) (succ : α → List (L × α)) (k : Nat) (o : List (α × β)) : Prop where
  pw : o.Pairwise fun p q => len p.2 ≤ len q.2
  top : ∀ i p, i + 1 = k → o[i]? = some p → ∀ q ∈ o, len q.2 ≤ len p.2 + 1
  nx : ∀ i p, i < k → o[i]? = some p → ∀ y ∈ succ p.1, ∃ q ∈ o, q.1 = y.2 ∧ len q.2 ≤ len p.2 + 1
theorem nodup_le {l m : List α} (h : l.Nodup) (s : ∀ x ∈ l, x ∈ m) : l.length ≤ m.length := by
  induction l generalizing m with
  | nil => exact Nat.zero_le _
  | cons a l ih =>
    have ha := s a (.head _)
    have hm : (m.erase a).length + 1 = m.length := by
      rw [List.length_erase_of_mem ha]
      have : 0 < m.length := List.length_pos_of_mem ha
      omega
    have := ih (m := m.erase a) (List.nodup_cons.mp h).2 fun x hx => by
      have hne : x ≠ a := fun e => (List.nodup_cons.mp h).1 (e ▸ hx)
      exact (List.mem_erase_of_ne hne).mpr (s x (.tail _ hx))
    rw [List.length_cons]
    omega
end
end Ev
set_option Elab.async false
set_option linter.all false
set_option autoImplicit false
set_option maxRecDepth 100000
set_option maxHeartbeats 1000000
namespace Ev
section
variable {α L γ : Type} [DecidableEq α]
def addN (o : List α) (y : α) : List α := if y ∈ o then o else o ++ [y]
theorem addN_old {o : List α} {y : α} (h : y ∈ o) : addN o y = o := if_pos h
theorem addN_new {o : List α} {y : α} (h : y ∉ o) : addN o y = o ++ [y] := if_neg h
theorem foldN_mem : ∀ (ys : List α) (o : List α) (x : α), x ∈ ys.foldl addN o ↔ x ∈ o ∨ x ∈ ys
  | [], o, x => by simp
  | y :: ys, o, x => by
    rw [List.foldl_cons, foldN_mem ys]
    unfold addN
    split
    · grind
    · grind
variable {succ : α → List (L × α)} {a : α}
end
end Ev
set_option Elab.async false
set_option linter.all false
set_option autoImplicit false
set_option maxRecDepth 100000
namespace Ev
open PySem
set_option synthInstance.maxSize 40000
set_option synthInstance.maxHeartbeats 4000000
instance instTold : DecidableEq (Str × (Str ⊕ Option (List (List (Int × List Str × List Str × (Int × Int) × (Int × Int)) × (Int × List Str × List Str × (Int × Int) × (Int × Int)))))) := inferInstance
end Ev
set_option Elab.async false
set_option linter.all false
set_option autoImplicit false
set_option maxRecDepth 100000
namespace Ev
open PySem
end Ev
set_option Elab.async false
set_option linter.all false
set_option autoImplicit false
set_option maxRecDepth 100000
namespace Ev
open PySem
end Ev
set_option Elab.async false
set_option linter.all false
set_option autoImplicit false
set_option maxRecDepth 100000
namespace Ev
open PySem
def XF {β : Type} (Θ : Ga) (Γ : Ga) (m : Sx β) (r : Str) : Prop := ∀ e, Fits Γ e → ∃ e', m e = .exc (talkE r) e' ∧ Fits Θ e'
section
variable {N : Nat} {β γ σ τ ρ α : Type} {Θ Γ Δ : Ga} {Γn : σ → Ga} {R : ρ → Vl → En → Prop} {m : Sx Vl} {mo : Sx Opd} {o : Opd} {os : List Opd} {ms : List (Sx Opd)} {ds : List D} {r : Str} {i : Nat} {s : SS}
theorem XF.bnd {m : Sx β} {f : β → Sx γ} {b : β} (h : XQ Γ m b Δ) (k : XF Θ Δ (f b) r) : XF Θ Γ (fun e => (m e).bind f) r := fun e he => by
  obtain ⟨e1, h1, h2⟩ := h e he
  obtain ⟨e2, h3, h4⟩ := k e1 h2
  exact ⟨e2, by show (m e).bind f = _; rw [h1, Out.bind_ok, h3], h4⟩
end
end Ev
set_option Elab.async false
set_option linter.all false
set_option autoImplicit false
set_option maxRecDepth 100000
namespace Ev
open PySem
structure Cv where
  g : Gd
  ls : List Str
  ns : List Int
deriving DecidableEq
@[reducible] def obCv (c : Cv) : D := .obj "Conversation" [("guide", obGd c.g), ("labels", eL eS c.ls), ("nodes", eL eI c.ns)]
section
variable {N : Nat} {σ ρ α β : Type} {Γ Δ : Ga} {Γn : σ → Ga} {R : ρ → Vl → En → Prop} {b : SS} {mo : Sx Opd} {m : Sx Vl} {tg : Tg} {t : St σ ρ}
end
section
variable {c : Str} {e e1 e2 e3 : En} {m1 m2 m3 : Sx Opd} {d1 d2 d3 d : D} {B : D → List D → ResB}
end
end Ev
set_option Elab.async false
set_option linter.all false
set_option autoImplicit false
set_option maxRecDepth 100000
set_option maxHeartbeats 1000000
namespace Ev
open PySem
section
variable {N : Nat} {σ τ ρ α β γ : Type} {Γ Δ Ε : Ga} {Γn : σ → Ga} {Γ1 : τ → Ga} {R : ρ → Vl → En → Prop} {a b c s : SS} {m : Sx Vl} {v : Vl} {i : Nat} {r : Str} {t : St σ ρ} {ct : Sx Bool} {k : Bool}
theorem y_forR {tg : Tg} {ei : α → D} {xs : List α} {s0 : σ} {f : σ → α → St σ ρ} (h0 : Γ[i]? = some (.R (.lst (xs.map ei)))) (l : Le Γ (Γn s0)) (Θ : σ → α → Ga) (hset : ∀ z x, Ga.setTg tg (ei x) (Γn z) = some (Θ z x)) (hb : ∀ z x, Y N (Θ z x) b (f z x) Γn R) : Y N Γ (sForR tg i b) (forT f xs s0) Γn R := fun e he => by
  have h := y_for (sr := fun e => .ok ⟨xs.map ei, none⟩ e) (Δ := Γ) (fun e he => ⟨e, rfl, he⟩) l Θ hset hb e he
  obtain ⟨sl, h1, h2⟩ := he.get h0
  cases (show sl = .ro _ from h2)
  have eq : sForR tg i b e = sFor tg (fun e => .ok ⟨xs.map ei, none⟩ e) b e := by
    unfold sForR sFor
    rw [h1]
  cases q : forT f xs s0 <;> (rw [q] at h; first | trivial | (simp only [eq]; exact h))
variable {V : ρ → Vl} {X : ρ → D} {q : ρ} {modes : List Bool} {n : Nat} {ds : List D} {tt : SS} {d0 : D} {mm : Nat} {df : σ → Option ρ} {dt : σ → T ρ}
def startGBM (modes : List Bool) (d0 : D) (ds : List D) (n : Nat) : Ga := .B d0 :: startG modes ds (n - 1)
theorem fits_startBM (modes : List Bool) (d0 : D) (ds : List D) (n : Nat) : Fits (startGBM modes d0 ds n) (startBM modes d0 ds n) := ⟨rfl, fits_start modes ds (n - 1)⟩
theorem runBM_ty {pp : T ρ} (ep : pp = t.ft dt) (hy : Y N Γ tt t Γn (RB V X)) (hd : ∀ x, dt x = .no ∨ (∃ q, dt x = .ok q ∧ V q = fz .non ∧ (Γn x)[0]? = some (.B (X q)))) (hΓ : startGBM modes d0 ds n = Γ := by rfl) (hl : ds.length = modes.length ∧ d0.isObj = true ∧ lentOk modes ds = true := by exact ⟨rfl, rfl, rfl⟩) : (∀ q, pp = .ok q → runBM tt modes n d0 ds = .ok (V q) (X q)) ∧ ∀ r, pp = .exc r → runBM tt modes n d0 ds = .exc (talkE r) := by
  subst hΓ
  subst ep
  have h := hy _ (fits_startBM modes d0 ds n)
  unfold runBM
  rw [if_pos hl]
  cases t with
  | no => exact ⟨fun q z => (by cases z), fun q z => (by cases z)⟩
  | exc r =>
    obtain ⟨e1, z1, _⟩ := h
    refine ⟨fun q z => (by cases z), fun q z => ?_⟩
    cases z
    rw [z1]
  | nx x =>
    obtain ⟨e1, z1, z3⟩ := h
    rw [z1]
    rcases hd x with z | ⟨q', z, z2, z4⟩
    · exact ⟨fun q y => (by rw [show (St.nx x : St σ ρ).ft dt = dt x from rfl, z] at y; cases y), fun q y => (by rw [show (St.nx x : St σ ρ).ft dt = dt x from rfl, z] at y; cases y)⟩
    · refine ⟨fun q y => ?_, fun q y => (by rw [show (St.nx x : St σ ρ).ft dt = dt x from rfl, z] at y; cases y)⟩
      rw [show (St.nx x : St σ ρ).ft dt = dt x from rfl, z] at y
      cases y
      obtain ⟨s, w1, w2⟩ := z3.get z4
      cases (show s = .bx (X q') from w2)
      show boxOf (fz .non) e1 = _
      unfold boxOf
      rw [w1, z2]
  | rt r =>
    obtain ⟨v, e1, z1, z2, z3⟩ := h
    refine ⟨fun q z => ?_, fun q z => (by cases z)⟩
    cases z
    rw [z1, show v = V _ from z2]
    show boxOf (V _) e1 = _
    unfold boxOf
    rw [z3]
end
noncomputable def rawAdd (a b : D) : Option D := match pAdd [a, b] with
  | some ⟨d, true⟩ => some d
  | _ => none
theorem p_rawAdd {a b d : D} (h : rawAdd a b = some d) : pAdd [a, b] = some (nw d) := by
  unfold rawAdd at h
  split at h
  · cases h; assumption
  · cases h
def rawS (F : List D → Res Vl) (ds : List D) : Option Str := match F ds with
  | .ok ⟨.str s, false⟩ => some s
  | _ => none
theorem rawS_ok {F : List D → Res Vl} {ds : List D} {q : Str} (h : rawS F ds = some q) : F ds = .ok (fz (.str q)) := by
  unfold rawS at h
  split at h
  · cases h; assumption
  · cases h
structure Xv where
  a : D
  b : D
  c : D
  d : D
  e : D
@[reducible] def encXv (x : Xv) : D := .lst [x.a, x.b, x.c, x.d, x.e]
structure Xl where
  a : D
  b : D
  c : D
  d : D
@[reducible] def encXl (x : Xl) : D := .lst [x.a, x.b, x.c, x.d]
section
variable {α β γ δ ε : Type}
theorem eq_H4 {n m o u : Nat} {a : α → D} {b : β → D} {c : γ → D} {d : δ → D} (h : EqE n a) (k : EqE m b) (l : EqE o c) (y : EqE u d) : EqE (max n (max m (max o u)) + 1) (eH4 a b c d) := ⟨fun p => by
  obtain ⟨h1, h2⟩ := h.dat p.1
  obtain ⟨k1, k2⟩ := k.dat p.2.1
  obtain ⟨l1, l2⟩ := l.dat p.2.2.1
  obtain ⟨y1, y2⟩ := y.dat p.2.2.2
  refine ⟨?_, ?_⟩
  · show ((a p.1).dat && ((b p.2.1).dat && ((c p.2.2.1).dat && ((d p.2.2.2).dat && true)))) = true
    rw [h1, k1, l1, y1]; rfl
  · exact Nat.succ_le_succ (Nat.max_le.mpr ⟨by omega, Nat.max_le.mpr ⟨by omega, Nat.max_le.mpr ⟨by omega, Nat.max_le.mpr ⟨by omega, Nat.zero_le _⟩⟩⟩⟩), fun p q => by
  have i := h.eq p.1 q.1
  have j := k.eq p.2.1 q.2.1
  have r := l.eq p.2.2.1 q.2.2.1
  have s := y.eq p.2.2.2 q.2.2.2
  unfold pyEq at i j r s
  obtain ⟨p1, p2, p3, p4⟩ := p
  obtain ⟨q1, q2, q3, q4⟩ := q
  simp only [pyEq, eH4, D.py, D.pys, PyData.eqv, PyData.eqvAll, Bool.and_eq_true, Prod.mk.injEq, and_true] at i j r s ⊢
  rw [i, j, r, s]⟩
theorem eq_H5 {n m o u w : Nat} {a : α → D} {b : β → D} {c : γ → D} {d : δ → D} {e : ε → D} (h : EqE n a) (k : EqE m b) (l : EqE o c) (y : EqE u d) (z : EqE w e) : EqE (max n (max m (max o (max u w))) + 1) (eH5 a b c d e) := ⟨fun p => by
  obtain ⟨h1, h2⟩ := h.dat p.1
  obtain ⟨k1, k2⟩ := k.dat p.2.1
  obtain ⟨l1, l2⟩ := l.dat p.2.2.1
  obtain ⟨y1, y2⟩ := y.dat p.2.2.2.1
  obtain ⟨z1, z2⟩ := z.dat p.2.2.2.2
  refine ⟨?_, ?_⟩
  · show ((a p.1).dat && ((b p.2.1).dat && ((c p.2.2.1).dat && ((d p.2.2.2.1).dat && ((e p.2.2.2.2).dat && true))))) = true
    rw [h1, k1, l1, y1, z1]; rfl
  · exact Nat.succ_le_succ (Nat.max_le.mpr ⟨by omega, Nat.max_le.mpr ⟨by omega, Nat.max_le.mpr ⟨by omega, Nat.max_le.mpr ⟨by omega, Nat.max_le.mpr ⟨by omega, Nat.zero_le _⟩⟩⟩⟩⟩), fun p q => by
  have i := h.eq p.1 q.1
  have j := k.eq p.2.1 q.2.1
  have r := l.eq p.2.2.1 q.2.2.1
  have s := y.eq p.2.2.2.1 q.2.2.2.1
  have t := z.eq p.2.2.2.2 q.2.2.2.2
  unfold pyEq at i j r s t
  obtain ⟨p1, p2, p3, p4, p5⟩ := p
  obtain ⟨q1, q2, q3, q4, q5⟩ := q
  simp only [pyEq, eH5, D.py, D.pys, PyData.eqv, PyData.eqvAll, Bool.and_eq_true, Prod.mk.injEq, and_true] at i j r s t ⊢
  rw [i, j, r, s, t]⟩
theorem eq_Sv : EqE 3 encSv := eq_via (n := 3) (fun n => (n.ins, n.outs, n.n, n.rows, n.fin)) (eq_H5 (eq_L eq_S) (eq_L eq_S) eq_I (eq_L (eq_T3 eq_I eq_S eq_I)) (eq_L eq_I)) (fun a b q => by cases a; cases b; simpa using q) (fun _ => rfl)
theorem eq_Lk : EqE 1 encLk := eq_via (n := 1) (fun n => (n.cap, n.ord, n.los, n.dou)) (eq_H4 eq_I eq_S eq_I eq_I) (fun a b q => by cases a; cases b; simpa using q) (fun _ => rfl)
end
end Ev
set_option Elab.async false
set_option linter.all false
set_option autoImplicit false
set_option maxRecDepth 100000
set_option maxHeartbeats 0
namespace Lw
open PySem PySem.Spec PyProof.Rows Ev
open L2 (FunD FnScope FnOk defArgs defBody defScope inClass)
structure Gs (K : PySem.W.Frag) (mg : Str → Option Value) (cl : Str → Option Addr) : Prop where
  hat : HAt K cl at_
  f_ValueError : mg "ValueError" = none
  f_abs : mg "abs" = none
  f_all : mg "all" = none
  f_any : mg "any" = none
  f_bool : mg "bool" = none
  f_int : mg "int" = none
  f_isinstance : mg "isinstance" = none
  f_len : mg "len" = none
  f_list : mg "list" = none
  f_range : mg "range" = none
  f_sorted : mg "sorted" = none
  f_str : mg "str" = none
  f_tuple : mg "tuple" = none
  f_zip : mg "zip" = none
  c_LETTERS : GStr mg "LETTERS" "abcdefghijklmnopqrstuvwxyz"
  c_LONGEST_MESSAGE : GInt mg "LONGEST_MESSAGE" 8
  c_MOST_MESSAGES : GInt mg "MOST_MESSAGES" 3
  c_MOST_PARTNER_STATES : GInt mg "MOST_PARTNER_STATES" 300
  c_MOST_PARTNER_TRANSITIONS : GInt mg "MOST_PARTNER_TRANSITIONS" 2000
  c_MOST_STATES : GInt mg "MOST_STATES" 12
  c_MOST_TRANSITIONS : GInt mg "MOST_TRANSITIONS" 60
  ti : TalkI K cl
noncomputable def t_u_law_cell : SS := (sThen (sIfS (tBool (sPrim pLt [oName 1, oVal (sPrim pLenA [oName 0])])) (sRet (sPrim pIxA [oName 0, oName 1])) sSkip)
   (sRet (sC (.int 0))))
noncomputable def F_u_law_cell : List D → Res Vl := runF t_u_law_cell [false, false] 2
theorem sc_u_law_cell : FnScope ["_law_script", "_law_k"] ["_law_script", "_law_k"] (defScope s_u_law_cell) := _root_.C8.fnScope_by (by kernel_rfl)
theorem d_u_law_cell {P : Program} {w : World} {K : PySem.W.Frag} {mg : Str → Option Value} {base : Heap} {cl : Str → Option Addr} {f : Addr} {fd : FuncData} (G : Gs K mg cl) (F : FnP K "_law_cell" "_law_cell" s_u_law_cell f fd) (TG : TalkG P K mg cl) :
    FnOk P w K mg base CX0' 1 f fd ["_law_script", "_law_k"] (spFn ⟨P, w, K, cl⟩ [false, false] F_u_law_cell) :=
  def_ok (cl := cl) (k := 0) (t := t_u_law_cell) (N := ["_law_script", "_law_k"]) (ps := ["_law_script", "_law_k"]) (modes := [false, false]) F sc_u_law_cell rfl fun cdv A outer s H E hr =>
    have hu := hu65 hr
    have hN : List.Nodup (["_law_script", "_law_k"] : List Str) := sc_u_law_cell.nd
    (zCons (zIf (tCmp cLt (kO 1) (kV (kCallB bLen G.f_len (kCons (kO 0) kNil)))) (zOne (zRet (kIx hu (kO 0) (kO 1)))) zNil)
   (zOne (zRet kInt)))
noncomputable def b0_u_law_row : SS := (sIfS (tBool (sPrim pGt [oName 5, oVal (sC (.int 0))])) (sThen (sDrop (sMeth .lst pAppend [false] 3 [oVal (sPrim pMod [oVal (sPrim pInt [oName 5]), oVal (sC (.int 840))])]))
   (sAsg (sPrim pFdiv [oName 5, oVal (sC (.int 840))]) 5)) sSkip)
noncomputable def b1_u_law_row : SS := (sThen (sAsg (sPrim pMod [oVal (sPrim pInt [oVal (sPrim pAdd [oVal (sPrim pAdd [oVal (sPrim pMul [oName 5, oVal (sC (.int 69069))]), oVal (sPrim pMul [oVal (sC (.int 104729)), oVal (sPrim pAdd [oName 4, oName 6])])]), oVal (sC (.int 1))])]), oVal (sC (.int 4294967291))]) 5)
   (sDrop (sMeth .lst pAppend [false] 3 [oVal (sPrim pMod [oVal (sPrim pInt [oVal (sPrim pFdiv [oName 5, oVal (sC (.int 5003))])]), oVal (sC (.int 840))])])))
noncomputable def b2_u_law_row : SS := (sThen (sAsg (sCall [false, false] F_u_law_cell [oVal (sName 0), oVal (sName 4)]) 5)
   (sThen (sAsg (sPrim pAdd [oVal (sPrim pAbs [oVal (sPrim pMul [oVal (sC (.int 2)), oName 5])]), oVal (sPrim pInt [oVal (sPrim pLt [oName 5, oVal (sC (.int 0))])])]) 5)
   (sIfS (tBool (sPrim pGt [oName 5, oVal (sPrim pPow [oVal (sC (.int 10)), oVal (sC (.int 18))])])) (sFor (.one 6) (sRange [oVal (sC (.int 60))]) b0_u_law_row) (sFor (.one 6) (sRange [oVal (sC (.int 10))]) b1_u_law_row))))
noncomputable def t_u_law_row : SS := (sThen (sAsg (sLst []) 3)
   (sThen (sFor (.one 4) (sRange [oName 1, oName 2]) b2_u_law_row)
   (sRetName 3)))
noncomputable def F_u_law_row : List D → Res Vl := runF t_u_law_row [false, false, false] 7
theorem sc_u_law_row : FnScope ["_law_script", "_law_first", "_law_last", "_law_row_here", "_law_k", "_law_cell_here", "_law_turn"] ["_law_script", "_law_first", "_law_last"] (defScope s_u_law_row) := _root_.C8.fnScope_by (by kernel_rfl)
theorem d_u_law_row {P : Program} {w : World} {K : PySem.W.Frag} {mg : Str → Option Value} {base : Heap} {cl : Str → Option Addr} {f : Addr} {fd : FuncData} (G : Gs K mg cl) (F : FnP K "_law_row" "_law_row" s_u_law_row f fd) (TG : TalkG P K mg cl) (h_u_law_cell : FnD P w K mg base 1 "_law_cell" [false, false].length (spFn ⟨P, w, K, cl⟩ [false, false] F_u_law_cell)) :
    FnOk P w K mg base CX0' 2 f fd ["_law_script", "_law_first", "_law_last"] (spFn ⟨P, w, K, cl⟩ [false, false, false] F_u_law_row) :=
  def_ok (cl := cl) (k := 1) (t := t_u_law_row) (N := ["_law_script", "_law_first", "_law_last", "_law_row_here", "_law_k", "_law_cell_here", "_law_turn"]) (ps := ["_law_script", "_law_first", "_law_last"]) (modes := [false, false, false]) F sc_u_law_row rfl fun cdv A outer s H E hr =>
    have hu := hu65 hr
    have hN : List.Nodup (["_law_script", "_law_first", "_law_last", "_law_row_here", "_law_k", "_law_cell_here", "_law_turn"] : List Str) := sc_u_law_row.nd
    (zCons (zSet hN 3 (kLst kNil))
   (zCons (zFor PassesOwn.never rfl (iRange2 G.f_range (kCons (kO 1) (kCons (kO 2) kNil))) (g1 hN 4) (zCons (zSet hN 5 (kCall h_u_law_cell hr (by decide) (kCons (kV (kN 0)) (kCons (kV (kN 4)) kNil))))
   (zCons (zSet hN 5 (kAdd (kV (kCallB cr_absP G.f_abs (kCons (kV (kMul (kV kInt) (kO 5))) kNil))) (kV (kCallTy cr_intP G.f_int (kCons (kV (kCmp cLt (kO 5) (kV kInt))) kNil)))))
   (zOne (zIf (tCmp cGt (kO 5) (kV (kPow (kV kInt) (kV kInt)))) (zOne (zFor PassesOwn.never rfl (iRange1 G.f_range (kCons (kV kInt) kNil)) (g1 hN 6) (zOne (zIf (tCmp cGt (kO 5) (kV kInt)) (zCons (zExpr (kMeth mAppend 3 (kCons (kV (kMod (kV (kCallTy cr_intP G.f_int (kCons (kO 5) kNil))) (kV kInt))) kNil)))
   (zOne (zSet hN 5 (kFdiv (kO 5) (kV kInt))))) zNil)))) (zOne (zFor PassesOwn.never rfl (iRange1 G.f_range (kCons (kV kInt) kNil)) (g1 hN 6) (zCons (zSet hN 5 (kMod (kV (kCallTy cr_intP G.f_int (kCons (kV (kAdd (kV (kAdd (kV (kMul (kO 5) (kV kInt))) (kV (kMul (kV kInt) (kV (kAdd (kO 4) (kO 6))))))) (kV kInt))) kNil))) (kV kInt)))
   (zOne (zExpr (kMeth mAppend 3 (kCons (kV (kMod (kV (kCallTy cr_intP G.f_int (kCons (kV (kFdiv (kO 5) (kV kInt))) kNil))) (kV kInt))) kNil))))))))))))
   (zOne (zRetName 3))))
noncomputable def t_u_law_draw : SS := (sThen (sAsg (sPrim pIxA [oName 0, oVal (sC (.int 1))]) 2)
   (sThen (sSetI pSetL 0 (oVal (sC (.int 1))) (sPrim pAdd [oName 2, oVal (sC (.int 1))]))
   (sThen (sIfS (tBool (sPrim pLt [oName 2, oVal (sPrim pLenA [oVal (sPrim pIxA [oName 0, oVal (sC (.int 0))])])])) (sRet (sPrim pMod [oVal (sPrim pInt [oVal (sPrim pIxA [oVal (sPrim pIxA [oName 0, oVal (sC (.int 0))]), oName 2])]), oName 1])) sSkip)
   (sRet (sPrim pMod [oVal (sPrim pInt [oVal (sPrim pAdd [oVal (sPrim pMul [oName 2, oVal (sC (.int 5))]), oVal (sC (.int 1))])]), oName 1])))))
noncomputable def F_u_law_draw : D → List D → ResB := runB t_u_law_draw 1 3
theorem sc_u_law_draw : FnScope ["_law_box", "_law_many", "_law_at"] ["_law_box", "_law_many"] (defScope s_u_law_draw) := _root_.C8.fnScope_by (by kernel_rfl)
theorem d_u_law_draw {P : Program} {w : World} {K : PySem.W.Frag} {mg : Str → Option Value} {base : Heap} {cl : Str → Option Addr} {f : Addr} {fd : FuncData} (G : Gs K mg cl) (F : FnP K "_law_draw" "_law_draw" s_u_law_draw f fd) (TG : TalkG P K mg cl) :
    FnOk P w K mg base CX0' 1 f fd ["_law_box", "_law_many"] (spBx ⟨P, w, K, cl⟩ (List.replicate 1 false) F_u_law_draw) :=
  bx_ok (cl := cl) (k := 0) (t := t_u_law_draw) (N := ["_law_box", "_law_many", "_law_at"]) (ps := ["_law_box", "_law_many"]) (m := 1) F sc_u_law_draw rfl fun cdv A outer s H E hr =>
    have hu := hu65 hr
    have hN : List.Nodup (["_law_box", "_law_many", "_law_at"] : List Str) := sc_u_law_draw.nd
    (zCons (zSet hN 2 (kIx hu (kO 0) (kV kInt)))
   (zCons (zSetI set_listP 0 (kV kInt) (kAdd (kO 2) (kV kInt)))
   (zCons (zIf (tCmp cLt (kO 2) (kV (kCallB bLen G.f_len (kCons (kV (kIx hu (kO 0) (kV kInt))) kNil)))) (zOne (zRet (kMod (kV (kCallTy cr_intP G.f_int (kCons (kV (kIx hu (kV (kIx hu (kO 0) (kV kInt))) (kO 2))) kNil))) (kO 1)))) zNil)
   (zOne (zRet (kMod (kV (kCallTy cr_intP G.f_int (kCons (kV (kAdd (kV (kMul (kO 2) (kV kInt))) (kV kInt))) kNil))) (kO 1)))))))
noncomputable def t_u_law_face : SS := (sThen (sAsg (sPrim pIxA [oVal (sLst [oVal (sLst [oVal (sC (.str "a"))]), oVal (sLst [oVal (sC (.str "a")), oVal (sC (.str "b"))]), oVal (sLst []), oVal (sLst [oVal (sC (.str "b"))]), oVal (sLst [oVal (sC (.str "a")), oVal (sC (.str "b"))])]), oVal (sCallB (List.replicate 1 false) F_u_law_draw 0 [oVal (sC (.int 5))])]) 1)
   (sThen (sAsg (sPrim pIxA [oVal (sLst [oVal (sLst [oVal (sC (.str "c"))]), oVal (sLst [oVal (sC (.str "c")), oVal (sC (.str "d"))]), oVal (sLst [oVal (sC (.str "c"))]), oVal (sLst []), oVal (sLst [oVal (sC (.str "d"))])]), oVal (sCallB (List.replicate 1 false) F_u_law_draw 0 [oVal (sC (.int 5))])]) 2)
   (sRet (sLst [oVal (sPrim pList [oName 1]), oVal (sPrim pList [oName 2])]))))
noncomputable def F_u_law_face : D → List D → ResB := runB t_u_law_face 0 3
theorem sc_u_law_face : FnScope ["_law_box", "_law_ins", "_law_outs"] ["_law_box"] (defScope s_u_law_face) := _root_.C8.fnScope_by (by kernel_rfl)
theorem d_u_law_face {P : Program} {w : World} {K : PySem.W.Frag} {mg : Str → Option Value} {base : Heap} {cl : Str → Option Addr} {f : Addr} {fd : FuncData} (G : Gs K mg cl) (F : FnP K "_law_face" "_law_face" s_u_law_face f fd) (TG : TalkG P K mg cl) (h_u_law_draw : FnD P w K mg base 1 "_law_draw" (List.replicate 1 false).length (spBx ⟨P, w, K, cl⟩ (List.replicate 1 false) F_u_law_draw)) :
    FnOk P w K mg base CX0' 2 f fd ["_law_box"] (spBx ⟨P, w, K, cl⟩ (List.replicate 0 false) F_u_law_face) :=
  bx_ok (cl := cl) (k := 1) (t := t_u_law_face) (N := ["_law_box", "_law_ins", "_law_outs"]) (ps := ["_law_box"]) (m := 0) F sc_u_law_face rfl fun cdv A outer s H E hr =>
    have hu := hu65 hr
    have hN : List.Nodup (["_law_box", "_law_ins", "_law_outs"] : List Str) := sc_u_law_face.nd
    (zCons (zSet hN 1 (kIx hu (kV (kLst (kCons (kV (kLst (kCons (kV kStr) kNil))) (kCons (kV (kLst (kCons (kV kStr) (kCons (kV kStr) kNil)))) (kCons (kV (kLst kNil)) (kCons (kV (kLst (kCons (kV kStr) kNil))) (kCons (kV (kLst (kCons (kV kStr) (kCons (kV kStr) kNil)))) kNil))))))) (kV (kCallBx h_u_law_draw hr (by decide) 0 (kCons (kO 0) (kCons (kV kInt) kNil))))))
   (zCons (zSet hN 2 (kIx hu (kV (kLst (kCons (kV (kLst (kCons (kV kStr) kNil))) (kCons (kV (kLst (kCons (kV kStr) (kCons (kV kStr) kNil)))) (kCons (kV (kLst (kCons (kV kStr) kNil))) (kCons (kV (kLst kNil)) (kCons (kV (kLst (kCons (kV kStr) kNil))) kNil))))))) (kV (kCallBx h_u_law_draw hr (by decide) 0 (kCons (kO 0) (kCons (kV kInt) kNil))))))
   (zOne (zRet (kLst (kCons (kV (kCallTy cr_listP G.f_list (kCons (kO 1) kNil))) (kCons (kV (kCallTy cr_listP G.f_list (kCons (kO 2) kNil))) kNil)))))))
noncomputable def b0_u_law_service : SS := (sThen (sAsg (sCallB (List.replicate 1 false) F_u_law_draw 0 [oVal (sC (.int 9))]) 8)
   (sThen (sAsg (sC (.str "tau")) 9)
   (sThen (sIfS (tBool (sPrim pGt [oName 8, oVal (sC (.int 0))])) (sAsg (sPrim pIxA [oName 4, oVal (sPrim pMod [oVal (sPrim pInt [oName 8]), oVal (sPrim pLenA [oName 4])])]) 9) sSkip)
   (sThen (sAsg (sTup [oVal (sCallB (List.replicate 1 false) F_u_law_draw 0 [oVal (sName 3)]), oVal (sName 9), oVal (sCallB (List.replicate 1 false) F_u_law_draw 0 [oVal (sName 3)])]) 10)
   (sIfS (tBool (sPrim pNotInA [oName 10, oName 5])) (sDrop (sMeth .lst pAppend [false] 5 [oVal (sName 10)])) sSkip)))))
noncomputable def t_u_law_service : SS := (sThen (sAsg (sPrim pAdd [oVal (sC (.int 1)), oVal (sCallB (List.replicate 1 false) F_u_law_draw 0 [oVal (sName 2)])]) 3)
   (sThen (sAsg (sPrim pAdd [oVal (sPrim pAdd [oVal (sComp [12] (.one 12) (sSeq (oVal (sPrim pIxA [oName 1, oVal (sC (.int 0))]))) tTrue (oVal (sPrim pAdd [oVal (sC (.str "?")), oName 12]))), oVal (sComp [12] (.one 12) (sSeq (oVal (sPrim pIxA [oName 1, oVal (sC (.int 1))]))) tTrue (oVal (sPrim pAdd [oVal (sC (.str "!")), oName 12])))]), oVal (sLst [oVal (sC (.str "tau"))])]) 4)
   (sThen (sAsg (sLst []) 5)
   (sThen (sFor (.one 6) (sRange [oVal (sCallB (List.replicate 1 false) F_u_law_draw 0 [oVal (sPrim pAdd [oVal (sPrim pMul [oVal (sC (.int 3)), oName 3]), oVal (sC (.int 1))])])]) b0_u_law_service)
   (sThen (sAsg (sComp [11] (.one 11) (sRange [oName 3]) (tBool (sPrim pEq [oVal (sCallB (List.replicate 1 false) F_u_law_draw 0 [oVal (sC (.int 2))]), oVal (sC (.int 0))])) (oVal (sName 11))) 7)
   (sRet (sLst [oVal (sPrim pList [oVal (sPrim pIxA [oName 1, oVal (sC (.int 0))])]), oVal (sPrim pList [oVal (sPrim pIxA [oName 1, oVal (sC (.int 1))])]), oVal (sName 3), oVal (sPrim pSortedA [oName 5]), oVal (sName 7)])))))))
noncomputable def F_u_law_service : D → List D → ResB := runB t_u_law_service 2 13
theorem sc_u_law_service : FnScope ["_law_box", "_law_face_here", "_law_most", "_law_states", "_law_words", "_law_rows", "_law_turn", "_law_final", "_law_kind", "_law_label", "_law_row_here", "_law_s", "_law_m"] ["_law_box", "_law_face_here", "_law_most"] (defScope s_u_law_service) := _root_.C8.fnScope_by (by kernel_rfl)
theorem d_u_law_service {P : Program} {w : World} {K : PySem.W.Frag} {mg : Str → Option Value} {base : Heap} {cl : Str → Option Addr} {f : Addr} {fd : FuncData} (G : Gs K mg cl) (F : FnP K "_law_service" "_law_service" s_u_law_service f fd) (TG : TalkG P K mg cl) (h_u_law_draw : FnD P w K mg base 1 "_law_draw" (List.replicate 1 false).length (spBx ⟨P, w, K, cl⟩ (List.replicate 1 false) F_u_law_draw)) :
    FnOk P w K mg base CX0' 2 f fd ["_law_box", "_law_face_here", "_law_most"] (spBx ⟨P, w, K, cl⟩ (List.replicate 2 false) F_u_law_service) :=
  bx_ok (cl := cl) (k := 1) (t := t_u_law_service) (N := ["_law_box", "_law_face_here", "_law_most", "_law_states", "_law_words", "_law_rows", "_law_turn", "_law_final", "_law_kind", "_law_label", "_law_row_here", "_law_s", "_law_m"]) (ps := ["_law_box", "_law_face_here", "_law_most"]) (m := 2) F sc_u_law_service rfl fun cdv A outer s H E hr =>
    have hu := hu65 hr
    have hN : List.Nodup (["_law_box", "_law_face_here", "_law_most", "_law_states", "_law_words", "_law_rows", "_law_turn", "_law_final", "_law_kind", "_law_label", "_law_row_here", "_law_s", "_law_m"] : List Str) := sc_u_law_service.nd
    (zCons (zSet hN 3 (kAdd (kV kInt) (kV (kCallBx h_u_law_draw hr (by decide) 0 (kCons (kO 0) (kCons (kV (kN 2)) kNil))))))
   (zCons (zSet hN 4 (kAdd (kV (kAdd (kV (kComp [("_law_m", 12)] rfl hN (iSeq1 (kV (kIx hu (kO 1) (kV kInt)))) (fun _ _ _ _ _ => g1 hN 12) CIf.none (fun _ _ _ _ _ => kV (kAdd (kV kStr) (kO 12))))) (kV (kComp [("_law_m", 12)] rfl hN (iSeq1 (kV (kIx hu (kO 1) (kV kInt)))) (fun _ _ _ _ _ => g1 hN 12) CIf.none (fun _ _ _ _ _ => kV (kAdd (kV kStr) (kO 12))))))) (kV (kLst (kCons (kV kStr) kNil)))))
   (zCons (zSet hN 5 (kLst kNil))
   (zCons (zFor PassesOwn.never rfl (iRange1 G.f_range (kCons (kV (kCallBx h_u_law_draw hr (by decide) 0 (kCons (kO 0) (kCons (kV (kAdd (kV (kMul (kV kInt) (kO 3))) (kV kInt))) kNil)))) kNil)) (g1 hN 6) (zCons (zSet hN 8 (kCallBx h_u_law_draw hr (by decide) 0 (kCons (kO 0) (kCons (kV kInt) kNil))))
   (zCons (zSet hN 9 kStr)
   (zCons (zIf (tCmp cGt (kO 8) (kV kInt)) (zOne (zSet hN 9 (kIx hu (kO 4) (kV (kMod (kV (kCallTy cr_intP G.f_int (kCons (kO 8) kNil))) (kV (kCallB bLen G.f_len (kCons (kO 4) kNil)))))))) zNil)
   (zCons (zSet hN 10 (kTup (kCons (kV (kCallBx h_u_law_draw hr (by decide) 0 (kCons (kO 0) (kCons (kV (kN 3)) kNil)))) (kCons (kV (kN 9)) (kCons (kV (kCallBx h_u_law_draw hr (by decide) 0 (kCons (kO 0) (kCons (kV (kN 3)) kNil)))) kNil)))))
   (zOne (zIf (tCmp (cNotIn hu) (kO 10) (kO 5)) (zOne (zExpr (kMeth mAppend 5 (kCons (kV (kN 10)) kNil)))) zNil)))))))
   (zCons (sCompS [("_law_s", 11)] 7 rfl hN (iRange1 G.f_range (kCons (kO 3) kNil)) (fun _ _ _ _ _ => g1 hN 11) (CIf.one (fun _ _ _ _ _ => tCmp (cEq hu) (kV (kCallBx h_u_law_draw hr (by decide) 0 (kCons (kO 0) (kCons (kV kInt) kNil)))) (kV kInt))) (fun _ _ _ _ _ => kV (kN 11)))
   (zOne (zRet (kLst (kCons (kV (kCallTy cr_listP G.f_list (kCons (kV (kIx hu (kO 1) (kV kInt))) kNil))) (kCons (kV (kCallTy cr_listP G.f_list (kCons (kV (kIx hu (kO 1) (kV kInt))) kNil))) (kCons (kV (kN 3)) (kCons (kV (kCallB (bSorted rfl hu) G.f_sorted (kCons (kO 5) kNil))) (kCons (kV (kN 7)) kNil)))))))))))))
noncomputable def t_is_message : SS := (sThen (sIfS (Ev.tOr (Ev.tNot (tVal (oVal (sPrim (pIsi (fIsi "str")) [oName 0])))) (Ev.tNot (tBool (sChain pLe pLe (oVal (sC (.int 1))) (oVal (sPrim pLenA [oName 0])) (oVal (sC (.int 8))))))) (sRet (sC (.bl false))) sSkip)
   (sRet (sPrim pAll [oVal (sComp [1] (.one 1) (sSeq (oName 0)) tTrue (oVal (sPrim pInA [oName 1, oVal (sC (.str "abcdefghijklmnopqrstuvwxyz"))])))])))
noncomputable def F_is_message : List D → Res Vl := runF t_is_message [false] 2
theorem sc_is_message : FnScope ["thing", "letter"] ["thing"] (defScope s_is_message) := _root_.C8.fnScope_by (by kernel_rfl)
theorem d_is_message {P : Program} {w : World} {K : PySem.W.Frag} {mg : Str → Option Value} {base : Heap} {cl : Str → Option Addr} {f : Addr} {fd : FuncData} (G : Gs K mg cl) (F : FnP K "is_message" "is_message" s_is_message f fd) (TG : TalkG P K mg cl) :
    FnOk P w K mg base CX0' 1 f fd ["thing"] (spFn ⟨P, w, K, cl⟩ [false] F_is_message) :=
  def_ok (cl := cl) (k := 0) (t := t_is_message) (N := ["thing", "letter"]) (ps := ["thing"]) (modes := [false]) F sc_is_message rfl fun cdv A outer s H E hr =>
    have hu := hu65 hr
    have hN : List.Nodup (["thing", "letter"] : List Str) := sc_is_message.nd
    (zCons (zIf (tW (wOr (tNot1 (tTru (kV (kIsi (fIsi_ok "str") (kO 0) G.f_isinstance G.f_str)))) (wOr1 (tNot1 (tChain1 cLe cLe (kV kInt) (kV (kCallB bLen G.f_len (kCons (kO 0) kNil))) (kV G.c_LONGEST_MESSAGE.ve)))))) (zOne (zRet kBool)) zNil)
   (zOne (zRet (kCallB (cr_allP rfl) G.f_all (kCons (kV (kComp [("letter", 1)] rfl hN (iSeq1 (kO 0)) (fun _ _ _ _ _ => g1 hN 1) CIf.none (fun _ _ _ _ _ => kV (kCmp (cIn hu) (kO 1) (kV G.c_LETTERS.ve))))) kNil)))))
noncomputable def t_is_ascending : SS := (sRet (sPrim pAll [oVal (sComp [1, 2] (.many [1, 2]) (sZip (oName 0) (oVal (sSlice (oName 0) (some (oVal (sC (.int 1)))) none))) tTrue (oVal (sPrim pLt [oName 1, oName 2])))]))
noncomputable def F_is_ascending : List D → Res Vl := runF t_is_ascending [true] 3
theorem sc_is_ascending : FnScope ["things", "one", "two"] ["things"] (defScope s_is_ascending) := _root_.C8.fnScope_by (by kernel_rfl)
theorem d_is_ascending {P : Program} {w : World} {K : PySem.W.Frag} {mg : Str → Option Value} {base : Heap} {cl : Str → Option Addr} {f : Addr} {fd : FuncData} (G : Gs K mg cl) (F : FnP K "is_ascending" "is_ascending" s_is_ascending f fd) (TG : TalkG P K mg cl) :
    FnOk P w K mg base CX0' 1 f fd ["things"] (spFn ⟨P, w, K, cl⟩ [true] F_is_ascending) :=
  def_ok (cl := cl) (k := 0) (t := t_is_ascending) (N := ["things", "one", "two"]) (ps := ["things"]) (modes := [true]) F sc_is_ascending rfl fun cdv A outer s H E hr =>
    have hu := hu65 hr
    have hN : List.Nodup (["things", "one", "two"] : List Str) := sc_is_ascending.nd
    (zOne (zRet (kCallB (cr_allP rfl) G.f_all (kCons (kV (kComp [("one", 1), ("two", 2)] rfl hN (iZip1 G.f_zip (kCons (kO 0) (kCons (kV (kSlice (kO 0) (pSome (kV kInt)) pNone)) kNil))) (fun _ _ _ _ _ => gN rfl (gsCons hN 1 (gsCons hN 2 gsNil))) CIf.none (fun _ _ _ _ _ => kV (kCmp cLt (kO 1) (kO 2))))) kNil))))
noncomputable def t_u_are_messages : SS := (sThen (sIfS (Ev.tOr (Ev.tNot (tVal (oVal (sPrim (pIsi (fIsi "list")) [oName 0])))) (tBool (sPrim pGt [oVal (sPrim pLenA [oName 0]), oVal (sC (.int 3))]))) (sRet (sC (.bl false))) sSkip)
   (sRet (sAnd (sPrim pAll [oVal (sComp [1] (.one 1) (sSeq (oName 0)) tTrue (oVal (sCall [false] F_is_message [oVal (sName 1)])))]) (sCall [true] F_is_ascending [oName 0]))))
noncomputable def F_u_are_messages : List D → Res Vl := runF t_u_are_messages [true] 2
theorem sc_u_are_messages : FnScope ["thing", "m"] ["thing"] (defScope s_u_are_messages) := _root_.C8.fnScope_by (by kernel_rfl)
theorem d_u_are_messages {P : Program} {w : World} {K : PySem.W.Frag} {mg : Str → Option Value} {base : Heap} {cl : Str → Option Addr} {f : Addr} {fd : FuncData} (G : Gs K mg cl) (F : FnP K "_are_messages" "_are_messages" s_u_are_messages f fd) (TG : TalkG P K mg cl) (h_is_message : FnD P w K mg base 1 "is_message" [false].length (spFn ⟨P, w, K, cl⟩ [false] F_is_message)) (h_is_ascending : FnD P w K mg base 1 "is_ascending" [true].length (spFn ⟨P, w, K, cl⟩ [true] F_is_ascending)) :
    FnOk P w K mg base CX0' 2 f fd ["thing"] (spFn ⟨P, w, K, cl⟩ [true] F_u_are_messages) :=
  def_ok (cl := cl) (k := 1) (t := t_u_are_messages) (N := ["thing", "m"]) (ps := ["thing"]) (modes := [true]) F sc_u_are_messages rfl fun cdv A outer s H E hr =>
    have hu := hu65 hr
    have hN : List.Nodup (["thing", "m"] : List Str) := sc_u_are_messages.nd
    (zCons (zIf (tW (wOr (tNot1 (tTru (kV (kIsi (fIsi_ok "list") (kO 0) G.f_isinstance G.f_list)))) (wOr1 (tCmp cGt (kV (kCallB bLen G.f_len (kCons (kO 0) kNil))) (kV G.c_MOST_MESSAGES.ve))))) (zOne (zRet kBool)) zNil)
   (zOne (zRet (kAnd (kCallB (cr_allP rfl) G.f_all (kCons (kV (kComp [("m", 1)] rfl hN (iSeq1 (kO 0)) (fun _ _ _ _ _ => g1 hN 1) CIf.none (fun _ _ _ _ _ => kV (kCall h_is_message hr (by decide) (kCons (kV (kN 1)) kNil))))) kNil)) (kOne (kCall h_is_ascending hr (by decide) (kCons (kO 0) kNil)))))))
noncomputable def t_is_number : SS := (sRet (sAnd (sPrim (pIsi (fIsi "int")) [oName 0]) (sAnd (sNot (oVal (sPrim (pIsi (fIsi "bool")) [oName 0]))) (sChain pLe pLe (oVal (sC (.int 0))) (oName 0) (oName 1)))))
noncomputable def F_is_number : List D → Res Vl := runF t_is_number [false, false] 2
theorem sc_is_number : FnScope ["thing", "most"] ["thing", "most"] (defScope s_is_number) := _root_.C8.fnScope_by (by kernel_rfl)
theorem d_is_number {P : Program} {w : World} {K : PySem.W.Frag} {mg : Str → Option Value} {base : Heap} {cl : Str → Option Addr} {f : Addr} {fd : FuncData} (G : Gs K mg cl) (F : FnP K "is_number" "is_number" s_is_number f fd) (TG : TalkG P K mg cl) :
    FnOk P w K mg base CX0' 1 f fd ["thing", "most"] (spFn ⟨P, w, K, cl⟩ [false, false] F_is_number) :=
  def_ok (cl := cl) (k := 0) (t := t_is_number) (N := ["thing", "most"]) (ps := ["thing", "most"]) (modes := [false, false]) F sc_is_number rfl fun cdv A outer s H E hr =>
    have hu := hu65 hr
    have hN : List.Nodup (["thing", "most"] : List Str) := sc_is_number.nd
    (zOne (zRet (kAnd (kIsi (fIsi_ok "int") (kO 0) G.f_isinstance G.f_int) (kAnd (kNot (kV (kIsi (fIsi_ok "bool") (kO 0) G.f_isinstance G.f_bool))) (kOne (kChain cLe cLe (kV kInt) (kO 0) (kO 1)))))))
noncomputable def b0_u_are_transitions : SS := (sThen (sIfS (Ev.tOr (Ev.tNot (tVal (oVal (sPrim (pIsi (fIsi "tuple")) [oName 3])))) (Ev.tOr (tBool (sPrim pNe [oVal (sPrim pLenA [oName 3]), oVal (sC (.int 3))])) (Ev.tNot (tVal (oVal (sPrim (pIsi (fIsi "str")) [oVal (sPrim pIxA [oName 3, oVal (sC (.int 1))])])))))) (sRet (sC (.bl false))) sSkip)
   (sIfS (Ev.tOr (Ev.tNot (tVal (oVal (sCall [false, false] F_is_number [oVal (sPrim pIxA [oName 3, oVal (sC (.int 0))]), oVal (sPrim pSub [oName 1, oVal (sC (.int 1))])])))) (Ev.tNot (tVal (oVal (sCall [false, false] F_is_number [oVal (sPrim pIxA [oName 3, oVal (sC (.int 2))]), oVal (sPrim pSub [oName 1, oVal (sC (.int 1))])]))))) (sRet (sC (.bl false))) sSkip))
noncomputable def t_u_are_transitions : SS := (sThen (sIfS (Ev.tOr (Ev.tNot (tVal (oVal (sPrim (pIsi (fIsi "list")) [oName 0])))) (tBool (sPrim pGt [oVal (sPrim pLenA [oName 0]), oName 2]))) (sRet (sC (.bl false))) sSkip)
   (sThen (sForR (.one 3) 0 b0_u_are_transitions)
   (sRet (sPrim pEq [oVal (sPrim pLenA [oVal (sDComp [3] (.one 3) (sSeq (oName 0)) tTrue (oVal (sName 3)) (oVal (sC (.bl true))))]), oVal (sPrim pLenA [oName 0])]))))
noncomputable def F_u_are_transitions : List D → Res Vl := runF t_u_are_transitions [true, false, false] 4
theorem sc_u_are_transitions : FnScope ["thing", "states", "most", "told"] ["thing", "states", "most"] (defScope s_u_are_transitions) := _root_.C8.fnScope_by (by kernel_rfl)
theorem d_u_are_transitions {P : Program} {w : World} {K : PySem.W.Frag} {mg : Str → Option Value} {base : Heap} {cl : Str → Option Addr} {f : Addr} {fd : FuncData} (G : Gs K mg cl) (F : FnP K "_are_transitions" "_are_transitions" s_u_are_transitions f fd) (TG : TalkG P K mg cl) (h_is_number : FnD P w K mg base 1 "is_number" [false, false].length (spFn ⟨P, w, K, cl⟩ [false, false] F_is_number)) :
    FnOk P w K mg base CX0' 2 f fd ["thing", "states", "most"] (spFn ⟨P, w, K, cl⟩ [true, false, false] F_u_are_transitions) :=
  def_ok (cl := cl) (k := 1) (t := t_u_are_transitions) (N := ["thing", "states", "most", "told"]) (ps := ["thing", "states", "most"]) (modes := [true, false, false]) F sc_u_are_transitions rfl fun cdv A outer s H E hr =>
    have hu := hu65 hr
    have hN : List.Nodup (["thing", "states", "most", "told"] : List Str) := sc_u_are_transitions.nd
    (zCons (zIf (tW (wOr (tNot1 (tTru (kV (kIsi (fIsi_ok "list") (kO 0) G.f_isinstance G.f_list)))) (wOr1 (tCmp cGt (kV (kCallB bLen G.f_len (kCons (kO 0) kNil))) (kO 2))))) (zOne (zRet kBool)) zNil)
   (zCons (zForR PassesOwn.never rfl 0 (g1 hN 3) (zCons (zIf (tW (wOr (tNot1 (tTru (kV (kIsi (fIsi_ok "tuple") (kO 3) G.f_isinstance G.f_tuple)))) (wOr (tCmp (cNe hu) (kV (kCallB bLen G.f_len (kCons (kO 3) kNil))) (kV kInt)) (wOr1 (tNot1 (tTru (kV (kIsi (fIsi_ok "str") (kV (kIx hu (kO 3) (kV kInt))) G.f_isinstance G.f_str)))))))) (zOne (zRet kBool)) zNil)
   (zOne (zIf (tW (wOr (tNot1 (tTru (kV (kCall h_is_number hr (by decide) (kCons (kV (kIx hu (kO 3) (kV kInt))) (kCons (kV (kSub (kO 1) (kV kInt))) kNil)))))) (wOr1 (tNot1 (tTru (kV (kCall h_is_number hr (by decide) (kCons (kV (kIx hu (kO 3) (kV kInt))) (kCons (kV (kSub (kO 1) (kV kInt))) kNil))))))))) (zOne (zRet kBool)) zNil))))
   (zOne (zRet (kCmp (cEq hu) (kV (kCallB bLen G.f_len (kCons (kV (kDComp [("told", 3)] hu rfl hN (iSeq1 (kO 0)) (fun _ _ _ _ _ => g1 hN 3) CIf.none (fun _ _ _ _ _ => kV (kN 3)) (fun _ _ _ _ _ => kV kBool))) kNil))) (kV (kCallB bLen G.f_len (kCons (kO 0) kNil))))))))
noncomputable def t_u_are_final : SS := (sThen (sIfS (Ev.tOr (Ev.tNot (tVal (oVal (sPrim (pIsi (fIsi "list")) [oName 0])))) (Ev.tNot (tVal (oVal (sPrim pAll [oVal (sComp [2] (.one 2) (sSeq (oName 0)) tTrue (oVal (sCall [false, false] F_is_number [oVal (sName 2), oVal (sPrim pSub [oName 1, oVal (sC (.int 1))])])))]))))) (sRet (sC (.bl false))) sSkip)
   (sRet (sCall [true] F_is_ascending [oName 0])))
noncomputable def F_u_are_final : List D → Res Vl := runF t_u_are_final [true, false] 3
theorem sc_u_are_final : FnScope ["thing", "states", "state"] ["thing", "states"] (defScope s_u_are_final) := _root_.C8.fnScope_by (by kernel_rfl)
theorem d_u_are_final {P : Program} {w : World} {K : PySem.W.Frag} {mg : Str → Option Value} {base : Heap} {cl : Str → Option Addr} {f : Addr} {fd : FuncData} (G : Gs K mg cl) (F : FnP K "_are_final" "_are_final" s_u_are_final f fd) (TG : TalkG P K mg cl) (h_is_number : FnD P w K mg base 1 "is_number" [false, false].length (spFn ⟨P, w, K, cl⟩ [false, false] F_is_number)) (h_is_ascending : FnD P w K mg base 1 "is_ascending" [true].length (spFn ⟨P, w, K, cl⟩ [true] F_is_ascending)) :
    FnOk P w K mg base CX0' 2 f fd ["thing", "states"] (spFn ⟨P, w, K, cl⟩ [true, false] F_u_are_final) :=
  def_ok (cl := cl) (k := 1) (t := t_u_are_final) (N := ["thing", "states", "state"]) (ps := ["thing", "states"]) (modes := [true, false]) F sc_u_are_final rfl fun cdv A outer s H E hr =>
    have hu := hu65 hr
    have hN : List.Nodup (["thing", "states", "state"] : List Str) := sc_u_are_final.nd
    (zCons (zIf (tW (wOr (tNot1 (tTru (kV (kIsi (fIsi_ok "list") (kO 0) G.f_isinstance G.f_list)))) (wOr1 (tNot1 (tTru (kV (kCallB (cr_allP rfl) G.f_all (kCons (kV (kComp [("state", 2)] rfl hN (iSeq1 (kO 0)) (fun _ _ _ _ _ => g1 hN 2) CIf.none (fun _ _ _ _ _ => kV (kCall h_is_number hr (by decide) (kCons (kV (kN 2)) (kCons (kV (kSub (kO 1) (kV kInt))) kNil)))))) kNil)))))))) (zOne (zRet kBool)) zNil)
   (zOne (zRet (kCall h_is_ascending hr (by decide) (kCons (kO 0) kNil)))))
noncomputable def t_u_is_shape : SS := (sThen (sIfS (Ev.tOr (Ev.tNot (tVal (oVal (sCall [false, false] F_is_number [oVal (sName 0), oVal (sName 1)])))) (tBool (sPrim pLt [oName 0, oVal (sC (.int 1))]))) (sRet (sC (.bl false))) sSkip)
   (sRet (sAnd (sCall [true, false, false] F_u_are_transitions [oName 2, oVal (sName 0), oVal (sName 3)]) (sCall [true, false] F_u_are_final [oName 4, oVal (sName 0)]))))
noncomputable def F_u_is_shape : List D → Res Vl := runF t_u_is_shape [false, false, true, false, true] 5
theorem sc_u_is_shape : FnScope ["states", "most", "transitions", "most_transitions", "final"] ["states", "most", "transitions", "most_transitions", "final"] (defScope s_u_is_shape) := _root_.C8.fnScope_by (by kernel_rfl)
theorem d_u_is_shape {P : Program} {w : World} {K : PySem.W.Frag} {mg : Str → Option Value} {base : Heap} {cl : Str → Option Addr} {f : Addr} {fd : FuncData} (G : Gs K mg cl) (F : FnP K "_is_shape" "_is_shape" s_u_is_shape f fd) (TG : TalkG P K mg cl) (h_is_number : FnD P w K mg base 1 "is_number" [false, false].length (spFn ⟨P, w, K, cl⟩ [false, false] F_is_number)) (h_u_are_transitions : FnD P w K mg base 2 "_are_transitions" [true, false, false].length (spFn ⟨P, w, K, cl⟩ [true, false, false] F_u_are_transitions)) (h_u_are_final : FnD P w K mg base 2 "_are_final" [true, false].length (spFn ⟨P, w, K, cl⟩ [true, false] F_u_are_final)) :
    FnOk P w K mg base CX0' 3 f fd ["states", "most", "transitions", "most_transitions", "final"] (spFn ⟨P, w, K, cl⟩ [false, false, true, false, true] F_u_is_shape) :=
  def_ok (cl := cl) (k := 2) (t := t_u_is_shape) (N := ["states", "most", "transitions", "most_transitions", "final"]) (ps := ["states", "most", "transitions", "most_transitions", "final"]) (modes := [false, false, true, false, true]) F sc_u_is_shape rfl fun cdv A outer s H E hr =>
    have hu := hu65 hr
    have hN : List.Nodup (["states", "most", "transitions", "most_transitions", "final"] : List Str) := sc_u_is_shape.nd
    (zCons (zIf (tW (wOr (tNot1 (tTru (kV (kCall h_is_number hr (by decide) (kCons (kV (kN 0)) (kCons (kV (kN 1)) kNil)))))) (wOr1 (tCmp cLt (kO 0) (kV kInt))))) (zOne (zRet kBool)) zNil)
   (zOne (zRet (kAnd (kCall h_u_are_transitions hr (by decide) (kCons (kO 2) (kCons (kV (kN 0)) (kCons (kV (kN 3)) kNil)))) (kOne (kCall h_u_are_final hr (by decide) (kCons (kO 4) (kCons (kV (kN 0)) kNil))))))))
noncomputable def t_C_Service : SS := (sThen (sAsg (sAnd (sCall [true] F_u_are_messages [oName 1]) (sCall [true] F_u_are_messages [oName 2])) 6)
   (sThen (sAsg (sAnd (sName 6) (sNot (oVal (sPrim pAny [oVal (sComp [8] (.one 8) (sSeq (oName 1)) tTrue (oVal (sPrim pInA [oName 8, oName 2])))])))) 6)
   (sThen (sAsg (sAnd (sName 6) (sCall [false, false, true, false, true] F_u_is_shape [oVal (sName 3), oVal (sC (.int 12)), oName 4, oVal (sC (.int 60)), oName 5])) 6)
   (sThen (sIfS (Ev.tNot (tVal (oName 6))) (sRaise "no service") sSkip)
   (sThen (sAsg (sPrim pAdd [oVal (sPrim pAdd [oVal (sLst [oVal (sC (.str "tau"))]), oVal (sComp [8] (.one 8) (sSeq (oName 1)) tTrue (oVal (sPrim pAdd [oVal (sC (.str "?")), oName 8])))]), oVal (sComp [8] (.one 8) (sSeq (oName 2)) tTrue (oVal (sPrim pAdd [oVal (sC (.str "!")), oName 8])))]) 7)
   (sThen (sIfS (Ev.tNot (tVal (oVal (sPrim pAll [oVal (sComp [9, 10, 11] (.many [9, 10, 11]) (sSeq (oName 4)) tTrue (oVal (sPrim pInA [oName 10, oName 7])))])))) (sRaise "no service") sSkip)
   (sThen (sSetF at_ "inputs" 0 (sPrim pList [oName 1]))
   (sThen (sSetF at_ "outputs" 0 (sPrim pList [oName 2]))
   (sThen (sSetF at_ "states" 0 (sName 3))
   (sThen (sSetF at_ "transitions" 0 (sPrim pSortedA [oName 4]))
   (sSetF at_ "final" 0 (sPrim pList [oName 5]))))))))))))
noncomputable def F_C_Service : D → List D → ResB := runBM t_C_Service [true, true, false, true, true] 12
theorem sc_C_Service : FnScope ["self", "inputs", "outputs", "states", "transitions", "final", "good", "labels", "m", "before", "label", "after"] ["self", "inputs", "outputs", "states", "transitions", "final"] (defScope s_C_Service) := _root_.C8.fnScope_by (by kernel_rfl)
theorem d_C_Service {P : Program} {w : World} {K : PySem.W.Frag} {mg : Str → Option Value} {base : Heap} {cl : Str → Option Addr} {f : Addr} {fd : FuncData} (G : Gs K mg cl) (F : FnP K "__init__" "Service.__init__" s_C_Service f fd) (TG : TalkG P K mg cl) (h_u_are_messages : FnD P w K mg base 2 "_are_messages" [true].length (spFn ⟨P, w, K, cl⟩ [true] F_u_are_messages)) (h_u_is_shape : FnD P w K mg base 3 "_is_shape" [false, false, true, false, true].length (spFn ⟨P, w, K, cl⟩ [false, false, true, false, true] F_u_is_shape)) :
    FnOk P w K mg base (L2N.CX P w) 4 f fd ["self", "inputs", "outputs", "states", "transitions", "final"] (spBx ⟨P, w, K, cl⟩ [true, true, false, true, true] F_C_Service) :=
  bm_okN (cl := cl) (k := 3) (t := t_C_Service) (N := ["self", "inputs", "outputs", "states", "transitions", "final", "good", "labels", "m", "before", "label", "after"]) (ps := ["self", "inputs", "outputs", "states", "transitions", "final"]) (modes := [true, true, false, true, true]) F sc_C_Service rfl fun cdv A outer s H E hr I =>
    have hu := hu65 hr
    have hN : List.Nodup (["self", "inputs", "outputs", "states", "transitions", "final", "good", "labels", "m", "before", "label", "after"] : List Str) := sc_C_Service.nd
    (zCons (zSet hN 6 (kAnd (kCall h_u_are_messages hr (by decide) (kCons (kO 1) kNil)) (kOne (kCall h_u_are_messages hr (by decide) (kCons (kO 2) kNil)))))
   (zCons (zSet hN 6 (kAnd (kN 6) (kOne (kNot (kV (kCallB (cr_anyP rfl) G.f_any (kCons (kV (kComp [("m", 8)] rfl hN (iSeq1 (kO 1)) (fun _ _ _ _ _ => g1 hN 8) CIf.none (fun _ _ _ _ _ => kV (kCmp (cIn hu) (kO 8) (kO 2))))) kNil)))))))
   (zCons (zSet hN 6 (kAnd (kN 6) (kOne (kCall h_u_is_shape hr (by decide) (kCons (kV (kN 3)) (kCons (kV G.c_MOST_STATES.ve) (kCons (kO 4) (kCons (kV G.c_MOST_TRANSITIONS.ve) (kCons (kO 5) kNil)))))))))
   (zCons (zIf (tNot1 (tTru (kO 6))) (zOne (zRaiseN rfl TG (dep1 hr) I.tk)) zNil)
   (zCons (zSet hN 7 (kAdd (kV (kAdd (kV (kLst (kCons (kV kStr) kNil))) (kV (kComp [("m", 8)] rfl hN (iSeq1 (kO 1)) (fun _ _ _ _ _ => g1 hN 8) CIf.none (fun _ _ _ _ _ => kV (kAdd (kV kStr) (kO 8))))))) (kV (kComp [("m", 8)] rfl hN (iSeq1 (kO 2)) (fun _ _ _ _ _ => g1 hN 8) CIf.none (fun _ _ _ _ _ => kV (kAdd (kV kStr) (kO 8)))))))
   (zCons (zIf (tNot1 (tTru (kV (kCallB (cr_allP rfl) G.f_all (kCons (kV (kComp [("before", 9), ("label", 10), ("after", 11)] rfl hN (iSeq1 (kO 4)) (fun _ _ _ _ _ => gN rfl (gsCons hN 9 (gsCons hN 10 (gsCons hN 11 gsNil)))) CIf.none (fun _ _ _ _ _ => kV (kCmp (cIn hu) (kO 10) (kO 7))))) kNil))))) (zOne (zRaiseN rfl TG (dep1 hr) I.tk)) zNil)
   (zCons (zSetF G.hat 0 (kCallTy cr_listP G.f_list (kCons (kO 1) kNil)))
   (zCons (zSetF G.hat 0 (kCallTy cr_listP G.f_list (kCons (kO 2) kNil)))
   (zCons (zSetF G.hat 0 (kN 3))
   (zCons (zSetF G.hat 0 (kCallB (bSorted rfl hu) G.f_sorted (kCons (kO 4) kNil)))
   (zOne (zSetF G.hat 0 (kCallTy cr_listP G.f_list (kCons (kO 5) kNil))))))))))))))
noncomputable def t_u_law_service_told : SS := (sThen (sTry (sAsg (sMake "Service" [true, true, false, true, true] F_C_Service [oVal (sPrim pIxA [oName 0, oVal (sC (.int 0))]), oVal (sPrim pIxA [oName 0, oVal (sC (.int 1))]), oVal (sPrim pIxA [oName 0, oVal (sC (.int 2))]), oVal (sPrim pIxA [oName 0, oVal (sC (.int 3))]), oVal (sPrim pIxA [oName 0, oVal (sC (.int 4))])]) 2) (hReason 1))
   (sRet (sLst [oVal (sFld at_ "inputs" (oName 2)), oVal (sFld at_ "outputs" (oName 2)), oVal (sFld at_ "states" (oName 2)), oVal (sFld at_ "transitions" (oName 2)), oVal (sFld at_ "final" (oName 2))])))
noncomputable def F_u_law_service_told : List D → Res Vl := runF t_u_law_service_told [false] 3
theorem sc_u_law_service_told : FnScope ["_law_v", "e", "_law_made_here"] ["_law_v"] (defScope s_u_law_service_told) := _root_.C8.fnScope_by (by kernel_rfl)
theorem d_u_law_service_told {P : Program} {w : World} {K : PySem.W.Frag} {mg : Str → Option Value} {base : Heap} {cl : Str → Option Addr} {f : Addr} {fd : FuncData} (G : Gs K mg cl) (F : FnP K "_law_service_told" "_law_service_told" s_u_law_service_told f fd) (TG : TalkG P K mg cl) (h_C_Service : ClQ (L2N.CX P w) P w K mg base cl 4 "Service" (spBx ⟨P, w, K, cl⟩ [true, true, false, true, true] F_C_Service)) :
    FnOk P w K mg base CX0' 6 f fd ["_law_v"] (spFn ⟨P, w, K, cl⟩ [false] F_u_law_service_told) :=
  def_ok (cl := cl) (k := 5) (t := t_u_law_service_told) (N := ["_law_v", "e", "_law_made_here"]) (ps := ["_law_v"]) (modes := [false]) F sc_u_law_service_told rfl fun cdv A outer s H E hr =>
    have hu := hu65 hr
    have hN : List.Nodup (["_law_v", "e", "_law_made_here"] : List Str) := sc_u_law_service_told.nd
    (zCons (zTryV TG G.ti G.f_int G.f_isinstance G.f_ValueError hN 1 (fun W' pn xe tk' hp' => (zOne (zSet hN 2 (kMakeQ h_C_Service (passNL tk') hr (by decide) (kCons (kV (kIx hu (kO 0) (kV kInt))) (kCons (kV (kIx hu (kO 0) (kV kInt))) (kCons (kV (kIx hu (kO 0) (kV kInt))) (kCons (kV (kIx hu (kO 0) (kV kInt))) (kCons (kV (kIx hu (kO 0) (kV kInt))) kNil))))))))) L2.takes0)
   (zOne (zRet (kLst (kCons (kV (kFld G.hat (kO 2))) (kCons (kV (kFld G.hat (kO 2))) (kCons (kV (kFld G.hat (kO 2))) (kCons (kV (kFld G.hat (kO 2))) (kCons (kV (kFld G.hat (kO 2))) kNil)))))))))
noncomputable def t_u_law_spoiled : SS := (sThen (sAsg (sLst [oVal (sPrim pList [oVal (sPrim pIxA [oName 1, oVal (sC (.int 0))])]), oVal (sPrim pList [oVal (sPrim pIxA [oName 1, oVal (sC (.int 1))])]), oVal (sPrim pIxA [oName 1, oVal (sC (.int 2))]), oVal (sPrim pList [oVal (sPrim pIxA [oName 1, oVal (sC (.int 3))])]), oVal (sPrim pList [oVal (sPrim pIxA [oName 1, oVal (sC (.int 4))])])]) 2)
   (sThen (sAsg (sCallB (List.replicate 1 false) F_u_law_draw 0 [oVal (sC (.int 12))]) 3)
   (sThen (sIfS (tBool (sPrim pEq [oName 3, oVal (sC (.int 0))])) (sSetI pSetL 2 (oVal (sC (.int 0))) (sPrim pIxA [oVal (sLst [oVal (sLst [oVal (sC (.str "b")), oVal (sC (.str "a"))]), oVal (sLst [oVal (sC (.str "a")), oVal (sC (.str "a"))]), oVal (sLst [oVal (sC (.str "A"))]), oVal (sLst [oVal (sC (.str ""))]), oVal (sLst [oVal (sC (.str "a")), oVal (sC (.str "b")), oVal (sC (.str "c")), oVal (sC (.str "d"))]), oVal (sLst [oVal (sC (.str "abcdefghi"))]), oVal (sLst [oVal (sC (.int 5))])]), oVal (sCallB (List.replicate 1 false) F_u_law_draw 0 [oVal (sC (.int 7))])])) (sIfS (tBool (sPrim pEq [oName 3, oVal (sC (.int 1))])) (sThen (sSetI pSetL 2 (oVal (sC (.int 1))) (sLst [oVal (sC (.str "a")), oVal (sC (.str "b")), oVal (sC (.str "z"))]))
   (sSetI pSetL 2 (oVal (sC (.int 0))) (sLst [oVal (sC (.str "b"))]))) (sIfS (tBool (sPrim pEq [oName 3, oVal (sC (.int 2))])) (sSetI pSetL 2 (oVal (sC (.int 2))) (sPrim pIxA [oVal (sLst [oVal (sC (.int 0)), oVal (sC (.int 13)), oVal (sC (.bl true)), oVal (sPrim pNeg1 [oVal (sC (.int 1))])]), oVal (sCallB (List.replicate 1 false) F_u_law_draw 0 [oVal (sC (.int 4))])])) (sIfS (tBool (sPrim pEq [oName 3, oVal (sC (.int 3))])) (sSetI pSetL 2 (oVal (sC (.int 3))) (sPrim pAdd [oVal (sPrim pIxA [oName 2, oVal (sC (.int 3))]), oVal (sLst [oVal (sTup [oVal (sC (.int 0)), oVal (sC (.str "tau")), oVal (sPrim pIxA [oName 1, oVal (sC (.int 2))])])])])) (sIfS (tBool (sPrim pEq [oName 3, oVal (sC (.int 4))])) (sSetI pSetL 2 (oVal (sC (.int 3))) (sPrim pAdd [oVal (sPrim pIxA [oName 2, oVal (sC (.int 3))]), oVal (sLst [oVal (sTup [oVal (sC (.int 0)), oVal (sC (.str "!zz")), oVal (sC (.int 0))])])])) (sIfS (tBool (sPrim pEq [oName 3, oVal (sC (.int 5))])) (sSetI pSetL 2 (oVal (sC (.int 3))) (sPrim pAdd [oVal (sPrim pIxA [oName 2, oVal (sC (.int 3))]), oVal (sLst [oVal (sTup [oVal (sC (.int 0)), oVal (sC (.str "tau")), oVal (sC (.int 0))]), oVal (sTup [oVal (sC (.int 0)), oVal (sC (.str "tau")), oVal (sC (.int 0))])])])) (sIfS (tBool (sPrim pEq [oName 3, oVal (sC (.int 6))])) (sSetI pSetL 2 (oVal (sC (.int 3))) (sPrim pAdd [oVal (sPrim pIxA [oName 2, oVal (sC (.int 3))]), oVal (sLst [oVal (sPrim pIxA [oVal (sLst [oVal (sTup [oVal (sC (.int 0)), oVal (sC (.str "tau"))]), oVal (sTup [oVal (sPrim pNeg1 [oVal (sC (.int 1))]), oVal (sC (.str "tau")), oVal (sC (.int 0))]), oVal (sTup [oVal (sC (.int 0)), oVal (sC (.str "?")), oVal (sC (.int 0))]), oVal (sLst [oVal (sC (.int 0)), oVal (sC (.str "tau")), oVal (sC (.int 0))]), oVal (sTup [oVal (sC (.int 0)), oVal (sC (.str "tau")), oVal (sC (.int 0)), oVal (sC (.int 0))])]), oVal (sCallB (List.replicate 1 false) F_u_law_draw 0 [oVal (sC (.int 5))])])])])) (sIfS (tBool (sPrim pEq [oName 3, oVal (sC (.int 7))])) (sSetI pSetL 2 (oVal (sC (.int 4))) (sPrim pIxA [oVal (sLst [oVal (sLst [oVal (sPrim pIxA [oName 1, oVal (sC (.int 2))])]), oVal (sLst [oVal (sC (.int 0)), oVal (sC (.int 0))]), oVal (sLst [oVal (sPrim pNeg1 [oVal (sC (.int 1))])]), oVal (sLst [oVal (sC .non)])]), oVal (sCallB (List.replicate 1 false) F_u_law_draw 0 [oVal (sC (.int 4))])])) (sIfS (tBool (sPrim pEq [oName 3, oVal (sC (.int 8))])) (sThen (sSetI pSetL 2 (oVal (sC (.int 2))) (sC (.int 12)))
   (sSetI pSetL 2 (oVal (sC (.int 3))) (sPrim pAdd [oVal (sComp [4] (.one 4) (sRange [oVal (sC (.int 60))]) tTrue (oVal (sTup [oVal (sPrim pInt [oVal (sPrim pFdiv [oName 4, oVal (sC (.int 5))])]), oVal (sC (.str "tau")), oVal (sPrim pMod [oVal (sPrim pInt [oName 4]), oVal (sC (.int 5))])]))), oVal (sLst [oVal (sTup [oVal (sC (.int 0)), oVal (sC (.str "tau")), oVal (sC (.int 5))])])]))) (sIfS (tBool (sPrim pEq [oName 3, oVal (sC (.int 9))])) (sThen (sSetI pSetL 2 (oVal (sC (.int 0))) (sLst [oVal (sC (.str "a")), oVal (sC (.str "b"))]))
   (sThen (sSetI pSetL 2 (oVal (sC (.int 3))) (sLst [oVal (sTup [oVal (sC (.int 0)), oVal (sC (.str "!a")), oVal (sC (.int 0))])]))
   (sSetI pSetL 2 (oVal (sC (.int 1))) (sLst [])))) (sIfS (tBool (sPrim pEq [oName 3, oVal (sC (.int 10))])) (sThen (sSetI pSetL 2 (oVal (sC (.int 2))) (sC (.int 2)))
   (sThen (sSetI pSetL 2 (oVal (sC (.int 3))) (sLst []))
   (sSetI pSetL 2 (oVal (sC (.int 4))) (sLst [oVal (sC (.int 1)), oVal (sC (.int 0))])))) (sSetI pSetL 2 (oVal (sC (.int 1))) (sLst [oVal (sC (.str "d")), oVal (sC (.str "c"))])))))))))))))
   (sRetName 2))))
noncomputable def F_u_law_spoiled : D → List D → ResB := runB t_u_law_spoiled 1 5
theorem sc_u_law_spoiled : FnScope ["_law_box", "_law_v", "_law_out", "_law_kind", "_law_k"] ["_law_box", "_law_v"] (defScope s_u_law_spoiled) := _root_.C8.fnScope_by (by kernel_rfl)
theorem d_u_law_spoiled {P : Program} {w : World} {K : PySem.W.Frag} {mg : Str → Option Value} {base : Heap} {cl : Str → Option Addr} {f : Addr} {fd : FuncData} (G : Gs K mg cl) (F : FnP K "_law_spoiled" "_law_spoiled" s_u_law_spoiled f fd) (TG : TalkG P K mg cl) (h_u_law_draw : FnD P w K mg base 1 "_law_draw" (List.replicate 1 false).length (spBx ⟨P, w, K, cl⟩ (List.replicate 1 false) F_u_law_draw)) :
    FnOk P w K mg base CX0' 2 f fd ["_law_box", "_law_v"] (spBx ⟨P, w, K, cl⟩ (List.replicate 1 false) F_u_law_spoiled) :=
  bx_ok (cl := cl) (k := 1) (t := t_u_law_spoiled) (N := ["_law_box", "_law_v", "_law_out", "_law_kind", "_law_k"]) (ps := ["_law_box", "_law_v"]) (m := 1) F sc_u_law_spoiled rfl fun cdv A outer s H E hr =>
    have hu := hu65 hr
    have hN : List.Nodup (["_law_box", "_law_v", "_law_out", "_law_kind", "_law_k"] : List Str) := sc_u_law_spoiled.nd
    (zCons (zSet hN 2 (kLst (kCons (kV (kCallTy cr_listP G.f_list (kCons (kV (kIx hu (kO 1) (kV kInt))) kNil))) (kCons (kV (kCallTy cr_listP G.f_list (kCons (kV (kIx hu (kO 1) (kV kInt))) kNil))) (kCons (kV (kIx hu (kO 1) (kV kInt))) (kCons (kV (kCallTy cr_listP G.f_list (kCons (kV (kIx hu (kO 1) (kV kInt))) kNil))) (kCons (kV (kCallTy cr_listP G.f_list (kCons (kV (kIx hu (kO 1) (kV kInt))) kNil))) kNil)))))))
   (zCons (zSet hN 3 (kCallBx h_u_law_draw hr (by decide) 0 (kCons (kO 0) (kCons (kV kInt) kNil))))
   (zCons (zIf (tCmp (cEq hu) (kO 3) (kV kInt)) (zOne (zSetI set_listP 2 (kV kInt) (kIx hu (kV (kLst (kCons (kV (kLst (kCons (kV kStr) (kCons (kV kStr) kNil)))) (kCons (kV (kLst (kCons (kV kStr) (kCons (kV kStr) kNil)))) (kCons (kV (kLst (kCons (kV kStr) kNil))) (kCons (kV (kLst (kCons (kV kStr) kNil))) (kCons (kV (kLst (kCons (kV kStr) (kCons (kV kStr) (kCons (kV kStr) (kCons (kV kStr) kNil)))))) (kCons (kV (kLst (kCons (kV kStr) kNil))) (kCons (kV (kLst (kCons (kV kInt) kNil))) kNil))))))))) (kV (kCallBx h_u_law_draw hr (by decide) 0 (kCons (kO 0) (kCons (kV kInt) kNil))))))) (zOne (zIf (tCmp (cEq hu) (kO 3) (kV kInt)) (zCons (zSetI set_listP 2 (kV kInt) (kLst (kCons (kV kStr) (kCons (kV kStr) (kCons (kV kStr) kNil)))))
   (zOne (zSetI set_listP 2 (kV kInt) (kLst (kCons (kV kStr) kNil))))) (zOne (zIf (tCmp (cEq hu) (kO 3) (kV kInt)) (zOne (zSetI set_listP 2 (kV kInt) (kIx hu (kV (kLst (kCons (kV kInt) (kCons (kV kInt) (kCons (kV kBool) (kCons (kV (kNeg (kV kInt))) kNil)))))) (kV (kCallBx h_u_law_draw hr (by decide) 0 (kCons (kO 0) (kCons (kV kInt) kNil))))))) (zOne (zIf (tCmp (cEq hu) (kO 3) (kV kInt)) (zOne (zSetI set_listP 2 (kV kInt) (kAdd (kV (kIx hu (kO 2) (kV kInt))) (kV (kLst (kCons (kV (kTup (kCons (kV kInt) (kCons (kV kStr) (kCons (kV (kIx hu (kO 1) (kV kInt))) kNil))))) kNil)))))) (zOne (zIf (tCmp (cEq hu) (kO 3) (kV kInt)) (zOne (zSetI set_listP 2 (kV kInt) (kAdd (kV (kIx hu (kO 2) (kV kInt))) (kV (kLst (kCons (kV (kTup (kCons (kV kInt) (kCons (kV kStr) (kCons (kV kInt) kNil))))) kNil)))))) (zOne (zIf (tCmp (cEq hu) (kO 3) (kV kInt)) (zOne (zSetI set_listP 2 (kV kInt) (kAdd (kV (kIx hu (kO 2) (kV kInt))) (kV (kLst (kCons (kV (kTup (kCons (kV kInt) (kCons (kV kStr) (kCons (kV kInt) kNil))))) (kCons (kV (kTup (kCons (kV kInt) (kCons (kV kStr) (kCons (kV kInt) kNil))))) kNil))))))) (zOne (zIf (tCmp (cEq hu) (kO 3) (kV kInt)) (zOne (zSetI set_listP 2 (kV kInt) (kAdd (kV (kIx hu (kO 2) (kV kInt))) (kV (kLst (kCons (kV (kIx hu (kV (kLst (kCons (kV (kTup (kCons (kV kInt) (kCons (kV kStr) kNil)))) (kCons (kV (kTup (kCons (kV (kNeg (kV kInt))) (kCons (kV kStr) (kCons (kV kInt) kNil))))) (kCons (kV (kTup (kCons (kV kInt) (kCons (kV kStr) (kCons (kV kInt) kNil))))) (kCons (kV (kLst (kCons (kV kInt) (kCons (kV kStr) (kCons (kV kInt) kNil))))) (kCons (kV (kTup (kCons (kV kInt) (kCons (kV kStr) (kCons (kV kInt) (kCons (kV kInt) kNil)))))) kNil))))))) (kV (kCallBx h_u_law_draw hr (by decide) 0 (kCons (kO 0) (kCons (kV kInt) kNil)))))) kNil)))))) (zOne (zIf (tCmp (cEq hu) (kO 3) (kV kInt)) (zOne (zSetI set_listP 2 (kV kInt) (kIx hu (kV (kLst (kCons (kV (kLst (kCons (kV (kIx hu (kO 1) (kV kInt))) kNil))) (kCons (kV (kLst (kCons (kV kInt) (kCons (kV kInt) kNil)))) (kCons (kV (kLst (kCons (kV (kNeg (kV kInt))) kNil))) (kCons (kV (kLst (kCons (kV kNone) kNil))) kNil)))))) (kV (kCallBx h_u_law_draw hr (by decide) 0 (kCons (kO 0) (kCons (kV kInt) kNil))))))) (zOne (zIf (tCmp (cEq hu) (kO 3) (kV kInt)) (zCons (zSetI set_listP 2 (kV kInt) kInt)
   (zOne (zSetI set_listP 2 (kV kInt) (kAdd (kV (kComp [("_law_k", 4)] rfl hN (iRange1 G.f_range (kCons (kV kInt) kNil)) (fun _ _ _ _ _ => g1 hN 4) CIf.none (fun _ _ _ _ _ => kV (kTup (kCons (kV (kCallTy cr_intP G.f_int (kCons (kV (kFdiv (kO 4) (kV kInt))) kNil))) (kCons (kV kStr) (kCons (kV (kMod (kV (kCallTy cr_intP G.f_int (kCons (kO 4) kNil))) (kV kInt))) kNil))))))) (kV (kLst (kCons (kV (kTup (kCons (kV kInt) (kCons (kV kStr) (kCons (kV kInt) kNil))))) kNil))))))) (zOne (zIf (tCmp (cEq hu) (kO 3) (kV kInt)) (zCons (zSetI set_listP 2 (kV kInt) (kLst (kCons (kV kStr) (kCons (kV kStr) kNil))))
   (zCons (zSetI set_listP 2 (kV kInt) (kLst (kCons (kV (kTup (kCons (kV kInt) (kCons (kV kStr) (kCons (kV kInt) kNil))))) kNil)))
   (zOne (zSetI set_listP 2 (kV kInt) (kLst kNil))))) (zOne (zIf (tCmp (cEq hu) (kO 3) (kV kInt)) (zCons (zSetI set_listP 2 (kV kInt) kInt)
   (zCons (zSetI set_listP 2 (kV kInt) (kLst kNil))
   (zOne (zSetI set_listP 2 (kV kInt) (kLst (kCons (kV kInt) (kCons (kV kInt) kNil))))))) (zOne (zSetI set_listP 2 (kV kInt) (kLst (kCons (kV kStr) (kCons (kV kStr) kNil))))))))))))))))))))))))))
   (zOne (zRetName 2)))))
noncomputable def t_labels_of : SS := (sRet (sPrim pAdd [oVal (sComp [1] (.one 1) (sSeq (oVal (sFld at_ "inputs" (oName 0)))) tTrue (oVal (sPrim pAdd [oVal (sC (.str "!")), oName 1]))), oVal (sComp [1] (.one 1) (sSeq (oVal (sFld at_ "outputs" (oName 0)))) tTrue (oVal (sPrim pAdd [oVal (sC (.str "?")), oName 1])))]))
noncomputable def F_labels_of : List D → Res Vl := runF t_labels_of [false] 2
theorem sc_labels_of : FnScope ["service", "m"] ["service"] (defScope s_labels_of) := _root_.C8.fnScope_by (by kernel_rfl)
theorem d_labels_of {P : Program} {w : World} {K : PySem.W.Frag} {mg : Str → Option Value} {base : Heap} {cl : Str → Option Addr} {f : Addr} {fd : FuncData} (G : Gs K mg cl) (F : FnP K "labels_of" "labels_of" s_labels_of f fd) (TG : TalkG P K mg cl) :
    FnOk P w K mg base CX0' 1 f fd ["service"] (spFn ⟨P, w, K, cl⟩ [false] F_labels_of) :=
  def_ok (cl := cl) (k := 0) (t := t_labels_of) (N := ["service", "m"]) (ps := ["service"]) (modes := [false]) F sc_labels_of rfl fun cdv A outer s H E hr =>
    have hu := hu65 hr
    have hN : List.Nodup (["service", "m"] : List Str) := sc_labels_of.nd
    (zOne (zRet (kAdd (kV (kComp [("m", 1)] rfl hN (iSeq1 (kV (kFld G.hat (kO 0)))) (fun _ _ _ _ _ => g1 hN 1) CIf.none (fun _ _ _ _ _ => kV (kAdd (kV kStr) (kO 1))))) (kV (kComp [("m", 1)] rfl hN (iSeq1 (kV (kFld G.hat (kO 0)))) (fun _ _ _ _ _ => g1 hN 1) CIf.none (fun _ _ _ _ _ => kV (kAdd (kV kStr) (kO 1))))))))
noncomputable def t_u_law_made : SS := (sRet (sMake "Service" [true, true, false, true, true] F_C_Service [oVal (sPrim pList [oVal (sPrim pIxA [oName 0, oVal (sC (.int 0))])]), oVal (sPrim pList [oVal (sPrim pIxA [oName 0, oVal (sC (.int 1))])]), oVal (sPrim pIxA [oName 0, oVal (sC (.int 2))]), oVal (sPrim pList [oVal (sPrim pIxA [oName 0, oVal (sC (.int 3))])]), oVal (sPrim pList [oVal (sPrim pIxA [oName 0, oVal (sC (.int 4))])])]))
noncomputable def F_u_law_made : List D → Res Vl := runF t_u_law_made [false] 1
theorem sc_u_law_made : FnScope ["_law_v"] ["_law_v"] (defScope s_u_law_made) := _root_.C8.fnScope_by (by kernel_rfl)
theorem d_u_law_made {P : Program} {w : World} {K : PySem.W.Frag} {mg : Str → Option Value} {base : Heap} {cl : Str → Option Addr} {f : Addr} {fd : FuncData} (G : Gs K mg cl) (F : FnP K "_law_made" "_law_made" s_u_law_made f fd) (TG : TalkG P K mg cl) (h_C_Service : ClQ (L2N.CX P w) P w K mg base cl 4 "Service" (spBx ⟨P, w, K, cl⟩ [true, true, false, true, true] F_C_Service)) :
    FnOk P w K mg base CX0' 6 f fd ["_law_v"] (spFn ⟨P, w, K, cl⟩ [false] F_u_law_made) :=
  def_ok (cl := cl) (k := 5) (t := t_u_law_made) (N := ["_law_v"]) (ps := ["_law_v"]) (modes := [false]) F sc_u_law_made rfl fun cdv A outer s H E hr =>
    have hu := hu65 hr
    have hN : List.Nodup (["_law_v"] : List Str) := sc_u_law_made.nd
    (zOne (zRet (kMakeQ h_C_Service passN0 hr (by decide) (kCons (kV (kCallTy cr_listP G.f_list (kCons (kV (kIx hu (kO 0) (kV kInt))) kNil))) (kCons (kV (kCallTy cr_listP G.f_list (kCons (kV (kIx hu (kO 0) (kV kInt))) kNil))) (kCons (kV (kIx hu (kO 0) (kV kInt))) (kCons (kV (kCallTy cr_listP G.f_list (kCons (kV (kIx hu (kO 0) (kV kInt))) kNil))) (kCons (kV (kCallTy cr_listP G.f_list (kCons (kV (kIx hu (kO 0) (kV kInt))) kNil))) kNil))))))))
noncomputable def t_u_law_labels : SS := (sRet (sPrim pAdd [oVal (sComp [1] (.one 1) (sSeq (oVal (sPrim pIxA [oName 0, oVal (sC (.int 0))]))) tTrue (oVal (sPrim pAdd [oVal (sC (.str "!")), oName 1]))), oVal (sComp [1] (.one 1) (sSeq (oVal (sPrim pIxA [oName 0, oVal (sC (.int 1))]))) tTrue (oVal (sPrim pAdd [oVal (sC (.str "?")), oName 1])))]))
noncomputable def F_u_law_labels : List D → Res Vl := runF t_u_law_labels [false] 2
theorem sc_u_law_labels : FnScope ["_law_v", "_law_m"] ["_law_v"] (defScope s_u_law_labels) := _root_.C8.fnScope_by (by kernel_rfl)
theorem d_u_law_labels {P : Program} {w : World} {K : PySem.W.Frag} {mg : Str → Option Value} {base : Heap} {cl : Str → Option Addr} {f : Addr} {fd : FuncData} (G : Gs K mg cl) (F : FnP K "_law_labels" "_law_labels" s_u_law_labels f fd) (TG : TalkG P K mg cl) :
    FnOk P w K mg base CX0' 1 f fd ["_law_v"] (spFn ⟨P, w, K, cl⟩ [false] F_u_law_labels) :=
  def_ok (cl := cl) (k := 0) (t := t_u_law_labels) (N := ["_law_v", "_law_m"]) (ps := ["_law_v"]) (modes := [false]) F sc_u_law_labels rfl fun cdv A outer s H E hr =>
    have hu := hu65 hr
    have hN : List.Nodup (["_law_v", "_law_m"] : List Str) := sc_u_law_labels.nd
    (zOne (zRet (kAdd (kV (kComp [("_law_m", 1)] rfl hN (iSeq1 (kV (kIx hu (kO 0) (kV kInt)))) (fun _ _ _ _ _ => g1 hN 1) CIf.none (fun _ _ _ _ _ => kV (kAdd (kV kStr) (kO 1))))) (kV (kComp [("_law_m", 1)] rfl hN (iSeq1 (kV (kIx hu (kO 0) (kV kInt)))) (fun _ _ _ _ _ => g1 hN 1) CIf.none (fun _ _ _ _ _ => kV (kAdd (kV kStr) (kO 1))))))))
noncomputable def b0_u_law_partner : SS := (sIfS (tBool (sPrim pGt [oVal (sPrim pLenA [oName 1]), oVal (sC (.int 0))])) (sThen (sAsg (sTup [oVal (sCallB (List.replicate 1 false) F_u_law_draw 0 [oVal (sName 3)]), oVal (sPrim pIxA [oName 1, oVal (sCallB (List.replicate 1 false) F_u_law_draw 0 [oVal (sPrim pLenA [oName 1])])]), oVal (sCallB (List.replicate 1 false) F_u_law_draw 0 [oVal (sName 3)])]) 6)
   (sIfS (tBool (sPrim pNotInA [oName 6, oName 4])) (sDrop (sMeth .lst pAppend [false] 4 [oVal (sName 6)])) sSkip)) sSkip)
noncomputable def t_u_law_partner : SS := (sThen (sAsg (sPrim pAdd [oVal (sC (.int 1)), oVal (sCallB (List.replicate 1 false) F_u_law_draw 0 [oVal (sName 2)])]) 3)
   (sThen (sAsg (sLst []) 4)
   (sThen (sFor (.one 5) (sRange [oVal (sCallB (List.replicate 1 false) F_u_law_draw 0 [oVal (sPrim pAdd [oVal (sPrim pMul [oVal (sC (.int 3)), oName 3]), oVal (sC (.int 1))])])]) b0_u_law_partner)
   (sRet (sLst [oVal (sName 3), oVal (sPrim pSortedA [oName 4]), oVal (sComp [7] (.one 7) (sRange [oName 3]) (tBool (sPrim pEq [oVal (sCallB (List.replicate 1 false) F_u_law_draw 0 [oVal (sC (.int 2))]), oVal (sC (.int 0))])) (oVal (sName 7)))])))))
noncomputable def F_u_law_partner : D → List D → ResB := runB t_u_law_partner 2 8
theorem sc_u_law_partner : FnScope ["_law_box", "_law_labels_here", "_law_most", "_law_states", "_law_rows", "_law_turn", "_law_row_here", "_law_p"] ["_law_box", "_law_labels_here", "_law_most"] (defScope s_u_law_partner) := _root_.C8.fnScope_by (by kernel_rfl)
theorem d_u_law_partner {P : Program} {w : World} {K : PySem.W.Frag} {mg : Str → Option Value} {base : Heap} {cl : Str → Option Addr} {f : Addr} {fd : FuncData} (G : Gs K mg cl) (F : FnP K "_law_partner" "_law_partner" s_u_law_partner f fd) (TG : TalkG P K mg cl) (h_u_law_draw : FnD P w K mg base 1 "_law_draw" (List.replicate 1 false).length (spBx ⟨P, w, K, cl⟩ (List.replicate 1 false) F_u_law_draw)) :
    FnOk P w K mg base CX0' 2 f fd ["_law_box", "_law_labels_here", "_law_most"] (spBx ⟨P, w, K, cl⟩ (List.replicate 2 false) F_u_law_partner) :=
  bx_ok (cl := cl) (k := 1) (t := t_u_law_partner) (N := ["_law_box", "_law_labels_here", "_law_most", "_law_states", "_law_rows", "_law_turn", "_law_row_here", "_law_p"]) (ps := ["_law_box", "_law_labels_here", "_law_most"]) (m := 2) F sc_u_law_partner rfl fun cdv A outer s H E hr =>
    have hu := hu65 hr
    have hN : List.Nodup (["_law_box", "_law_labels_here", "_law_most", "_law_states", "_law_rows", "_law_turn", "_law_row_here", "_law_p"] : List Str) := sc_u_law_partner.nd
    (zCons (zSet hN 3 (kAdd (kV kInt) (kV (kCallBx h_u_law_draw hr (by decide) 0 (kCons (kO 0) (kCons (kV (kN 2)) kNil))))))
   (zCons (zSet hN 4 (kLst kNil))
   (zCons (zFor PassesOwn.never rfl (iRange1 G.f_range (kCons (kV (kCallBx h_u_law_draw hr (by decide) 0 (kCons (kO 0) (kCons (kV (kAdd (kV (kMul (kV kInt) (kO 3))) (kV kInt))) kNil)))) kNil)) (g1 hN 5) (zOne (zIf (tCmp cGt (kV (kCallB bLen G.f_len (kCons (kO 1) kNil))) (kV kInt)) (zCons (zSet hN 6 (kTup (kCons (kV (kCallBx h_u_law_draw hr (by decide) 0 (kCons (kO 0) (kCons (kV (kN 3)) kNil)))) (kCons (kV (kIx hu (kO 1) (kV (kCallBx h_u_law_draw hr (by decide) 0 (kCons (kO 0) (kCons (kV (kCallB bLen G.f_len (kCons (kO 1) kNil))) kNil)))))) (kCons (kV (kCallBx h_u_law_draw hr (by decide) 0 (kCons (kO 0) (kCons (kV (kN 3)) kNil)))) kNil)))))
   (zOne (zIf (tCmp (cNotIn hu) (kO 6) (kO 4)) (zOne (zExpr (kMeth mAppend 4 (kCons (kV (kN 6)) kNil)))) zNil))) zNil)))
   (zOne (zRet (kLst (kCons (kV (kN 3)) (kCons (kV (kCallB (bSorted rfl hu) G.f_sorted (kCons (kO 4) kNil))) (kCons (kV (kComp [("_law_p", 7)] rfl hN (iRange1 G.f_range (kCons (kO 3) kNil)) (fun _ _ _ _ _ => g1 hN 7) (CIf.one (fun _ _ _ _ _ => tCmp (cEq hu) (kV (kCallBx h_u_law_draw hr (by decide) 0 (kCons (kO 0) (kCons (kV kInt) kNil)))) (kV kInt))) (fun _ _ _ _ _ => kV (kN 7)))) kNil)))))))))
noncomputable def t_is_label : SS := (sRet (sAnd (sPrim (pIsi (fIsi "str")) [oName 0]) (sAnd (sPrim pInA [oVal (sSlice (oName 0) none (some (oVal (sC (.int 1))))), oVal (sTup [oVal (sC (.str "!")), oVal (sC (.str "?"))])]) (sCall [false] F_is_message [oVal (sSlice (oName 0) (some (oVal (sC (.int 1)))) none)]))))
noncomputable def F_is_label : List D → Res Vl := runF t_is_label [false] 1
theorem sc_is_label : FnScope ["thing"] ["thing"] (defScope s_is_label) := _root_.C8.fnScope_by (by kernel_rfl)
theorem d_is_label {P : Program} {w : World} {K : PySem.W.Frag} {mg : Str → Option Value} {base : Heap} {cl : Str → Option Addr} {f : Addr} {fd : FuncData} (G : Gs K mg cl) (F : FnP K "is_label" "is_label" s_is_label f fd) (TG : TalkG P K mg cl) (h_is_message : FnD P w K mg base 1 "is_message" [false].length (spFn ⟨P, w, K, cl⟩ [false] F_is_message)) :
    FnOk P w K mg base CX0' 2 f fd ["thing"] (spFn ⟨P, w, K, cl⟩ [false] F_is_label) :=
  def_ok (cl := cl) (k := 1) (t := t_is_label) (N := ["thing"]) (ps := ["thing"]) (modes := [false]) F sc_is_label rfl fun cdv A outer s H E hr =>
    have hu := hu65 hr
    have hN : List.Nodup (["thing"] : List Str) := sc_is_label.nd
    (zOne (zRet (kAnd (kIsi (fIsi_ok "str") (kO 0) G.f_isinstance G.f_str) (kAnd (kCmp (cIn hu) (kV (kSlice (kO 0) pNone (pSome (kV kInt)))) (kV (kTup (kCons (kV kStr) (kCons (kV kStr) kNil))))) (kOne (kCall h_is_message hr (by decide) (kCons (kV (kSlice (kO 0) (pSome (kV kInt)) pNone)) kNil)))))))
noncomputable def t_C_Partner : SS := (sThen (sAsg (sCall [false, false, true, false, true] F_u_is_shape [oVal (sName 1), oVal (sC (.int 300)), oName 2, oVal (sC (.int 2000)), oName 3]) 4)
   (sThen (sIfS (Ev.tOr (Ev.tNot (tVal (oName 4))) (Ev.tNot (tVal (oVal (sPrim pAll [oVal (sComp [5, 6, 7] (.many [5, 6, 7]) (sSeq (oName 2)) tTrue (oVal (sCall [false] F_is_label [oVal (sName 6)])))]))))) (sRaise "no partner") sSkip)
   (sThen (sSetF at_ "states" 0 (sName 1))
   (sThen (sSetF at_ "transitions" 0 (sPrim pSortedA [oName 2]))
   (sSetF at_ "final" 0 (sPrim pList [oName 3]))))))
noncomputable def F_C_Partner : D → List D → ResB := runBM t_C_Partner [false, true, true] 8
theorem sc_C_Partner : FnScope ["self", "states", "transitions", "final", "good", "before", "label", "after"] ["self", "states", "transitions", "final"] (defScope s_C_Partner) := _root_.C8.fnScope_by (by kernel_rfl)
theorem d_C_Partner {P : Program} {w : World} {K : PySem.W.Frag} {mg : Str → Option Value} {base : Heap} {cl : Str → Option Addr} {f : Addr} {fd : FuncData} (G : Gs K mg cl) (F : FnP K "__init__" "Partner.__init__" s_C_Partner f fd) (TG : TalkG P K mg cl) (h_u_is_shape : FnD P w K mg base 3 "_is_shape" [false, false, true, false, true].length (spFn ⟨P, w, K, cl⟩ [false, false, true, false, true] F_u_is_shape)) (h_is_label : FnD P w K mg base 2 "is_label" [false].length (spFn ⟨P, w, K, cl⟩ [false] F_is_label)) :
    FnOk P w K mg base (L2N.CX P w) 4 f fd ["self", "states", "transitions", "final"] (spBx ⟨P, w, K, cl⟩ [false, true, true] F_C_Partner) :=
  bm_okN (cl := cl) (k := 3) (t := t_C_Partner) (N := ["self", "states", "transitions", "final", "good", "before", "label", "after"]) (ps := ["self", "states", "transitions", "final"]) (modes := [false, true, true]) F sc_C_Partner rfl fun cdv A outer s H E hr I =>
    have hu := hu65 hr
    have hN : List.Nodup (["self", "states", "transitions", "final", "good", "before", "label", "after"] : List Str) := sc_C_Partner.nd
    (zCons (zSet hN 4 (kCall h_u_is_shape hr (by decide) (kCons (kV (kN 1)) (kCons (kV G.c_MOST_PARTNER_STATES.ve) (kCons (kO 2) (kCons (kV G.c_MOST_PARTNER_TRANSITIONS.ve) (kCons (kO 3) kNil)))))))
   (zCons (zIf (tW (wOr (tNot1 (tTru (kO 4))) (wOr1 (tNot1 (tTru (kV (kCallB (cr_allP rfl) G.f_all (kCons (kV (kComp [("before", 5), ("label", 6), ("after", 7)] rfl hN (iSeq1 (kO 2)) (fun _ _ _ _ _ => gN rfl (gsCons hN 5 (gsCons hN 6 (gsCons hN 7 gsNil)))) CIf.none (fun _ _ _ _ _ => kV (kCall h_is_label hr (by decide) (kCons (kV (kN 6)) kNil))))) kNil)))))))) (zOne (zRaiseN rfl TG (dep1 hr) I.tk)) zNil)
   (zCons (zSetF G.hat 0 (kN 1))
   (zCons (zSetF G.hat 0 (kCallB (bSorted rfl hu) G.f_sorted (kCons (kO 2) kNil)))
   (zOne (zSetF G.hat 0 (kCallTy cr_listP G.f_list (kCons (kO 3) kNil))))))))
noncomputable def t_u_law_partner_told : SS := (sThen (sTry (sAsg (sMake "Partner" [false, true, true] F_C_Partner [oVal (sPrim pIxA [oName 0, oVal (sC (.int 0))]), oVal (sPrim pIxA [oName 0, oVal (sC (.int 1))]), oVal (sPrim pIxA [oName 0, oVal (sC (.int 2))])]) 2) (hReason 1))
   (sRet (sLst [oVal (sFld at_ "states" (oName 2)), oVal (sFld at_ "transitions" (oName 2)), oVal (sFld at_ "final" (oName 2))])))
noncomputable def F_u_law_partner_told : List D → Res Vl := runF t_u_law_partner_told [false] 3
theorem sc_u_law_partner_told : FnScope ["_law_p", "e", "_law_made_here"] ["_law_p"] (defScope s_u_law_partner_told) := _root_.C8.fnScope_by (by kernel_rfl)
theorem d_u_law_partner_told {P : Program} {w : World} {K : PySem.W.Frag} {mg : Str → Option Value} {base : Heap} {cl : Str → Option Addr} {f : Addr} {fd : FuncData} (G : Gs K mg cl) (F : FnP K "_law_partner_told" "_law_partner_told" s_u_law_partner_told f fd) (TG : TalkG P K mg cl) (h_C_Partner : ClQ (L2N.CX P w) P w K mg base cl 4 "Partner" (spBx ⟨P, w, K, cl⟩ [false, true, true] F_C_Partner)) :
    FnOk P w K mg base CX0' 6 f fd ["_law_p"] (spFn ⟨P, w, K, cl⟩ [false] F_u_law_partner_told) :=
  def_ok (cl := cl) (k := 5) (t := t_u_law_partner_told) (N := ["_law_p", "e", "_law_made_here"]) (ps := ["_law_p"]) (modes := [false]) F sc_u_law_partner_told rfl fun cdv A outer s H E hr =>
    have hu := hu65 hr
    have hN : List.Nodup (["_law_p", "e", "_law_made_here"] : List Str) := sc_u_law_partner_told.nd
    (zCons (zTryR TG hN 1 (fun W' pn xe tk' hp' => (zOne (zSet hN 2 (kMakeQ h_C_Partner (passNL tk') hr (by decide) (kCons (kV (kIx hu (kO 0) (kV kInt))) (kCons (kV (kIx hu (kO 0) (kV kInt))) (kCons (kV (kIx hu (kO 0) (kV kInt))) kNil))))))) L2.takes0)
   (zOne (zRet (kLst (kCons (kV (kFld G.hat (kO 2))) (kCons (kV (kFld G.hat (kO 2))) (kCons (kV (kFld G.hat (kO 2))) kNil)))))))
noncomputable def t_u_law_bad_partner : SS := (sRet (sPrim pIxA [oVal (sLst [oVal (sLst [oVal (sC (.int 0)), oVal (sLst []), oVal (sLst [])]), oVal (sLst [oVal (sC (.int 301)), oVal (sLst []), oVal (sLst [])]), oVal (sLst [oVal (sPrim pIxA [oName 1, oVal (sC (.int 0))]), oVal (sPrim pAdd [oVal (sPrim pIxA [oName 1, oVal (sC (.int 1))]), oVal (sLst [oVal (sTup [oVal (sC (.int 0)), oVal (sC (.str "tau")), oVal (sC (.int 0))])])]), oVal (sPrim pIxA [oName 1, oVal (sC (.int 2))])]), oVal (sLst [oVal (sPrim pIxA [oName 1, oVal (sC (.int 0))]), oVal (sPrim pAdd [oVal (sPrim pIxA [oName 1, oVal (sC (.int 1))]), oVal (sLst [oVal (sTup [oVal (sC (.int 0)), oVal (sC (.str "!a")), oVal (sPrim pIxA [oName 1, oVal (sC (.int 0))])])])]), oVal (sPrim pIxA [oName 1, oVal (sC (.int 2))])]), oVal (sLst [oVal (sPrim pIxA [oName 1, oVal (sC (.int 0))]), oVal (sPrim pIxA [oName 1, oVal (sC (.int 1))]), oVal (sLst [oVal (sPrim pIxA [oName 1, oVal (sC (.int 0))])])]), oVal (sLst [oVal (sPrim pIxA [oName 1, oVal (sC (.int 0))]), oVal (sLst [oVal (sTup [oVal (sC (.int 0)), oVal (sC (.str "!a")), oVal (sC (.int 0))]), oVal (sTup [oVal (sC (.int 0)), oVal (sC (.str "!a")), oVal (sC (.int 0))])]), oVal (sLst [])]), oVal (sLst [oVal (sC (.int 2)), oVal (sLst []), oVal (sLst [oVal (sC (.int 1)), oVal (sC (.int 0))])]), oVal (sLst [oVal (sC (.int 1)), oVal (sLst [oVal (sTup [oVal (sC (.int 0)), oVal (sC (.str "a")), oVal (sC (.int 0))])]), oVal (sLst [])]), oVal (sLst [oVal (sC (.int 1)), oVal (sLst [oVal (sTup [oVal (sC (.int 0)), oVal (sC (.str "!A")), oVal (sC (.int 0))])]), oVal (sLst [])])]), oVal (sCallB (List.replicate 1 false) F_u_law_draw 0 [oVal (sC (.int 9))])]))
noncomputable def F_u_law_bad_partner : D → List D → ResB := runB t_u_law_bad_partner 1 2
theorem sc_u_law_bad_partner : FnScope ["_law_box", "_law_p"] ["_law_box", "_law_p"] (defScope s_u_law_bad_partner) := _root_.C8.fnScope_by (by kernel_rfl)
theorem d_u_law_bad_partner {P : Program} {w : World} {K : PySem.W.Frag} {mg : Str → Option Value} {base : Heap} {cl : Str → Option Addr} {f : Addr} {fd : FuncData} (G : Gs K mg cl) (F : FnP K "_law_bad_partner" "_law_bad_partner" s_u_law_bad_partner f fd) (TG : TalkG P K mg cl) (h_u_law_draw : FnD P w K mg base 1 "_law_draw" (List.replicate 1 false).length (spBx ⟨P, w, K, cl⟩ (List.replicate 1 false) F_u_law_draw)) :
    FnOk P w K mg base CX0' 2 f fd ["_law_box", "_law_p"] (spBx ⟨P, w, K, cl⟩ (List.replicate 1 false) F_u_law_bad_partner) :=
  bx_ok (cl := cl) (k := 1) (t := t_u_law_bad_partner) (N := ["_law_box", "_law_p"]) (ps := ["_law_box", "_law_p"]) (m := 1) F sc_u_law_bad_partner rfl fun cdv A outer s H E hr =>
    have hu := hu65 hr
    have hN : List.Nodup (["_law_box", "_law_p"] : List Str) := sc_u_law_bad_partner.nd
    (zOne (zRet (kIx hu (kV (kLst (kCons (kV (kLst (kCons (kV kInt) (kCons (kV (kLst kNil)) (kCons (kV (kLst kNil)) kNil))))) (kCons (kV (kLst (kCons (kV kInt) (kCons (kV (kLst kNil)) (kCons (kV (kLst kNil)) kNil))))) (kCons (kV (kLst (kCons (kV (kIx hu (kO 1) (kV kInt))) (kCons (kV (kAdd (kV (kIx hu (kO 1) (kV kInt))) (kV (kLst (kCons (kV (kTup (kCons (kV kInt) (kCons (kV kStr) (kCons (kV kInt) kNil))))) kNil))))) (kCons (kV (kIx hu (kO 1) (kV kInt))) kNil))))) (kCons (kV (kLst (kCons (kV (kIx hu (kO 1) (kV kInt))) (kCons (kV (kAdd (kV (kIx hu (kO 1) (kV kInt))) (kV (kLst (kCons (kV (kTup (kCons (kV kInt) (kCons (kV kStr) (kCons (kV (kIx hu (kO 1) (kV kInt))) kNil))))) kNil))))) (kCons (kV (kIx hu (kO 1) (kV kInt))) kNil))))) (kCons (kV (kLst (kCons (kV (kIx hu (kO 1) (kV kInt))) (kCons (kV (kIx hu (kO 1) (kV kInt))) (kCons (kV (kLst (kCons (kV (kIx hu (kO 1) (kV kInt))) kNil))) kNil))))) (kCons (kV (kLst (kCons (kV (kIx hu (kO 1) (kV kInt))) (kCons (kV (kLst (kCons (kV (kTup (kCons (kV kInt) (kCons (kV kStr) (kCons (kV kInt) kNil))))) (kCons (kV (kTup (kCons (kV kInt) (kCons (kV kStr) (kCons (kV kInt) kNil))))) kNil)))) (kCons (kV (kLst kNil)) kNil))))) (kCons (kV (kLst (kCons (kV kInt) (kCons (kV (kLst kNil)) (kCons (kV (kLst (kCons (kV kInt) (kCons (kV kInt) kNil)))) kNil))))) (kCons (kV (kLst (kCons (kV kInt) (kCons (kV (kLst (kCons (kV (kTup (kCons (kV kInt) (kCons (kV kStr) (kCons (kV kInt) kNil))))) kNil))) (kCons (kV (kLst kNil)) kNil))))) (kCons (kV (kLst (kCons (kV kInt) (kCons (kV (kLst (kCons (kV (kTup (kCons (kV kInt) (kCons (kV kStr) (kCons (kV kInt) kNil))))) kNil))) (kCons (kV (kLst kNil)) kNil))))) kNil))))))))))) (kV (kCallBx h_u_law_draw hr (by decide) 0 (kCons (kO 0) (kCons (kV kInt) kNil)))))))
noncomputable def t_is_partner_for : SS := (sThen (sAsg (sCall [false] F_labels_of [oVal (sName 0)]) 2)
   (sRet (sPrim pAll [oVal (sComp [3, 4, 5] (.many [3, 4, 5]) (sSeq (oVal (sFld at_ "transitions" (oName 1)))) tTrue (oVal (sPrim pInA [oName 4, oName 2])))])))
noncomputable def F_is_partner_for : List D → Res Vl := runF t_is_partner_for [false, false] 6
theorem sc_is_partner_for : FnScope ["service", "partner", "labels", "before", "label", "after"] ["service", "partner"] (defScope s_is_partner_for) := _root_.C8.fnScope_by (by kernel_rfl)
theorem d_is_partner_for {P : Program} {w : World} {K : PySem.W.Frag} {mg : Str → Option Value} {base : Heap} {cl : Str → Option Addr} {f : Addr} {fd : FuncData} (G : Gs K mg cl) (F : FnP K "is_partner_for" "is_partner_for" s_is_partner_for f fd) (TG : TalkG P K mg cl) (h_labels_of : FnD P w K mg base 1 "labels_of" [false].length (spFn ⟨P, w, K, cl⟩ [false] F_labels_of)) :
    FnOk P w K mg base CX0' 2 f fd ["service", "partner"] (spFn ⟨P, w, K, cl⟩ [false, false] F_is_partner_for) :=
  def_ok (cl := cl) (k := 1) (t := t_is_partner_for) (N := ["service", "partner", "labels", "before", "label", "after"]) (ps := ["service", "partner"]) (modes := [false, false]) F sc_is_partner_for rfl fun cdv A outer s H E hr =>
    have hu := hu65 hr
    have hN : List.Nodup (["service", "partner", "labels", "before", "label", "after"] : List Str) := sc_is_partner_for.nd
    (zCons (zSet hN 2 (kCall h_labels_of hr (by decide) (kCons (kV (kN 0)) kNil)))
   (zOne (zRet (kCallB (cr_allP rfl) G.f_all (kCons (kV (kComp [("before", 3), ("label", 4), ("after", 5)] rfl hN (iSeq1 (kV (kFld G.hat (kO 1)))) (fun _ _ _ _ _ => gN rfl (gsCons hN 3 (gsCons hN 4 (gsCons hN 5 gsNil)))) CIf.none (fun _ _ _ _ _ => kV (kCmp (cIn hu) (kO 4) (kO 2))))) kNil)))))
noncomputable def t_u_law_mate : SS := (sRet (sMake "Partner" [false, true, true] F_C_Partner [oVal (sPrim pIxA [oName 0, oVal (sC (.int 0))]), oVal (sPrim pList [oVal (sPrim pIxA [oName 0, oVal (sC (.int 1))])]), oVal (sPrim pList [oVal (sPrim pIxA [oName 0, oVal (sC (.int 2))])])]))
noncomputable def F_u_law_mate : List D → Res Vl := runF t_u_law_mate [false] 1
theorem sc_u_law_mate : FnScope ["_law_p"] ["_law_p"] (defScope s_u_law_mate) := _root_.C8.fnScope_by (by kernel_rfl)
theorem d_u_law_mate {P : Program} {w : World} {K : PySem.W.Frag} {mg : Str → Option Value} {base : Heap} {cl : Str → Option Addr} {f : Addr} {fd : FuncData} (G : Gs K mg cl) (F : FnP K "_law_mate" "_law_mate" s_u_law_mate f fd) (TG : TalkG P K mg cl) (h_C_Partner : ClQ (L2N.CX P w) P w K mg base cl 4 "Partner" (spBx ⟨P, w, K, cl⟩ [false, true, true] F_C_Partner)) :
    FnOk P w K mg base CX0' 6 f fd ["_law_p"] (spFn ⟨P, w, K, cl⟩ [false] F_u_law_mate) :=
  def_ok (cl := cl) (k := 5) (t := t_u_law_mate) (N := ["_law_p"]) (ps := ["_law_p"]) (modes := [false]) F sc_u_law_mate rfl fun cdv A outer s H E hr =>
    have hu := hu65 hr
    have hN : List.Nodup (["_law_p"] : List Str) := sc_u_law_mate.nd
    (zOne (zRet (kMakeQ h_C_Partner passN0 hr (by decide) (kCons (kV (kIx hu (kO 0) (kV kInt))) (kCons (kV (kCallTy cr_listP G.f_list (kCons (kV (kIx hu (kO 0) (kV kInt))) kNil))) (kCons (kV (kCallTy cr_listP G.f_list (kCons (kV (kIx hu (kO 0) (kV kInt))) kNil))) kNil))))))
noncomputable def t_u_law_link : SS := (sThen (sAsg (sCallB (List.replicate 1 false) F_u_law_draw 0 [oVal (sC (.int 3))]) 1)
   (sThen (sAsg (sPrim pIxA [oVal (sLst [oVal (sC (.str "row")), oVal (sC (.str "bag"))]), oVal (sCallB (List.replicate 1 false) F_u_law_draw 0 [oVal (sC (.int 2))])]) 2)
   (sThen (sIfS (tBool (sPrim pEq [oName 1, oVal (sC (.int 0))])) (sRet (sLst [oVal (sC (.int 0)), oVal (sName 2), oVal (sC (.int 0)), oVal (sC (.int 0))])) sSkip)
   (sRet (sLst [oVal (sName 1), oVal (sName 2), oVal (sPrim pIxA [oVal (sLst [oVal (sC (.int 0)), oVal (sC (.int 0)), oVal (sC (.int 1))]), oVal (sCallB (List.replicate 1 false) F_u_law_draw 0 [oVal (sC (.int 3))])]), oVal (sPrim pIxA [oVal (sLst [oVal (sC (.int 0)), oVal (sC (.int 0)), oVal (sC (.int 1)), oVal (sC (.int 2))]), oVal (sCallB (List.replicate 1 false) F_u_law_draw 0 [oVal (sC (.int 4))])])])))))
noncomputable def F_u_law_link : D → List D → ResB := runB t_u_law_link 0 3
theorem sc_u_law_link : FnScope ["_law_box", "_law_capacity", "_law_order"] ["_law_box"] (defScope s_u_law_link) := _root_.C8.fnScope_by (by kernel_rfl)
theorem d_u_law_link {P : Program} {w : World} {K : PySem.W.Frag} {mg : Str → Option Value} {base : Heap} {cl : Str → Option Addr} {f : Addr} {fd : FuncData} (G : Gs K mg cl) (F : FnP K "_law_link" "_law_link" s_u_law_link f fd) (TG : TalkG P K mg cl) (h_u_law_draw : FnD P w K mg base 1 "_law_draw" (List.replicate 1 false).length (spBx ⟨P, w, K, cl⟩ (List.replicate 1 false) F_u_law_draw)) :
    FnOk P w K mg base CX0' 2 f fd ["_law_box"] (spBx ⟨P, w, K, cl⟩ (List.replicate 0 false) F_u_law_link) :=
  bx_ok (cl := cl) (k := 1) (t := t_u_law_link) (N := ["_law_box", "_law_capacity", "_law_order"]) (ps := ["_law_box"]) (m := 0) F sc_u_law_link rfl fun cdv A outer s H E hr =>
    have hu := hu65 hr
    have hN : List.Nodup (["_law_box", "_law_capacity", "_law_order"] : List Str) := sc_u_law_link.nd
    (zCons (zSet hN 1 (kCallBx h_u_law_draw hr (by decide) 0 (kCons (kO 0) (kCons (kV kInt) kNil))))
   (zCons (zSet hN 2 (kIx hu (kV (kLst (kCons (kV kStr) (kCons (kV kStr) kNil)))) (kV (kCallBx h_u_law_draw hr (by decide) 0 (kCons (kO 0) (kCons (kV kInt) kNil))))))
   (zCons (zIf (tCmp (cEq hu) (kO 1) (kV kInt)) (zOne (zRet (kLst (kCons (kV kInt) (kCons (kV (kN 2)) (kCons (kV kInt) (kCons (kV kInt) kNil))))))) zNil)
   (zOne (zRet (kLst (kCons (kV (kN 1)) (kCons (kV (kN 2)) (kCons (kV (kIx hu (kV (kLst (kCons (kV kInt) (kCons (kV kInt) (kCons (kV kInt) kNil))))) (kV (kCallBx h_u_law_draw hr (by decide) 0 (kCons (kO 0) (kCons (kV kInt) kNil)))))) (kCons (kV (kIx hu (kV (kLst (kCons (kV kInt) (kCons (kV kInt) (kCons (kV kInt) (kCons (kV kInt) kNil)))))) (kV (kCallBx h_u_law_draw hr (by decide) 0 (kCons (kO 0) (kCons (kV kInt) kNil)))))) kNil))))))))))
noncomputable def t_C_Link : SS := (sThen (sAsg (sAnd (sCall [false, false] F_is_number [oVal (sName 1), oVal (sC (.int 2))]) (sAnd (sPrim pInA [oName 2, oVal (sTup [oVal (sC (.str "row")), oVal (sC (.str "bag"))])]) (sAnd (sCall [false, false] F_is_number [oVal (sName 3), oVal (sC (.int 2))]) (sCall [false, false] F_is_number [oVal (sName 4), oVal (sC (.int 2))])))) 5)
   (sThen (sIfS (Ev.tOr (Ev.tNot (tVal (oName 5))) (Ev.tAnd (tBool (sPrim pEq [oName 1, oVal (sC (.int 0))])) (tBool (sPrim pGt [oVal (sPrim pAdd [oName 3, oName 4]), oVal (sC (.int 0))])))) (sRaise "no link") sSkip)
   (sThen (sSetF at_ "capacity" 0 (sName 1))
   (sThen (sSetF at_ "order" 0 (sName 2))
   (sThen (sSetF at_ "losses" 0 (sName 3))
   (sSetF at_ "doubles" 0 (sName 4)))))))
noncomputable def F_C_Link : D → List D → ResB := runBX t_C_Link 4 6
theorem sc_C_Link : FnScope ["self", "capacity", "order", "losses", "doubles", "good"] ["self", "capacity", "order", "losses", "doubles"] (defScope s_C_Link) := _root_.C8.fnScope_by (by kernel_rfl)
theorem d_C_Link {P : Program} {w : World} {K : PySem.W.Frag} {mg : Str → Option Value} {base : Heap} {cl : Str → Option Addr} {f : Addr} {fd : FuncData} (G : Gs K mg cl) (F : FnP K "__init__" "Link.__init__" s_C_Link f fd) (TG : TalkG P K mg cl) (h_is_number : FnD P w K mg base 1 "is_number" [false, false].length (spFn ⟨P, w, K, cl⟩ [false, false] F_is_number)) :
    FnOk P w K mg base (L2N.CX P w) 2 f fd ["self", "capacity", "order", "losses", "doubles"] (spBx ⟨P, w, K, cl⟩ (List.replicate 4 false) F_C_Link) :=
  bx_okN (cl := cl) (k := 1) (t := t_C_Link) (N := ["self", "capacity", "order", "losses", "doubles", "good"]) (ps := ["self", "capacity", "order", "losses", "doubles"]) (m := 4) F sc_C_Link rfl fun cdv A outer s H E hr I =>
    have hu := hu65 hr
    have hN : List.Nodup (["self", "capacity", "order", "losses", "doubles", "good"] : List Str) := sc_C_Link.nd
    (zCons (zSet hN 5 (kAnd (kCall h_is_number hr (by decide) (kCons (kV (kN 1)) (kCons (kV kInt) kNil))) (kAnd (kCmp (cIn hu) (kO 2) (kV (kTup (kCons (kV kStr) (kCons (kV kStr) kNil))))) (kAnd (kCall h_is_number hr (by decide) (kCons (kV (kN 3)) (kCons (kV kInt) kNil))) (kOne (kCall h_is_number hr (by decide) (kCons (kV (kN 4)) (kCons (kV kInt) kNil))))))))
   (zCons (zIf (tW (wOr (tNot1 (tTru (kO 5))) (wOr1 (tW (wAnd (tCmp (cEq hu) (kO 1) (kV kInt)) (wAnd1 (tCmp cGt (kV (kAdd (kO 3) (kO 4))) (kV kInt)))))))) (zOne (zRaiseN rfl TG (dep1 hr) I.tk)) zNil)
   (zCons (zSetF G.hat 0 (kN 1))
   (zCons (zSetF G.hat 0 (kN 2))
   (zCons (zSetF G.hat 0 (kN 3))
   (zOne (zSetF G.hat 0 (kN 4))))))))
noncomputable def t_u_law_link_told : SS := (sThen (sTry (sAsg (sMake "Link" (List.replicate 4 false) F_C_Link [oVal (sPrim pIxA [oName 0, oVal (sC (.int 0))]), oVal (sPrim pIxA [oName 0, oVal (sC (.int 1))]), oVal (sPrim pIxA [oName 0, oVal (sC (.int 2))]), oVal (sPrim pIxA [oName 0, oVal (sC (.int 3))])]) 2) (hReason 1))
   (sRet (sLst [oVal (sFld at_ "capacity" (oName 2)), oVal (sFld at_ "order" (oName 2)), oVal (sFld at_ "losses" (oName 2)), oVal (sFld at_ "doubles" (oName 2))])))
noncomputable def F_u_law_link_told : List D → Res Vl := runF t_u_law_link_told [false] 3
theorem sc_u_law_link_told : FnScope ["_law_one", "e", "_law_made_here"] ["_law_one"] (defScope s_u_law_link_told) := _root_.C8.fnScope_by (by kernel_rfl)
theorem d_u_law_link_told {P : Program} {w : World} {K : PySem.W.Frag} {mg : Str → Option Value} {base : Heap} {cl : Str → Option Addr} {f : Addr} {fd : FuncData} (G : Gs K mg cl) (F : FnP K "_law_link_told" "_law_link_told" s_u_law_link_told f fd) (TG : TalkG P K mg cl) (h_C_Link : ClQ (L2N.CX P w) P w K mg base cl 2 "Link" (spBx ⟨P, w, K, cl⟩ (List.replicate 4 false) F_C_Link)) :
    FnOk P w K mg base CX0' 4 f fd ["_law_one"] (spFn ⟨P, w, K, cl⟩ [false] F_u_law_link_told) :=
  def_ok (cl := cl) (k := 3) (t := t_u_law_link_told) (N := ["_law_one", "e", "_law_made_here"]) (ps := ["_law_one"]) (modes := [false]) F sc_u_law_link_told rfl fun cdv A outer s H E hr =>
    have hu := hu65 hr
    have hN : List.Nodup (["_law_one", "e", "_law_made_here"] : List Str) := sc_u_law_link_told.nd
    (zCons (zTryR TG hN 1 (fun W' pn xe tk' hp' => (zOne (zSet hN 2 (kMakeQ h_C_Link (passNL tk') hr (by decide) (kCons (kV (kIx hu (kO 0) (kV kInt))) (kCons (kV (kIx hu (kO 0) (kV kInt))) (kCons (kV (kIx hu (kO 0) (kV kInt))) (kCons (kV (kIx hu (kO 0) (kV kInt))) kNil)))))))) L2.takes0)
   (zOne (zRet (kLst (kCons (kV (kFld G.hat (kO 2))) (kCons (kV (kFld G.hat (kO 2))) (kCons (kV (kFld G.hat (kO 2))) (kCons (kV (kFld G.hat (kO 2))) kNil))))))))
noncomputable def t_u_law_bad_link : SS := (sRet (sPrim pIxA [oVal (sLst [oVal (sLst [oVal (sC (.int 3)), oVal (sC (.str "row")), oVal (sC (.int 0)), oVal (sC (.int 0))]), oVal (sLst [oVal (sPrim pNeg1 [oVal (sC (.int 1))]), oVal (sC (.str "row")), oVal (sC (.int 0)), oVal (sC (.int 0))]), oVal (sLst [oVal (sC (.int 1)), oVal (sC (.str "heap")), oVal (sC (.int 0)), oVal (sC (.int 0))]), oVal (sLst [oVal (sC (.int 1)), oVal (sC (.str "row")), oVal (sC (.int 3)), oVal (sC (.int 0))]), oVal (sLst [oVal (sC (.int 1)), oVal (sC (.str "bag")), oVal (sC (.int 0)), oVal (sC (.int 3))]), oVal (sLst [oVal (sC (.int 0)), oVal (sC (.str "row")), oVal (sC (.int 1)), oVal (sC (.int 0))]), oVal (sLst [oVal (sC (.int 0)), oVal (sC (.str "bag")), oVal (sC (.int 0)), oVal (sC (.int 1))]), oVal (sLst [oVal (sC (.bl true)), oVal (sC (.str "row")), oVal (sC (.int 0)), oVal (sC (.int 0))]), oVal (sLst [oVal (sC (.int 1)), oVal (sC (.str "row")), oVal (sPrim pNeg1 [oVal (sC (.int 1))]), oVal (sC (.int 0))])]), oVal (sCallB (List.replicate 1 false) F_u_law_draw 0 [oVal (sC (.int 9))])]))
noncomputable def F_u_law_bad_link : D → List D → ResB := runB t_u_law_bad_link 0 1
theorem sc_u_law_bad_link : FnScope ["_law_box"] ["_law_box"] (defScope s_u_law_bad_link) := _root_.C8.fnScope_by (by kernel_rfl)
theorem d_u_law_bad_link {P : Program} {w : World} {K : PySem.W.Frag} {mg : Str → Option Value} {base : Heap} {cl : Str → Option Addr} {f : Addr} {fd : FuncData} (G : Gs K mg cl) (F : FnP K "_law_bad_link" "_law_bad_link" s_u_law_bad_link f fd) (TG : TalkG P K mg cl) (h_u_law_draw : FnD P w K mg base 1 "_law_draw" (List.replicate 1 false).length (spBx ⟨P, w, K, cl⟩ (List.replicate 1 false) F_u_law_draw)) :
    FnOk P w K mg base CX0' 2 f fd ["_law_box"] (spBx ⟨P, w, K, cl⟩ (List.replicate 0 false) F_u_law_bad_link) :=
  bx_ok (cl := cl) (k := 1) (t := t_u_law_bad_link) (N := ["_law_box"]) (ps := ["_law_box"]) (m := 0) F sc_u_law_bad_link rfl fun cdv A outer s H E hr =>
    have hu := hu65 hr
    have hN : List.Nodup (["_law_box"] : List Str) := sc_u_law_bad_link.nd
    (zOne (zRet (kIx hu (kV (kLst (kCons (kV (kLst (kCons (kV kInt) (kCons (kV kStr) (kCons (kV kInt) (kCons (kV kInt) kNil)))))) (kCons (kV (kLst (kCons (kV (kNeg (kV kInt))) (kCons (kV kStr) (kCons (kV kInt) (kCons (kV kInt) kNil)))))) (kCons (kV (kLst (kCons (kV kInt) (kCons (kV kStr) (kCons (kV kInt) (kCons (kV kInt) kNil)))))) (kCons (kV (kLst (kCons (kV kInt) (kCons (kV kStr) (kCons (kV kInt) (kCons (kV kInt) kNil)))))) (kCons (kV (kLst (kCons (kV kInt) (kCons (kV kStr) (kCons (kV kInt) (kCons (kV kInt) kNil)))))) (kCons (kV (kLst (kCons (kV kInt) (kCons (kV kStr) (kCons (kV kInt) (kCons (kV kInt) kNil)))))) (kCons (kV (kLst (kCons (kV kInt) (kCons (kV kStr) (kCons (kV kInt) (kCons (kV kInt) kNil)))))) (kCons (kV (kLst (kCons (kV kBool) (kCons (kV kStr) (kCons (kV kInt) (kCons (kV kInt) kNil)))))) (kCons (kV (kLst (kCons (kV kInt) (kCons (kV kStr) (kCons (kV (kNeg (kV kInt))) (kCons (kV kInt) kNil)))))) kNil))))))))))) (kV (kCallBx h_u_law_draw hr (by decide) 0 (kCons (kO 0) (kCons (kV kInt) kNil)))))))
noncomputable def t_u_law_at_bounds : SS := (sThen (sAsg (sLst [oVal (sLst [oVal (sC (.str "abcdefgh")), oVal (sC (.str "b"))]), oVal (sLst [oVal (sC (.str "a")), oVal (sC (.str "c")), oVal (sC (.str "zzzzzzzz"))]), oVal (sC (.int 12)), oVal (sLst [oVal (sTup [oVal (sC (.int 0)), oVal (sC (.str "!zzzzzzzz")), oVal (sC (.int 11))]), oVal (sTup [oVal (sC (.int 0)), oVal (sC (.str "?abcdefgh")), oVal (sC (.int 0))])]), oVal (sLst [oVal (sC (.int 0)), oVal (sC (.int 11))])]) 0)
   (sThen (sIfS (Ev.tOr (tBool (sPrim pNe [oVal (sCall [false] F_u_law_service_told [oVal (sName 0)]), oName 0])) (tBool (sPrim pNe [oVal (sCall [false] F_labels_of [oVal (sCall [false] F_u_law_made [oVal (sName 0)])]), oVal (sLst [oVal (sC (.str "!abcdefgh")), oVal (sC (.str "!b")), oVal (sC (.str "?a")), oVal (sC (.str "?c")), oVal (sC (.str "?zzzzzzzz"))])]))) (sRet (sC (.bl false))) sSkip)
   (sThen (sIfS (tBool (sPrim pNe [oVal (sCall [false] F_u_law_service_told [oVal (sLst [oVal (sLst [oVal (sC (.str "b"))]), oVal (sLst [oVal (sC (.str "a")), oVal (sC (.str "c")), oVal (sC (.str "d")), oVal (sC (.str "e"))]), oVal (sC (.int 1)), oVal (sLst []), oVal (sLst [])])]), oVal (sC (.str "no service"))])) (sRet (sC (.bl false))) sSkip)
   (sThen (sAsg (sLst [oVal (sC (.int 2)), oVal (sLst [oVal (sTup [oVal (sC (.int 0)), oVal (sC (.str "!abcdefgh")), oVal (sC (.int 1))]), oVal (sTup [oVal (sC (.int 1)), oVal (sC (.str "?zzzzzzzz")), oVal (sC (.int 0))])]), oVal (sLst [oVal (sC (.int 1))])]) 1)
   (sThen (sIfS (Ev.tOr (tBool (sPrim pNe [oVal (sCall [false] F_u_law_partner_told [oVal (sName 1)]), oName 1])) (tBool (sPrim pIsNot [oVal (sCall [false, false] F_is_partner_for [oVal (sCall [false] F_u_law_made [oVal (sName 0)]), oVal (sCall [false] F_u_law_mate [oVal (sName 1)])]), oVal (sC (.bl true))]))) (sRet (sC (.bl false))) sSkip)
   (sThen (sIfS (tBool (sPrim pNe [oVal (sCall [false] F_u_law_partner_told [oVal (sLst [oVal (sC (.int 1)), oVal (sLst [oVal (sTup [oVal (sC (.int 0)), oVal (sC (.str "!abcdefghi")), oVal (sC (.int 0))])]), oVal (sLst [])])]), oVal (sC (.str "no partner"))])) (sRet (sC (.bl false))) sSkip)
   (sThen (sIfS (tBool (sPrim pNe [oVal (sCall [false] F_u_law_link_told [oVal (sLst [oVal (sC (.int 2)), oVal (sC (.str "bag")), oVal (sC (.int 2)), oVal (sC (.int 2))])]), oVal (sLst [oVal (sC (.int 2)), oVal (sC (.str "bag")), oVal (sC (.int 2)), oVal (sC (.int 2))])])) (sRet (sC (.bl false))) sSkip)
   (sThen (sAsg (sComp [3] (.one 3) (sRange [oVal (sC (.int 2001))]) tTrue (oVal (sTup [oVal (sPrim pInt [oVal (sPrim pFdiv [oName 3, oVal (sC (.int 100))])]), oVal (sC (.str "!a")), oVal (sPrim pMod [oVal (sPrim pInt [oName 3]), oVal (sC (.int 100))])]))) 2)
   (sThen (sIfS (tBool (sPrim pNe [oVal (sCall [false] F_u_law_partner_told [oVal (sLst [oVal (sC (.int 100)), oVal (sSlice (oName 2) none (some (oVal (sC (.int 2000))))), oVal (sLst [oVal (sC (.int 99))])])]), oVal (sLst [oVal (sC (.int 100)), oVal (sSlice (oName 2) none (some (oVal (sC (.int 2000))))), oVal (sLst [oVal (sC (.int 99))])])])) (sRet (sC (.bl false))) sSkip)
   (sRet (sPrim pEq [oVal (sCall [false] F_u_law_partner_told [oVal (sLst [oVal (sC (.int 100)), oVal (sName 2), oVal (sLst [])])]), oVal (sC (.str "no partner"))])))))))))))
noncomputable def F_u_law_at_bounds : List D → Res Vl := runF t_u_law_at_bounds ([] : List Bool) 4
theorem sc_u_law_at_bounds : FnScope ["_law_v", "_law_p", "_law_rows", "_law_k"] [] (defScope s_u_law_at_bounds) := _root_.C8.fnScope_by (by kernel_rfl)
theorem d_u_law_at_bounds {P : Program} {w : World} {K : PySem.W.Frag} {mg : Str → Option Value} {base : Heap} {cl : Str → Option Addr} {f : Addr} {fd : FuncData} (G : Gs K mg cl) (F : FnP K "_law_at_bounds" "_law_at_bounds" s_u_law_at_bounds f fd) (TG : TalkG P K mg cl) (h_u_law_service_told : FnD P w K mg base 6 "_law_service_told" [false].length (spFn ⟨P, w, K, cl⟩ [false] F_u_law_service_told)) (h_labels_of : FnD P w K mg base 1 "labels_of" [false].length (spFn ⟨P, w, K, cl⟩ [false] F_labels_of)) (h_u_law_made : FnD P w K mg base 6 "_law_made" [false].length (spFn ⟨P, w, K, cl⟩ [false] F_u_law_made)) (h_u_law_partner_told : FnD P w K mg base 6 "_law_partner_told" [false].length (spFn ⟨P, w, K, cl⟩ [false] F_u_law_partner_told)) (h_is_partner_for : FnD P w K mg base 2 "is_partner_for" [false, false].length (spFn ⟨P, w, K, cl⟩ [false, false] F_is_partner_for)) (h_u_law_mate : FnD P w K mg base 6 "_law_mate" [false].length (spFn ⟨P, w, K, cl⟩ [false] F_u_law_mate)) (h_u_law_link_told : FnD P w K mg base 4 "_law_link_told" [false].length (spFn ⟨P, w, K, cl⟩ [false] F_u_law_link_told)) :
    FnOk P w K mg base CX0' 7 f fd [] (spFn ⟨P, w, K, cl⟩ ([] : List Bool) F_u_law_at_bounds) :=
  def_ok (cl := cl) (k := 6) (t := t_u_law_at_bounds) (N := ["_law_v", "_law_p", "_law_rows", "_law_k"]) (ps := []) (modes := ([] : List Bool)) F sc_u_law_at_bounds rfl fun cdv A outer s H E hr =>
    have hu := hu65 hr
    have hN : List.Nodup (["_law_v", "_law_p", "_law_rows", "_law_k"] : List Str) := sc_u_law_at_bounds.nd
    (zCons (zSet hN 0 (kLst (kCons (kV (kLst (kCons (kV kStr) (kCons (kV kStr) kNil)))) (kCons (kV (kLst (kCons (kV kStr) (kCons (kV kStr) (kCons (kV kStr) kNil))))) (kCons (kV kInt) (kCons (kV (kLst (kCons (kV (kTup (kCons (kV kInt) (kCons (kV kStr) (kCons (kV kInt) kNil))))) (kCons (kV (kTup (kCons (kV kInt) (kCons (kV kStr) (kCons (kV kInt) kNil))))) kNil)))) (kCons (kV (kLst (kCons (kV kInt) (kCons (kV kInt) kNil)))) kNil)))))))
   (zCons (zIf (tW (wOr (tCmp (cNe hu) (kV (kCall h_u_law_service_told hr (by decide) (kCons (kV (kN 0)) kNil))) (kO 0)) (wOr1 (tCmp (cNe hu) (kV (kCall h_labels_of hr (by decide) (kCons (kV (kCall h_u_law_made hr (by decide) (kCons (kV (kN 0)) kNil))) kNil))) (kV (kLst (kCons (kV kStr) (kCons (kV kStr) (kCons (kV kStr) (kCons (kV kStr) (kCons (kV kStr) kNil))))))))))) (zOne (zRet kBool)) zNil)
   (zCons (zIf (tCmp (cNe hu) (kV (kCall h_u_law_service_told hr (by decide) (kCons (kV (kLst (kCons (kV (kLst (kCons (kV kStr) kNil))) (kCons (kV (kLst (kCons (kV kStr) (kCons (kV kStr) (kCons (kV kStr) (kCons (kV kStr) kNil)))))) (kCons (kV kInt) (kCons (kV (kLst kNil)) (kCons (kV (kLst kNil)) kNil))))))) kNil))) (kV kStr)) (zOne (zRet kBool)) zNil)
   (zCons (zSet hN 1 (kLst (kCons (kV kInt) (kCons (kV (kLst (kCons (kV (kTup (kCons (kV kInt) (kCons (kV kStr) (kCons (kV kInt) kNil))))) (kCons (kV (kTup (kCons (kV kInt) (kCons (kV kStr) (kCons (kV kInt) kNil))))) kNil)))) (kCons (kV (kLst (kCons (kV kInt) kNil))) kNil)))))
   (zCons (zIf (tW (wOr (tCmp (cNe hu) (kV (kCall h_u_law_partner_told hr (by decide) (kCons (kV (kN 1)) kNil))) (kO 1)) (wOr1 (tCmp cIsNot (kV (kCall h_is_partner_for hr (by decide) (kCons (kV (kCall h_u_law_made hr (by decide) (kCons (kV (kN 0)) kNil))) (kCons (kV (kCall h_u_law_mate hr (by decide) (kCons (kV (kN 1)) kNil))) kNil)))) (kV kBool))))) (zOne (zRet kBool)) zNil)
   (zCons (zIf (tCmp (cNe hu) (kV (kCall h_u_law_partner_told hr (by decide) (kCons (kV (kLst (kCons (kV kInt) (kCons (kV (kLst (kCons (kV (kTup (kCons (kV kInt) (kCons (kV kStr) (kCons (kV kInt) kNil))))) kNil))) (kCons (kV (kLst kNil)) kNil))))) kNil))) (kV kStr)) (zOne (zRet kBool)) zNil)
   (zCons (zIf (tCmp (cNe hu) (kV (kCall h_u_law_link_told hr (by decide) (kCons (kV (kLst (kCons (kV kInt) (kCons (kV kStr) (kCons (kV kInt) (kCons (kV kInt) kNil)))))) kNil))) (kV (kLst (kCons (kV kInt) (kCons (kV kStr) (kCons (kV kInt) (kCons (kV kInt) kNil))))))) (zOne (zRet kBool)) zNil)
   (zCons (sCompS [("_law_k", 3)] 2 rfl hN (iRange1 G.f_range (kCons (kV kInt) kNil)) (fun _ _ _ _ _ => g1 hN 3) CIf.none (fun _ _ _ _ _ => kV (kTup (kCons (kV (kCallTy cr_intP G.f_int (kCons (kV (kFdiv (kO 3) (kV kInt))) kNil))) (kCons (kV kStr) (kCons (kV (kMod (kV (kCallTy cr_intP G.f_int (kCons (kO 3) kNil))) (kV kInt))) kNil))))))
   (zCons (zIf (tCmp (cNe hu) (kV (kCall h_u_law_partner_told hr (by decide) (kCons (kV (kLst (kCons (kV kInt) (kCons (kV (kSlice (kO 2) pNone (pSome (kV kInt)))) (kCons (kV (kLst (kCons (kV kInt) kNil))) kNil))))) kNil))) (kV (kLst (kCons (kV kInt) (kCons (kV (kSlice (kO 2) pNone (pSome (kV kInt)))) (kCons (kV (kLst (kCons (kV kInt) kNil))) kNil)))))) (zOne (zRet kBool)) zNil)
   (zOne (zRet (kCmp (cEq hu) (kV (kCall h_u_law_partner_told hr (by decide) (kCons (kV (kLst (kCons (kV kInt) (kCons (kV (kN 2)) (kCons (kV (kLst kNil)) kNil))))) kNil))) (kV kStr)))))))))))))
noncomputable def t2_u_law_own_lists : SS := (sThen (sIfS (tBool (sPrim pNe [oVal (sLst [oVal (sFld at_ "inputs" (oName 1)), oVal (sFld at_ "outputs" (oName 1)), oVal (sFld at_ "transitions" (oName 1)), oVal (sFld at_ "final" (oName 1))]), oVal (sLst [oVal (sLst [oVal (sC (.str "a"))]), oVal (sLst [oVal (sC (.str "c"))]), oVal (sLst [oVal (sTup [oVal (sC (.int 0)), oVal (sC (.str "tau")), oVal (sC (.int 0))])]), oVal (sLst [oVal (sC (.int 0))])])])) (sRet (sC (.bl false))) sSkip)
   (sRet (sPrim pEq [oVal (sLst [oVal (sFld at_ "transitions" (oName 3)), oVal (sFld at_ "final" (oName 3))]), oVal (sLst [oVal (sLst [oVal (sTup [oVal (sC (.int 0)), oVal (sC (.str "!a")), oVal (sC (.int 0))])]), oVal (sLst [oVal (sC (.int 0))])])])))
noncomputable def F_u_law_own_lists : List D → Res Vl := ownF F_C_Service F_C_Partner t2_u_law_own_lists
theorem sc_u_law_own_lists : FnScope ["_law_parts", "_law_made_here", "_law_mine", "_law_mate_here", "_law_one"] [] (defScope s_u_law_own_lists) := _root_.C8.fnScope_by (by kernel_rfl)
theorem d_u_law_own_lists {P : Program} {w : World} {K : PySem.W.Frag} {mg : Str → Option Value} {base : Heap} {cl : Str → Option Addr} {f : Addr} {fd : FuncData} (G : Gs K mg cl) (F : FnP K "_law_own_lists" "_law_own_lists" s_u_law_own_lists f fd) (TG : TalkG P K mg cl) (h_C_Service : ClQ (L2N.CX P w) P w K mg base cl 4 "Service" (spBx ⟨P, w, K, cl⟩ [true, true, false, true, true] F_C_Service)) (h_C_Partner : ClQ (L2N.CX P w) P w K mg base cl 4 "Partner" (spBx ⟨P, w, K, cl⟩ [false, true, true] F_C_Partner)) :
    FnOk P w K mg base CX0' 6 f fd [] (spFn ⟨P, w, K, cl⟩ ([] : List Bool) F_u_law_own_lists) :=
  own_ok (cl := cl) (k := 5) h_C_Service h_C_Partner F sc_u_law_own_lists fun cdv A outer s H E hr =>
    have hu := hu65 hr
    have hN : List.Nodup (["_law_parts", "_law_made_here", "_law_mine", "_law_mate_here", "_law_one"] : List Str) := sc_u_law_own_lists.nd
    rawOwn (rSetR hN 0 (rLst4 (kLst (kCons (kV kStr) kNil)) (kLst (kCons (kV kStr) kNil)) (kLst (kCons (kV (kTup (kCons (kV kInt) (kCons (kV kStr) (kCons (kV kInt) kNil))))) kNil)) (kLst (kCons (kV kInt) kNil))))
 (rSetR hN 1 (rMakeQ h_C_Service passN0 hr (by decide) (kCons (kV (kIx hu (kO 0) (kV kInt))) (kCons (kV (kIx hu (kO 0) (kV kInt))) (kCons (kV kInt) (kCons (kV (kIx hu (kO 0) (kV kInt))) (kCons (kV (kIx hu (kO 0) (kV kInt))) kNil)))))))
 (rSetR hN 2 (rLst2 (kLst (kCons (kV (kTup (kCons (kV kInt) (kCons (kV kStr) (kCons (kV kInt) kNil))))) kNil)) (kLst (kCons (kV kInt) kNil))))
 (rSetR hN 3 (rMakeQ h_C_Partner passN0 hr (by decide) (kCons (kV kInt) (kCons (kV (kIx hu (kO 2) (kV kInt))) (kCons (kV (kIx hu (kO 2) (kV kInt))) kNil)))))
 (rFor1 PassesOwn.never rfl (iSeq1 (kV (kAdd (kO 0) (kO 2)))) (g1 hN 4) (rAppE (kO 4) (kCons (kV kStr) kNil)))
 (zCons (zIf (tCmp (cNe hu) (kV (kLst (kCons (kV (kFld G.hat (kO 1))) (kCons (kV (kFld G.hat (kO 1))) (kCons (kV (kFld G.hat (kO 1))) (kCons (kV (kFld G.hat (kO 1))) kNil)))))) (kV (kLst (kCons (kV (kLst (kCons (kV kStr) kNil))) (kCons (kV (kLst (kCons (kV kStr) kNil))) (kCons (kV (kLst (kCons (kV (kTup (kCons (kV kInt) (kCons (kV kStr) (kCons (kV kInt) kNil))))) kNil))) (kCons (kV (kLst (kCons (kV kInt) kNil))) kNil))))))) (zOne (zRet kBool)) zNil)
   (zOne (zRet (kCmp (cEq hu) (kV (kLst (kCons (kV (kFld G.hat (kO 3))) (kCons (kV (kFld G.hat (kO 3))) kNil)))) (kV (kLst (kCons (kV (kLst (kCons (kV (kTup (kCons (kV kInt) (kCons (kV kStr) (kCons (kV kInt) kNil))))) kNil))) (kCons (kV (kLst (kCons (kV kInt) kNil))) kNil))))))))
noncomputable def t_C_Links : SS := (sThen (sSetF at_ "to_service" 0 (sName 1))
   (sSetF at_ "to_partner" 0 (sName 2)))
noncomputable def F_C_Links : D → List D → ResB := runB t_C_Links 2 3
theorem sc_C_Links : FnScope ["self", "to_service", "to_partner"] ["self", "to_service", "to_partner"] (defScope s_C_Links) := _root_.C8.fnScope_by (by kernel_rfl)
theorem d_C_Links {P : Program} {w : World} {K : PySem.W.Frag} {mg : Str → Option Value} {base : Heap} {cl : Str → Option Addr} {f : Addr} {fd : FuncData} (G : Gs K mg cl) (F : FnP K "__init__" "Links.__init__" s_C_Links f fd) (TG : TalkG P K mg cl) :
    FnOk P w K mg base CX0' 1 f fd ["self", "to_service", "to_partner"] (spBx ⟨P, w, K, cl⟩ (List.replicate 2 false) F_C_Links) :=
  bx_ok (cl := cl) (k := 0) (t := t_C_Links) (N := ["self", "to_service", "to_partner"]) (ps := ["self", "to_service", "to_partner"]) (m := 2) F sc_C_Links rfl fun cdv A outer s H E hr =>
    have hu := hu65 hr
    have hN : List.Nodup (["self", "to_service", "to_partner"] : List Str) := sc_C_Links.nd
    (zCons (zSetF G.hat 0 (kN 1))
   (zOne (zSetF G.hat 0 (kN 2))))
noncomputable def t_u_law_links : SS := (sRet (sMake "Links" (List.replicate 2 false) F_C_Links [oVal (sMake "Link" (List.replicate 4 false) F_C_Link [oVal (sPrim pIxA [oVal (sPrim pIxA [oName 0, oVal (sC (.int 0))]), oVal (sC (.int 0))]), oVal (sPrim pIxA [oVal (sPrim pIxA [oName 0, oVal (sC (.int 0))]), oVal (sC (.int 1))]), oVal (sPrim pIxA [oVal (sPrim pIxA [oName 0, oVal (sC (.int 0))]), oVal (sC (.int 2))]), oVal (sPrim pIxA [oVal (sPrim pIxA [oName 0, oVal (sC (.int 0))]), oVal (sC (.int 3))])]), oVal (sMake "Link" (List.replicate 4 false) F_C_Link [oVal (sPrim pIxA [oVal (sPrim pIxA [oName 0, oVal (sC (.int 1))]), oVal (sC (.int 0))]), oVal (sPrim pIxA [oVal (sPrim pIxA [oName 0, oVal (sC (.int 1))]), oVal (sC (.int 1))]), oVal (sPrim pIxA [oVal (sPrim pIxA [oName 0, oVal (sC (.int 1))]), oVal (sC (.int 2))]), oVal (sPrim pIxA [oVal (sPrim pIxA [oName 0, oVal (sC (.int 1))]), oVal (sC (.int 3))])])]))
noncomputable def F_u_law_links : List D → Res Vl := runF t_u_law_links [false] 1
theorem sc_u_law_links : FnScope ["_law_pair"] ["_law_pair"] (defScope s_u_law_links) := _root_.C8.fnScope_by (by kernel_rfl)
theorem d_u_law_links {P : Program} {w : World} {K : PySem.W.Frag} {mg : Str → Option Value} {base : Heap} {cl : Str → Option Addr} {f : Addr} {fd : FuncData} (G : Gs K mg cl) (F : FnP K "_law_links" "_law_links" s_u_law_links f fd) (TG : TalkG P K mg cl) (h_C_Links : ClD P w K mg base cl 1 "Links" (spBx ⟨P, w, K, cl⟩ (List.replicate 2 false) F_C_Links)) (h_C_Link : ClQ (L2N.CX P w) P w K mg base cl 2 "Link" (spBx ⟨P, w, K, cl⟩ (List.replicate 4 false) F_C_Link)) :
    FnOk P w K mg base CX0' 4 f fd ["_law_pair"] (spFn ⟨P, w, K, cl⟩ [false] F_u_law_links) :=
  def_ok (cl := cl) (k := 3) (t := t_u_law_links) (N := ["_law_pair"]) (ps := ["_law_pair"]) (modes := [false]) F sc_u_law_links rfl fun cdv A outer s H E hr =>
    have hu := hu65 hr
    have hN : List.Nodup (["_law_pair"] : List Str) := sc_u_law_links.nd
    (zOne (zRet (kMake h_C_Links hr (by decide) (kCons (kV (kMakeQ h_C_Link passN0 hr (by decide) (kCons (kV (kIx hu (kV (kIx hu (kO 0) (kV kInt))) (kV kInt))) (kCons (kV (kIx hu (kV (kIx hu (kO 0) (kV kInt))) (kV kInt))) (kCons (kV (kIx hu (kV (kIx hu (kO 0) (kV kInt))) (kV kInt))) (kCons (kV (kIx hu (kV (kIx hu (kO 0) (kV kInt))) (kV kInt))) kNil)))))) (kCons (kV (kMakeQ h_C_Link passN0 hr (by decide) (kCons (kV (kIx hu (kV (kIx hu (kO 0) (kV kInt))) (kV kInt))) (kCons (kV (kIx hu (kV (kIx hu (kO 0) (kV kInt))) (kV kInt))) (kCons (kV (kIx hu (kV (kIx hu (kO 0) (kV kInt))) (kV kInt))) (kCons (kV (kIx hu (kV (kIx hu (kO 0) (kV kInt))) (kV kInt))) kNil)))))) kNil)))))
noncomputable def b0_law : SS := (sThen (sAsg (sCallB (List.replicate 0 false) F_u_law_face 1 []) 6)
   (sThen (sAsg (sCallB (List.replicate 2 false) F_u_law_service 1 [oVal (sName 6), oVal (sC (.int 4))]) 7)
   (sThen (sIfS (tBool (sPrim pNe [oVal (sCall [false] F_u_law_service_told [oVal (sLst [oVal (sPrim pList [oVal (sPrim pIxA [oName 7, oVal (sC (.int 0))])]), oVal (sPrim pList [oVal (sPrim pIxA [oName 7, oVal (sC (.int 1))])]), oVal (sPrim pIxA [oName 7, oVal (sC (.int 2))]), oVal (sRev (oVal (sPrim pIxA [oName 7, oVal (sC (.int 3))]))), oVal (sPrim pList [oVal (sPrim pIxA [oName 7, oVal (sC (.int 4))])])])]), oName 7])) (sRet (sC (.bl false))) sSkip)
   (sThen (sIfS (tBool (sPrim pNe [oVal (sCall [false] F_u_law_service_told [oVal (sCallB (List.replicate 1 false) F_u_law_spoiled 1 [oVal (sName 7)])]), oVal (sC (.str "no service"))])) (sRet (sC (.bl false))) sSkip)
   (sThen (sIfS (tBool (sPrim pNe [oVal (sCall [false] F_labels_of [oVal (sCall [false] F_u_law_made [oVal (sName 7)])]), oVal (sCall [false] F_u_law_labels [oVal (sName 7)])])) (sRet (sC (.bl false))) sSkip)
   (sThen (sAsg (sCallB (List.replicate 2 false) F_u_law_partner 1 [oVal (sLst [oVal (sC (.str "!a")), oVal (sC (.str "!b")), oVal (sC (.str "?c")), oVal (sC (.str "?d"))]), oVal (sC (.int 4))]) 8)
   (sThen (sIfS (Ev.tOr (tBool (sPrim pNe [oVal (sCall [false] F_u_law_partner_told [oVal (sLst [oVal (sPrim pIxA [oName 8, oVal (sC (.int 0))]), oVal (sRev (oVal (sPrim pIxA [oName 8, oVal (sC (.int 1))]))), oVal (sPrim pIxA [oName 8, oVal (sC (.int 2))])])]), oName 8])) (tBool (sPrim pNe [oVal (sCall [false] F_u_law_partner_told [oVal (sCallB (List.replicate 1 false) F_u_law_bad_partner 1 [oVal (sName 8)])]), oVal (sC (.str "no partner"))]))) (sRet (sC (.bl false))) sSkip)
   (sThen (sAsg (sPrim pEq [oVal (sPrim pLenA [oVal (sComp [12] (.one 12) (sSeq (oVal (sPrim pIxA [oName 8, oVal (sC (.int 1))]))) (tBool (sPrim pNotInA [oVal (sPrim pIxA [oName 12, oVal (sC (.int 1))]), oVal (sCall [false] F_u_law_labels [oVal (sName 7)])])) (oVal (sName 12)))]), oVal (sC (.int 0))]) 9)
   (sThen (sAsg (sCall [false, false] F_is_partner_for [oVal (sCall [false] F_u_law_made [oVal (sName 7)]), oVal (sCall [false] F_u_law_mate [oVal (sName 8)])]) 10)
   (sThen (sIfS (Ev.tOr (Ev.tNot (tVal (oVal (sPrim (pIsi (fIsi "bool")) [oName 10])))) (tBool (sPrim pNe [oName 10, oName 9]))) (sRet (sC (.bl false))) sSkip)
   (sThen (sAsg (sCallB (List.replicate 0 false) F_u_law_link 1 []) 11)
   (sIfS (Ev.tOr (tBool (sPrim pNe [oVal (sCall [false] F_u_law_link_told [oVal (sName 11)]), oName 11])) (tBool (sPrim pNe [oVal (sCall [false] F_u_law_link_told [oVal (sCallB (List.replicate 0 false) F_u_law_bad_link 1 [])]), oVal (sC (.str "no link"))]))) (sRet (sC (.bl false))) sSkip))))))))))))
noncomputable def t_law : SS := (sThen (sAsg (sLst [oVal (sCall [false, false, false] F_u_law_row [oVal (sName 0), oVal (sC (.int 0)), oVal (sC (.int 50))]), oVal (sC (.int 0))]) 1)
   (sThen (sFor (.one 2) (sRange [oVal (sC (.int 4))]) b0_law)
   (sThen (sIfS (Ev.tOr (Ev.tNot (tVal (oVal (sCall ([] : List Bool) F_u_law_at_bounds [])))) (Ev.tNot (tVal (oVal (sCall ([] : List Bool) F_u_law_own_lists []))))) (sRet (sC (.bl false))) sSkip)
   (sThen (sAsg (sLst [oVal (sTup [oVal (sC (.int 0)), oVal (sC (.str "tau")), oVal (sC (.int 0))])]) 3)
   (sThen (sAsg (sMake "Service" [true, true, false, true, true] F_C_Service [oVal (sLst []), oVal (sLst []), oVal (sC (.int 1)), oName 3, oVal (sLst [])]) 4)
   (sThen (sDrop (sMeth .lst pAppend [false] 3 [oVal (sTup [oVal (sC (.int 0)), oVal (sC (.str "tau")), oVal (sC (.int 0))])]))
   (sThen (sAsg (sCall [false] F_u_law_links [oVal (sLst [oVal (sLst [oVal (sC (.int 1)), oVal (sC (.str "row")), oVal (sC (.int 0)), oVal (sC (.int 0))]), oVal (sLst [oVal (sC (.int 0)), oVal (sC (.str "bag")), oVal (sC (.int 0)), oVal (sC (.int 0))])])]) 5)
   (sRet (sAnd (sPrim pEq [oVal (sFld at_ "transitions" (oName 4)), oVal (sLst [oVal (sTup [oVal (sC (.int 0)), oVal (sC (.str "tau")), oVal (sC (.int 0))])])]) (sAnd (sPrim pEq [oVal (sFld at_ "capacity" (oVal (sFld at_ "to_service" (oName 5)))), oVal (sC (.int 1))]) (sPrim pEq [oVal (sFld at_ "order" (oVal (sFld at_ "to_partner" (oName 5)))), oVal (sC (.str "bag"))])))))))))))
noncomputable def F_law : List D → Res Vl := runF t_law [false] 13
theorem sc_law : FnScope ["_law_script", "_law_box", "_law_turn", "_law_kept", "_law_made_here", "_law_pair", "_law_face_here", "_law_v", "_law_p", "_law_due", "_law_told", "_law_link_here", "_law_row_here"] ["_law_script"] (defScope s_law) := _root_.C8.fnScope_by (by kernel_rfl)
theorem d_law {P : Program} {w : World} {K : PySem.W.Frag} {mg : Str → Option Value} {base : Heap} {cl : Str → Option Addr} {f : Addr} {fd : FuncData} (G : Gs K mg cl) (F : FnP K "law" "law" s_law f fd) (TG : TalkG P K mg cl) (h_u_law_row : FnD P w K mg base 2 "_law_row" [false, false, false].length (spFn ⟨P, w, K, cl⟩ [false, false, false] F_u_law_row)) (h_u_law_face : FnD P w K mg base 2 "_law_face" (List.replicate 0 false).length (spBx ⟨P, w, K, cl⟩ (List.replicate 0 false) F_u_law_face)) (h_u_law_service : FnD P w K mg base 2 "_law_service" (List.replicate 2 false).length (spBx ⟨P, w, K, cl⟩ (List.replicate 2 false) F_u_law_service)) (h_u_law_service_told : FnD P w K mg base 6 "_law_service_told" [false].length (spFn ⟨P, w, K, cl⟩ [false] F_u_law_service_told)) (h_u_law_spoiled : FnD P w K mg base 2 "_law_spoiled" (List.replicate 1 false).length (spBx ⟨P, w, K, cl⟩ (List.replicate 1 false) F_u_law_spoiled)) (h_labels_of : FnD P w K mg base 1 "labels_of" [false].length (spFn ⟨P, w, K, cl⟩ [false] F_labels_of)) (h_u_law_made : FnD P w K mg base 6 "_law_made" [false].length (spFn ⟨P, w, K, cl⟩ [false] F_u_law_made)) (h_u_law_labels : FnD P w K mg base 1 "_law_labels" [false].length (spFn ⟨P, w, K, cl⟩ [false] F_u_law_labels)) (h_u_law_partner : FnD P w K mg base 2 "_law_partner" (List.replicate 2 false).length (spBx ⟨P, w, K, cl⟩ (List.replicate 2 false) F_u_law_partner)) (h_u_law_partner_told : FnD P w K mg base 6 "_law_partner_told" [false].length (spFn ⟨P, w, K, cl⟩ [false] F_u_law_partner_told)) (h_u_law_bad_partner : FnD P w K mg base 2 "_law_bad_partner" (List.replicate 1 false).length (spBx ⟨P, w, K, cl⟩ (List.replicate 1 false) F_u_law_bad_partner)) (h_is_partner_for : FnD P w K mg base 2 "is_partner_for" [false, false].length (spFn ⟨P, w, K, cl⟩ [false, false] F_is_partner_for)) (h_u_law_mate : FnD P w K mg base 6 "_law_mate" [false].length (spFn ⟨P, w, K, cl⟩ [false] F_u_law_mate)) (h_u_law_link : FnD P w K mg base 2 "_law_link" (List.replicate 0 false).length (spBx ⟨P, w, K, cl⟩ (List.replicate 0 false) F_u_law_link)) (h_u_law_link_told : FnD P w K mg base 4 "_law_link_told" [false].length (spFn ⟨P, w, K, cl⟩ [false] F_u_law_link_told)) (h_u_law_bad_link : FnD P w K mg base 2 "_law_bad_link" (List.replicate 0 false).length (spBx ⟨P, w, K, cl⟩ (List.replicate 0 false) F_u_law_bad_link)) (h_u_law_at_bounds : FnD P w K mg base 7 "_law_at_bounds" ([] : List Bool).length (spFn ⟨P, w, K, cl⟩ ([] : List Bool) F_u_law_at_bounds)) (h_u_law_own_lists : FnD P w K mg base 6 "_law_own_lists" ([] : List Bool).length (spFn ⟨P, w, K, cl⟩ ([] : List Bool) F_u_law_own_lists)) (h_C_Service : ClQ (L2N.CX P w) P w K mg base cl 4 "Service" (spBx ⟨P, w, K, cl⟩ [true, true, false, true, true] F_C_Service)) (h_u_law_links : FnD P w K mg base 4 "_law_links" [false].length (spFn ⟨P, w, K, cl⟩ [false] F_u_law_links)) :
    FnOk P w K mg base CX0' 8 f fd ["_law_script"] (spFn ⟨P, w, K, cl⟩ [false] F_law) :=
  def_ok (cl := cl) (k := 7) (t := t_law) (N := ["_law_script", "_law_box", "_law_turn", "_law_kept", "_law_made_here", "_law_pair", "_law_face_here", "_law_v", "_law_p", "_law_due", "_law_told", "_law_link_here", "_law_row_here"]) (ps := ["_law_script"]) (modes := [false]) F sc_law rfl fun cdv A outer s H E hr =>
    have hu := hu65 hr
    have hN : List.Nodup (["_law_script", "_law_box", "_law_turn", "_law_kept", "_law_made_here", "_law_pair", "_law_face_here", "_law_v", "_law_p", "_law_due", "_law_told", "_law_link_here", "_law_row_here"] : List Str) := sc_law.nd
    (zCons (zSet hN 1 (kLst (kCons (kV (kCall h_u_law_row hr (by decide) (kCons (kV (kN 0)) (kCons (kV kInt) (kCons (kV kInt) kNil))))) (kCons (kV kInt) kNil))))
   (zCons (zFor PassesOwn.never rfl (iRange1 G.f_range (kCons (kV kInt) kNil)) (g1 hN 2) (zCons (zSet hN 6 (kCallBx h_u_law_face hr (by decide) 1 (kCons (kO 1) kNil)))
   (zCons (zSet hN 7 (kCallBx h_u_law_service hr (by decide) 1 (kCons (kO 1) (kCons (kV (kN 6)) (kCons (kV kInt) kNil)))))
   (zCons (zIf (tCmp (cNe hu) (kV (kCall h_u_law_service_told hr (by decide) (kCons (kV (kLst (kCons (kV (kCallTy cr_listP G.f_list (kCons (kV (kIx hu (kO 7) (kV kInt))) kNil))) (kCons (kV (kCallTy cr_listP G.f_list (kCons (kV (kIx hu (kO 7) (kV kInt))) kNil))) (kCons (kV (kIx hu (kO 7) (kV kInt))) (kCons (kV (kRev (kV (kIx hu (kO 7) (kV kInt))))) (kCons (kV (kCallTy cr_listP G.f_list (kCons (kV (kIx hu (kO 7) (kV kInt))) kNil))) kNil))))))) kNil))) (kO 7)) (zOne (zRet kBool)) zNil)
   (zCons (zIf (tCmp (cNe hu) (kV (kCall h_u_law_service_told hr (by decide) (kCons (kV (kCallBx h_u_law_spoiled hr (by decide) 1 (kCons (kO 1) (kCons (kV (kN 7)) kNil)))) kNil))) (kV kStr)) (zOne (zRet kBool)) zNil)
   (zCons (zIf (tCmp (cNe hu) (kV (kCall h_labels_of hr (by decide) (kCons (kV (kCall h_u_law_made hr (by decide) (kCons (kV (kN 7)) kNil))) kNil))) (kV (kCall h_u_law_labels hr (by decide) (kCons (kV (kN 7)) kNil)))) (zOne (zRet kBool)) zNil)
   (zCons (zSet hN 8 (kCallBx h_u_law_partner hr (by decide) 1 (kCons (kO 1) (kCons (kV (kLst (kCons (kV kStr) (kCons (kV kStr) (kCons (kV kStr) (kCons (kV kStr) kNil)))))) (kCons (kV kInt) kNil)))))
   (zCons (zIf (tW (wOr (tCmp (cNe hu) (kV (kCall h_u_law_partner_told hr (by decide) (kCons (kV (kLst (kCons (kV (kIx hu (kO 8) (kV kInt))) (kCons (kV (kRev (kV (kIx hu (kO 8) (kV kInt))))) (kCons (kV (kIx hu (kO 8) (kV kInt))) kNil))))) kNil))) (kO 8)) (wOr1 (tCmp (cNe hu) (kV (kCall h_u_law_partner_told hr (by decide) (kCons (kV (kCallBx h_u_law_bad_partner hr (by decide) 1 (kCons (kO 1) (kCons (kV (kN 8)) kNil)))) kNil))) (kV kStr))))) (zOne (zRet kBool)) zNil)
   (zCons (zSet hN 9 (kCmp (cEq hu) (kV (kCallB bLen G.f_len (kCons (kV (kComp [("_law_row_here", 12)] rfl hN (iSeq1 (kV (kIx hu (kO 8) (kV kInt)))) (fun _ _ _ _ _ => g1 hN 12) (CIf.one (fun _ _ _ _ _ => tCmp (cNotIn hu) (kV (kIx hu (kO 12) (kV kInt))) (kV (kCall h_u_law_labels hr (by decide) (kCons (kV (kN 7)) kNil))))) (fun _ _ _ _ _ => kV (kN 12)))) kNil))) (kV kInt)))
   (zCons (zSet hN 10 (kCall h_is_partner_for hr (by decide) (kCons (kV (kCall h_u_law_made hr (by decide) (kCons (kV (kN 7)) kNil))) (kCons (kV (kCall h_u_law_mate hr (by decide) (kCons (kV (kN 8)) kNil))) kNil))))
   (zCons (zIf (tW (wOr (tNot1 (tTru (kV (kIsi (fIsi_ok "bool") (kO 10) G.f_isinstance G.f_bool)))) (wOr1 (tCmp (cNe hu) (kO 10) (kO 9))))) (zOne (zRet kBool)) zNil)
   (zCons (zSet hN 11 (kCallBx h_u_law_link hr (by decide) 1 (kCons (kO 1) kNil)))
   (zOne (zIf (tW (wOr (tCmp (cNe hu) (kV (kCall h_u_law_link_told hr (by decide) (kCons (kV (kN 11)) kNil))) (kO 11)) (wOr1 (tCmp (cNe hu) (kV (kCall h_u_law_link_told hr (by decide) (kCons (kV (kCallBx h_u_law_bad_link hr (by decide) 1 (kCons (kO 1) kNil))) kNil))) (kV kStr))))) (zOne (zRet kBool)) zNil))))))))))))))
   (zCons (zIf (tW (wOr (tNot1 (tTru (kV (kCall0 h_u_law_at_bounds hr (by decide))))) (wOr1 (tNot1 (tTru (kV (kCall0 h_u_law_own_lists hr (by decide)))))))) (zOne (zRet kBool)) zNil)
   (zCons (zSet hN 3 (kLst (kCons (kV (kTup (kCons (kV kInt) (kCons (kV kStr) (kCons (kV kInt) kNil))))) kNil)))
   (zCons (zSet hN 4 (kMakeQ h_C_Service passN0 hr (by decide) (kCons (kV (kLst kNil)) (kCons (kV (kLst kNil)) (kCons (kV kInt) (kCons (kO 3) (kCons (kV (kLst kNil)) kNil)))))))
   (zCons (zExpr (kMeth mAppend 3 (kCons (kV (kTup (kCons (kV kInt) (kCons (kV kStr) (kCons (kV kInt) kNil))))) kNil)))
   (zCons (zSet hN 5 (kCall h_u_law_links hr (by decide) (kCons (kV (kLst (kCons (kV (kLst (kCons (kV kInt) (kCons (kV kStr) (kCons (kV kInt) (kCons (kV kInt) kNil)))))) (kCons (kV (kLst (kCons (kV kInt) (kCons (kV kStr) (kCons (kV kInt) (kCons (kV kInt) kNil)))))) kNil)))) kNil)))
   (zOne (zRet (kAnd (kCmp (cEq hu) (kV (kFld G.hat (kO 4))) (kV (kLst (kCons (kV (kTup (kCons (kV kInt) (kCons (kV kStr) (kCons (kV kInt) kNil))))) kNil)))) (kAnd (kCmp (cEq hu) (kV (kFld G.hat (kV (kFld G.hat (kO 5))))) (kV kInt)) (kOne (kCmp (cEq hu) (kV (kFld G.hat (kV (kFld G.hat (kO 5))))) (kV kStr))))))))))))))
def cl_ (K : PySem.W.Frag) (c : Str) : Option Addr := if (["Link", "Links", "Partner", "Service", "TalkError"] : List Str).contains c = true then some (He.ga K c) else none
section
variable {P : Program} {w : World} {K : PySem.W.Frag} {h : Heap} {mg : Str → Option Value}
theorem hat_ (c : SaysY fa fnl exK K) : HAt K (cl_ K) at_ := by
  intro a f C h1 h2
  have h3 : C = He.ga K a := by
    unfold cl_ at h2
    split at h2
    · cases h2; rfl
    · cases h2
  subst h3
  unfold at_ at h1
  simp only [Bool.or_eq_true, Bool.and_eq_true, decide_eq_true_eq] at h1
  rcases h1 with ((((((((((((⟨rfl, rfl⟩ | ⟨rfl, rfl⟩) | ⟨rfl, rfl⟩) | ⟨rfl, rfl⟩) | ⟨rfl, rfl⟩) | ⟨rfl, rfl⟩) | ⟨rfl, rfl⟩) | ⟨rfl, rfl⟩) | ⟨rfl, rfl⟩) | ⟨rfl, rfl⟩) | ⟨rfl, rfl⟩) | ⟨rfl, rfl⟩) | ⟨rfl, rfl⟩) | ⟨rfl, rfl⟩
  · exact ⟨He.cls_ok (c.2.2.fact 22 (f := .cls "Link") rfl), He.noat_ok (c.2.2.fact 29 (f := .noat "Link" "capacity") rfl)⟩
  · exact ⟨He.cls_ok (c.2.2.fact 22 (f := .cls "Link") rfl), He.noat_ok (c.2.2.fact 30 (f := .noat "Link" "doubles") rfl)⟩
  · exact ⟨He.cls_ok (c.2.2.fact 22 (f := .cls "Link") rfl), He.noat_ok (c.2.2.fact 31 (f := .noat "Link" "losses") rfl)⟩
  · exact ⟨He.cls_ok (c.2.2.fact 22 (f := .cls "Link") rfl), He.noat_ok (c.2.2.fact 32 (f := .noat "Link" "order") rfl)⟩
  · exact ⟨He.cls_ok (c.2.2.fact 24 (f := .cls "Links") rfl), He.noat_ok (c.2.2.fact 33 (f := .noat "Links" "to_partner") rfl)⟩
  · exact ⟨He.cls_ok (c.2.2.fact 24 (f := .cls "Links") rfl), He.noat_ok (c.2.2.fact 34 (f := .noat "Links" "to_service") rfl)⟩
  · exact ⟨He.cls_ok (c.2.2.fact 26 (f := .cls "Partner") rfl), He.noat_ok (c.2.2.fact 35 (f := .noat "Partner" "final") rfl)⟩
  · exact ⟨He.cls_ok (c.2.2.fact 26 (f := .cls "Partner") rfl), He.noat_ok (c.2.2.fact 36 (f := .noat "Partner" "states") rfl)⟩
  · exact ⟨He.cls_ok (c.2.2.fact 26 (f := .cls "Partner") rfl), He.noat_ok (c.2.2.fact 37 (f := .noat "Partner" "transitions") rfl)⟩
  · exact ⟨He.cls_ok (c.2.2.fact 28 (f := .cls "Service") rfl), He.noat_ok (c.2.2.fact 38 (f := .noat "Service" "final") rfl)⟩
  · exact ⟨He.cls_ok (c.2.2.fact 28 (f := .cls "Service") rfl), He.noat_ok (c.2.2.fact 39 (f := .noat "Service" "inputs") rfl)⟩
  · exact ⟨He.cls_ok (c.2.2.fact 28 (f := .cls "Service") rfl), He.noat_ok (c.2.2.fact 40 (f := .noat "Service" "outputs") rfl)⟩
  · exact ⟨He.cls_ok (c.2.2.fact 28 (f := .cls "Service") rfl), He.noat_ok (c.2.2.fact 41 (f := .noat "Service" "states") rfl)⟩
  · exact ⟨He.cls_ok (c.2.2.fact 28 (f := .cls "Service") rfl), He.noat_ok (c.2.2.fact 42 (f := .noat "Service" "transitions") rfl)⟩
theorem ce_ (c : SaysY fa fnl exK K) : talkIK (He.ga K "TalkError") K = true ∧ (talkB "/claim/cut.py" K = true) := by
  have e : (talkIK (He.ga K "TalkError") K && (talkB "/claim/cut.py" K)) = true := c.1
  simpa only [Bool.and_eq_true] using e
theorem gs_ (X : K.In h) (Gh : h.Ns mainGlobals mg) (c : SaysY fa fnl exK K) : Gs K mg (cl_ K) where
  hat := hat_ c
  f_ValueError := He.free_ok X Gh (c.2.2.fact 0 (f := .free "ValueError") rfl)
  f_abs := He.free_ok X Gh (c.2.2.fact 1 (f := .free "abs") rfl)
  f_all := He.free_ok X Gh (c.2.2.fact 2 (f := .free "all") rfl)
  f_any := He.free_ok X Gh (c.2.2.fact 3 (f := .free "any") rfl)
  f_bool := He.free_ok X Gh (c.2.2.fact 4 (f := .free "bool") rfl)
  f_int := He.free_ok X Gh (c.2.2.fact 5 (f := .free "int") rfl)
  f_isinstance := He.free_ok X Gh (c.2.2.fact 6 (f := .free "isinstance") rfl)
  f_len := He.free_ok X Gh (c.2.2.fact 7 (f := .free "len") rfl)
  f_list := He.free_ok X Gh (c.2.2.fact 8 (f := .free "list") rfl)
  f_range := He.free_ok X Gh (c.2.2.fact 9 (f := .free "range") rfl)
  f_sorted := He.free_ok X Gh (c.2.2.fact 10 (f := .free "sorted") rfl)
  f_str := He.free_ok X Gh (c.2.2.fact 11 (f := .free "str") rfl)
  f_tuple := He.free_ok X Gh (c.2.2.fact 12 (f := .free "tuple") rfl)
  f_zip := He.free_ok X Gh (c.2.2.fact 13 (f := .free "zip") rfl)
  c_LETTERS := ⟨He.str_ok X Gh (c.2.2.fact 14 (f := .str "LETTERS" "abcdefghijklmnopqrstuvwxyz") rfl), by kernel_rfl⟩
  c_LONGEST_MESSAGE := ⟨He.int_ok X Gh (c.2.2.fact 15 (f := .int "LONGEST_MESSAGE" 8) rfl)⟩
  c_MOST_MESSAGES := ⟨He.int_ok X Gh (c.2.2.fact 16 (f := .int "MOST_MESSAGES" 3) rfl)⟩
  c_MOST_PARTNER_STATES := ⟨He.int_ok X Gh (c.2.2.fact 17 (f := .int "MOST_PARTNER_STATES" 300) rfl)⟩
  c_MOST_PARTNER_TRANSITIONS := ⟨He.int_ok X Gh (c.2.2.fact 18 (f := .int "MOST_PARTNER_TRANSITIONS" 2000) rfl)⟩
  c_MOST_STATES := ⟨He.int_ok X Gh (c.2.2.fact 19 (f := .int "MOST_STATES" 12) rfl)⟩
  c_MOST_TRANSITIONS := ⟨He.int_ok X Gh (c.2.2.fact 20 (f := .int "MOST_TRANSITIONS" 60) rfl)⟩
  ti := ⟨_, rfl, (ce_ c).1⟩
theorem facts {f : Addr} (X : K.In h) (Gh : h.Ns mainGlobals mg) (hfa : mg ("law" : Str) = some (.ref f)) (c : SaysY fa fnl exK K) (hfile : P.main.file = "/claim/cut.py") (htop : (P.main.scope.names.lookup ("super" : Str)).isSome = false) :
    ∃ fd : FuncData, (∀ (s : Shared) (v : Value), BindsTo s fd ⟨[v], []⟩ [("_law_script", v)]) ∧ ∀ base : Heap, K.In base → base.Ns mainGlobals mg → FnOk P w K mg base CX0' 8 f fd ["_law_script"] (spFn ⟨P, w, K, cl_ K⟩ [false] F_law) := by
  have G := gs_ X Gh c
  have TG : TalkG P K mg (cl_ K) := talk_ok X Gh (ce_ c).2 c.2.1 hfile htop rfl
  obtain ⟨fd_u_law_cell, F_u_law_cell'⟩ := c.2.2.def_ 0 (d := dd_u_law_cell) rfl
  obtain ⟨fd_u_law_row, F_u_law_row'⟩ := c.2.2.def_ 1 (d := dd_u_law_row) rfl
  obtain ⟨fd_u_law_draw, F_u_law_draw'⟩ := c.2.2.def_ 2 (d := dd_u_law_draw) rfl
  obtain ⟨fd_u_law_face, F_u_law_face'⟩ := c.2.2.def_ 3 (d := dd_u_law_face) rfl
  obtain ⟨fd_u_law_service, F_u_law_service'⟩ := c.2.2.def_ 4 (d := dd_u_law_service) rfl
  obtain ⟨fd_is_message, F_is_message'⟩ := c.2.2.def_ 5 (d := dd_is_message) rfl
  obtain ⟨fd_is_ascending, F_is_ascending'⟩ := c.2.2.def_ 6 (d := dd_is_ascending) rfl
  obtain ⟨fd_u_are_messages, F_u_are_messages'⟩ := c.2.2.def_ 7 (d := dd_u_are_messages) rfl
  obtain ⟨fd_is_number, F_is_number'⟩ := c.2.2.def_ 8 (d := dd_is_number) rfl
  obtain ⟨fd_u_are_transitions, F_u_are_transitions'⟩ := c.2.2.def_ 9 (d := dd_u_are_transitions) rfl
  obtain ⟨fd_u_are_final, F_u_are_final'⟩ := c.2.2.def_ 10 (d := dd_u_are_final) rfl
  obtain ⟨fd_u_is_shape, F_u_is_shape'⟩ := c.2.2.def_ 11 (d := dd_u_is_shape) rfl
  obtain ⟨fd_C_Service, F_C_Service'⟩ := c.2.2.def_ 12 (d := dd_C_Service) rfl
  obtain ⟨fd_u_law_service_told, F_u_law_service_told'⟩ := c.2.2.def_ 13 (d := dd_u_law_service_told) rfl
  obtain ⟨fd_u_law_spoiled, F_u_law_spoiled'⟩ := c.2.2.def_ 14 (d := dd_u_law_spoiled) rfl
  obtain ⟨fd_labels_of, F_labels_of'⟩ := c.2.2.def_ 15 (d := dd_labels_of) rfl
  obtain ⟨fd_u_law_made, F_u_law_made'⟩ := c.2.2.def_ 16 (d := dd_u_law_made) rfl
  obtain ⟨fd_u_law_labels, F_u_law_labels'⟩ := c.2.2.def_ 17 (d := dd_u_law_labels) rfl
  obtain ⟨fd_u_law_partner, F_u_law_partner'⟩ := c.2.2.def_ 18 (d := dd_u_law_partner) rfl
  obtain ⟨fd_is_label, F_is_label'⟩ := c.2.2.def_ 19 (d := dd_is_label) rfl
  obtain ⟨fd_C_Partner, F_C_Partner'⟩ := c.2.2.def_ 20 (d := dd_C_Partner) rfl
  obtain ⟨fd_u_law_partner_told, F_u_law_partner_told'⟩ := c.2.2.def_ 21 (d := dd_u_law_partner_told) rfl
  obtain ⟨fd_u_law_bad_partner, F_u_law_bad_partner'⟩ := c.2.2.def_ 22 (d := dd_u_law_bad_partner) rfl
  obtain ⟨fd_is_partner_for, F_is_partner_for'⟩ := c.2.2.def_ 23 (d := dd_is_partner_for) rfl
  obtain ⟨fd_u_law_mate, F_u_law_mate'⟩ := c.2.2.def_ 24 (d := dd_u_law_mate) rfl
  obtain ⟨fd_u_law_link, F_u_law_link'⟩ := c.2.2.def_ 25 (d := dd_u_law_link) rfl
  obtain ⟨fd_C_Link, F_C_Link'⟩ := c.2.2.def_ 26 (d := dd_C_Link) rfl
  obtain ⟨fd_u_law_link_told, F_u_law_link_told'⟩ := c.2.2.def_ 27 (d := dd_u_law_link_told) rfl
  obtain ⟨fd_u_law_bad_link, F_u_law_bad_link'⟩ := c.2.2.def_ 28 (d := dd_u_law_bad_link) rfl
  obtain ⟨fd_u_law_at_bounds, F_u_law_at_bounds'⟩ := c.2.2.def_ 29 (d := dd_u_law_at_bounds) rfl
  obtain ⟨fd_u_law_own_lists, F_u_law_own_lists'⟩ := c.2.2.def_ 30 (d := dd_u_law_own_lists) rfl
  obtain ⟨fd_C_Links, F_C_Links'⟩ := c.2.2.def_ 31 (d := dd_C_Links) rfl
  obtain ⟨fd_u_law_links, F_u_law_links'⟩ := c.2.2.def_ 32 (d := dd_u_law_links) rfl
  obtain ⟨fd_law, F_law'⟩ := c.2.2.def_ 33 (d := dd_law) rfl
  have e := hfa.symm.trans (He.glo_ok X Gh (c.2.2.fact 76 (f := .glo "law") rfl))
  cases e
  refine ⟨fd_law, fun s v => FunD.bindsA (ps := ["_law_script"]) F_law' (fun _ _ _ _ _ _ us hl => match us, hl with | [_], _ => rfl) s [v] rfl, fun base _ _ => ?_⟩
  have h_u_law_cell : FnD P w K mg base 1 "_law_cell" [false, false].length (spFn ⟨P, w, K, cl_ K⟩ [false, false] F_u_law_cell) := ⟨_, fd_u_law_cell, ["_law_script", "_law_k"], d_u_law_cell G F_u_law_cell' TG , He.glo_ok X Gh (c.2.2.fact 43 (f := .glo "_law_cell") rfl), F_u_law_cell'.kp, (FunD.bindsN (ps := ["_law_script", "_law_k"]) F_u_law_cell' fun _ _ _ _ _ _ us hl => match us, hl with | [_, _], _ => rfl)⟩
  have h_u_law_row : FnD P w K mg base 2 "_law_row" [false, false, false].length (spFn ⟨P, w, K, cl_ K⟩ [false, false, false] F_u_law_row) := ⟨_, fd_u_law_row, ["_law_script", "_law_first", "_law_last"], d_u_law_row G F_u_law_row' TG h_u_law_cell, He.glo_ok X Gh (c.2.2.fact 44 (f := .glo "_law_row") rfl), F_u_law_row'.kp, (FunD.bindsN (ps := ["_law_script", "_law_first", "_law_last"]) F_u_law_row' fun _ _ _ _ _ _ us hl => match us, hl with | [_, _, _], _ => rfl)⟩
  have h_u_law_draw : FnD P w K mg base 1 "_law_draw" (List.replicate 1 false).length (spBx ⟨P, w, K, cl_ K⟩ (List.replicate 1 false) F_u_law_draw) := ⟨_, fd_u_law_draw, ["_law_box", "_law_many"], d_u_law_draw G F_u_law_draw' TG , He.glo_ok X Gh (c.2.2.fact 45 (f := .glo "_law_draw") rfl), F_u_law_draw'.kp, (FunD.bindsN (ps := ["_law_box", "_law_many"]) F_u_law_draw' fun _ _ _ _ _ _ us hl => match us, hl with | [_, _], _ => rfl)⟩
  have h_u_law_face : FnD P w K mg base 2 "_law_face" (List.replicate 0 false).length (spBx ⟨P, w, K, cl_ K⟩ (List.replicate 0 false) F_u_law_face) := ⟨_, fd_u_law_face, ["_law_box"], d_u_law_face G F_u_law_face' TG h_u_law_draw, He.glo_ok X Gh (c.2.2.fact 46 (f := .glo "_law_face") rfl), F_u_law_face'.kp, (FunD.bindsN (ps := ["_law_box"]) F_u_law_face' fun _ _ _ _ _ _ us hl => match us, hl with | [_], _ => rfl)⟩
  have h_u_law_service : FnD P w K mg base 2 "_law_service" (List.replicate 2 false).length (spBx ⟨P, w, K, cl_ K⟩ (List.replicate 2 false) F_u_law_service) := ⟨_, fd_u_law_service, ["_law_box", "_law_face_here", "_law_most"], d_u_law_service G F_u_law_service' TG h_u_law_draw, He.glo_ok X Gh (c.2.2.fact 47 (f := .glo "_law_service") rfl), F_u_law_service'.kp, (FunD.bindsN (ps := ["_law_box", "_law_face_here", "_law_most"]) F_u_law_service' fun _ _ _ _ _ _ us hl => match us, hl with | [_, _, _], _ => rfl)⟩
  have h_is_message : FnD P w K mg base 1 "is_message" [false].length (spFn ⟨P, w, K, cl_ K⟩ [false] F_is_message) := ⟨_, fd_is_message, ["thing"], d_is_message G F_is_message' TG , He.glo_ok X Gh (c.2.2.fact 48 (f := .glo "is_message") rfl), F_is_message'.kp, (FunD.bindsN (ps := ["thing"]) F_is_message' fun _ _ _ _ _ _ us hl => match us, hl with | [_], _ => rfl)⟩
  have h_is_ascending : FnD P w K mg base 1 "is_ascending" [true].length (spFn ⟨P, w, K, cl_ K⟩ [true] F_is_ascending) := ⟨_, fd_is_ascending, ["things"], d_is_ascending G F_is_ascending' TG , He.glo_ok X Gh (c.2.2.fact 49 (f := .glo "is_ascending") rfl), F_is_ascending'.kp, (FunD.bindsN (ps := ["things"]) F_is_ascending' fun _ _ _ _ _ _ us hl => match us, hl with | [_], _ => rfl)⟩
  have h_u_are_messages : FnD P w K mg base 2 "_are_messages" [true].length (spFn ⟨P, w, K, cl_ K⟩ [true] F_u_are_messages) := ⟨_, fd_u_are_messages, ["thing"], d_u_are_messages G F_u_are_messages' TG h_is_message h_is_ascending, He.glo_ok X Gh (c.2.2.fact 50 (f := .glo "_are_messages") rfl), F_u_are_messages'.kp, (FunD.bindsN (ps := ["thing"]) F_u_are_messages' fun _ _ _ _ _ _ us hl => match us, hl with | [_], _ => rfl)⟩
  have h_is_number : FnD P w K mg base 1 "is_number" [false, false].length (spFn ⟨P, w, K, cl_ K⟩ [false, false] F_is_number) := ⟨_, fd_is_number, ["thing", "most"], d_is_number G F_is_number' TG , He.glo_ok X Gh (c.2.2.fact 51 (f := .glo "is_number") rfl), F_is_number'.kp, (FunD.bindsN (ps := ["thing", "most"]) F_is_number' fun _ _ _ _ _ _ us hl => match us, hl with | [_, _], _ => rfl)⟩
  have h_u_are_transitions : FnD P w K mg base 2 "_are_transitions" [true, false, false].length (spFn ⟨P, w, K, cl_ K⟩ [true, false, false] F_u_are_transitions) := ⟨_, fd_u_are_transitions, ["thing", "states", "most"], d_u_are_transitions G F_u_are_transitions' TG h_is_number, He.glo_ok X Gh (c.2.2.fact 52 (f := .glo "_are_transitions") rfl), F_u_are_transitions'.kp, (FunD.bindsN (ps := ["thing", "states", "most"]) F_u_are_transitions' fun _ _ _ _ _ _ us hl => match us, hl with | [_, _, _], _ => rfl)⟩
  have h_u_are_final : FnD P w K mg base 2 "_are_final" [true, false].length (spFn ⟨P, w, K, cl_ K⟩ [true, false] F_u_are_final) := ⟨_, fd_u_are_final, ["thing", "states"], d_u_are_final G F_u_are_final' TG h_is_number h_is_ascending, He.glo_ok X Gh (c.2.2.fact 53 (f := .glo "_are_final") rfl), F_u_are_final'.kp, (FunD.bindsN (ps := ["thing", "states"]) F_u_are_final' fun _ _ _ _ _ _ us hl => match us, hl with | [_, _], _ => rfl)⟩
  have h_u_is_shape : FnD P w K mg base 3 "_is_shape" [false, false, true, false, true].length (spFn ⟨P, w, K, cl_ K⟩ [false, false, true, false, true] F_u_is_shape) := ⟨_, fd_u_is_shape, ["states", "most", "transitions", "most_transitions", "final"], d_u_is_shape G F_u_is_shape' TG h_is_number h_u_are_transitions h_u_are_final, He.glo_ok X Gh (c.2.2.fact 54 (f := .glo "_is_shape") rfl), F_u_is_shape'.kp, (FunD.bindsN (ps := ["states", "most", "transitions", "most_transitions", "final"]) F_u_is_shape' fun _ _ _ _ _ _ us hl => match us, hl with | [_, _, _, _, _], _ => rfl)⟩
  have h_C_Service : ClQ (L2N.CX P w) P w K mg base (cl_ K) 4 "Service" (spBx ⟨P, w, K, cl_ K⟩ [true, true, false, true, true] F_C_Service) := ⟨_, _, fd_C_Service, ["self", "inputs", "outputs", "states", "transitions", "final"], rfl, He.mkr_ok (c.2.2.fact 55 (f := .mkr "Service") rfl), d_C_Service G F_C_Service' TG h_u_are_messages h_u_is_shape, He.glo_ok X Gh (c.2.2.fact 27 (f := .glo "Service") rfl), (FunD.bindsN (ps := ["self", "inputs", "outputs", "states", "transitions", "final"]) F_C_Service' fun _ _ _ _ _ _ us hl => match us, hl with | [_, _, _, _, _, _], _ => rfl)⟩
  have h_u_law_service_told : FnD P w K mg base 6 "_law_service_told" [false].length (spFn ⟨P, w, K, cl_ K⟩ [false] F_u_law_service_told) := ⟨_, fd_u_law_service_told, ["_law_v"], d_u_law_service_told G F_u_law_service_told' TG h_C_Service, He.glo_ok X Gh (c.2.2.fact 56 (f := .glo "_law_service_told") rfl), F_u_law_service_told'.kp, (FunD.bindsN (ps := ["_law_v"]) F_u_law_service_told' fun _ _ _ _ _ _ us hl => match us, hl with | [_], _ => rfl)⟩
  have h_u_law_spoiled : FnD P w K mg base 2 "_law_spoiled" (List.replicate 1 false).length (spBx ⟨P, w, K, cl_ K⟩ (List.replicate 1 false) F_u_law_spoiled) := ⟨_, fd_u_law_spoiled, ["_law_box", "_law_v"], d_u_law_spoiled G F_u_law_spoiled' TG h_u_law_draw, He.glo_ok X Gh (c.2.2.fact 57 (f := .glo "_law_spoiled") rfl), F_u_law_spoiled'.kp, (FunD.bindsN (ps := ["_law_box", "_law_v"]) F_u_law_spoiled' fun _ _ _ _ _ _ us hl => match us, hl with | [_, _], _ => rfl)⟩
  have h_labels_of : FnD P w K mg base 1 "labels_of" [false].length (spFn ⟨P, w, K, cl_ K⟩ [false] F_labels_of) := ⟨_, fd_labels_of, ["service"], d_labels_of G F_labels_of' TG , He.glo_ok X Gh (c.2.2.fact 58 (f := .glo "labels_of") rfl), F_labels_of'.kp, (FunD.bindsN (ps := ["service"]) F_labels_of' fun _ _ _ _ _ _ us hl => match us, hl with | [_], _ => rfl)⟩
  have h_u_law_made : FnD P w K mg base 6 "_law_made" [false].length (spFn ⟨P, w, K, cl_ K⟩ [false] F_u_law_made) := ⟨_, fd_u_law_made, ["_law_v"], d_u_law_made G F_u_law_made' TG h_C_Service, He.glo_ok X Gh (c.2.2.fact 59 (f := .glo "_law_made") rfl), F_u_law_made'.kp, (FunD.bindsN (ps := ["_law_v"]) F_u_law_made' fun _ _ _ _ _ _ us hl => match us, hl with | [_], _ => rfl)⟩
  have h_u_law_labels : FnD P w K mg base 1 "_law_labels" [false].length (spFn ⟨P, w, K, cl_ K⟩ [false] F_u_law_labels) := ⟨_, fd_u_law_labels, ["_law_v"], d_u_law_labels G F_u_law_labels' TG , He.glo_ok X Gh (c.2.2.fact 60 (f := .glo "_law_labels") rfl), F_u_law_labels'.kp, (FunD.bindsN (ps := ["_law_v"]) F_u_law_labels' fun _ _ _ _ _ _ us hl => match us, hl with | [_], _ => rfl)⟩
  have h_u_law_partner : FnD P w K mg base 2 "_law_partner" (List.replicate 2 false).length (spBx ⟨P, w, K, cl_ K⟩ (List.replicate 2 false) F_u_law_partner) := ⟨_, fd_u_law_partner, ["_law_box", "_law_labels_here", "_law_most"], d_u_law_partner G F_u_law_partner' TG h_u_law_draw, He.glo_ok X Gh (c.2.2.fact 61 (f := .glo "_law_partner") rfl), F_u_law_partner'.kp, (FunD.bindsN (ps := ["_law_box", "_law_labels_here", "_law_most"]) F_u_law_partner' fun _ _ _ _ _ _ us hl => match us, hl with | [_, _, _], _ => rfl)⟩
  have h_is_label : FnD P w K mg base 2 "is_label" [false].length (spFn ⟨P, w, K, cl_ K⟩ [false] F_is_label) := ⟨_, fd_is_label, ["thing"], d_is_label G F_is_label' TG h_is_message, He.glo_ok X Gh (c.2.2.fact 62 (f := .glo "is_label") rfl), F_is_label'.kp, (FunD.bindsN (ps := ["thing"]) F_is_label' fun _ _ _ _ _ _ us hl => match us, hl with | [_], _ => rfl)⟩
  have h_C_Partner : ClQ (L2N.CX P w) P w K mg base (cl_ K) 4 "Partner" (spBx ⟨P, w, K, cl_ K⟩ [false, true, true] F_C_Partner) := ⟨_, _, fd_C_Partner, ["self", "states", "transitions", "final"], rfl, He.mkr_ok (c.2.2.fact 63 (f := .mkr "Partner") rfl), d_C_Partner G F_C_Partner' TG h_u_is_shape h_is_label, He.glo_ok X Gh (c.2.2.fact 25 (f := .glo "Partner") rfl), (FunD.bindsN (ps := ["self", "states", "transitions", "final"]) F_C_Partner' fun _ _ _ _ _ _ us hl => match us, hl with | [_, _, _, _], _ => rfl)⟩
  have h_u_law_partner_told : FnD P w K mg base 6 "_law_partner_told" [false].length (spFn ⟨P, w, K, cl_ K⟩ [false] F_u_law_partner_told) := ⟨_, fd_u_law_partner_told, ["_law_p"], d_u_law_partner_told G F_u_law_partner_told' TG h_C_Partner, He.glo_ok X Gh (c.2.2.fact 64 (f := .glo "_law_partner_told") rfl), F_u_law_partner_told'.kp, (FunD.bindsN (ps := ["_law_p"]) F_u_law_partner_told' fun _ _ _ _ _ _ us hl => match us, hl with | [_], _ => rfl)⟩
  have h_u_law_bad_partner : FnD P w K mg base 2 "_law_bad_partner" (List.replicate 1 false).length (spBx ⟨P, w, K, cl_ K⟩ (List.replicate 1 false) F_u_law_bad_partner) := ⟨_, fd_u_law_bad_partner, ["_law_box", "_law_p"], d_u_law_bad_partner G F_u_law_bad_partner' TG h_u_law_draw, He.glo_ok X Gh (c.2.2.fact 65 (f := .glo "_law_bad_partner") rfl), F_u_law_bad_partner'.kp, (FunD.bindsN (ps := ["_law_box", "_law_p"]) F_u_law_bad_partner' fun _ _ _ _ _ _ us hl => match us, hl with | [_, _], _ => rfl)⟩
  have h_is_partner_for : FnD P w K mg base 2 "is_partner_for" [false, false].length (spFn ⟨P, w, K, cl_ K⟩ [false, false] F_is_partner_for) := ⟨_, fd_is_partner_for, ["service", "partner"], d_is_partner_for G F_is_partner_for' TG h_labels_of, He.glo_ok X Gh (c.2.2.fact 66 (f := .glo "is_partner_for") rfl), F_is_partner_for'.kp, (FunD.bindsN (ps := ["service", "partner"]) F_is_partner_for' fun _ _ _ _ _ _ us hl => match us, hl with | [_, _], _ => rfl)⟩
  have h_u_law_mate : FnD P w K mg base 6 "_law_mate" [false].length (spFn ⟨P, w, K, cl_ K⟩ [false] F_u_law_mate) := ⟨_, fd_u_law_mate, ["_law_p"], d_u_law_mate G F_u_law_mate' TG h_C_Partner, He.glo_ok X Gh (c.2.2.fact 67 (f := .glo "_law_mate") rfl), F_u_law_mate'.kp, (FunD.bindsN (ps := ["_law_p"]) F_u_law_mate' fun _ _ _ _ _ _ us hl => match us, hl with | [_], _ => rfl)⟩
  have h_u_law_link : FnD P w K mg base 2 "_law_link" (List.replicate 0 false).length (spBx ⟨P, w, K, cl_ K⟩ (List.replicate 0 false) F_u_law_link) := ⟨_, fd_u_law_link, ["_law_box"], d_u_law_link G F_u_law_link' TG h_u_law_draw, He.glo_ok X Gh (c.2.2.fact 68 (f := .glo "_law_link") rfl), F_u_law_link'.kp, (FunD.bindsN (ps := ["_law_box"]) F_u_law_link' fun _ _ _ _ _ _ us hl => match us, hl with | [_], _ => rfl)⟩
  have h_C_Link : ClQ (L2N.CX P w) P w K mg base (cl_ K) 2 "Link" (spBx ⟨P, w, K, cl_ K⟩ (List.replicate 4 false) F_C_Link) := ⟨_, _, fd_C_Link, ["self", "capacity", "order", "losses", "doubles"], rfl, He.mkr_ok (c.2.2.fact 69 (f := .mkr "Link") rfl), d_C_Link G F_C_Link' TG h_is_number, He.glo_ok X Gh (c.2.2.fact 21 (f := .glo "Link") rfl), (FunD.bindsN (ps := ["self", "capacity", "order", "losses", "doubles"]) F_C_Link' fun _ _ _ _ _ _ us hl => match us, hl with | [_, _, _, _, _], _ => rfl)⟩
  have h_u_law_link_told : FnD P w K mg base 4 "_law_link_told" [false].length (spFn ⟨P, w, K, cl_ K⟩ [false] F_u_law_link_told) := ⟨_, fd_u_law_link_told, ["_law_one"], d_u_law_link_told G F_u_law_link_told' TG h_C_Link, He.glo_ok X Gh (c.2.2.fact 70 (f := .glo "_law_link_told") rfl), F_u_law_link_told'.kp, (FunD.bindsN (ps := ["_law_one"]) F_u_law_link_told' fun _ _ _ _ _ _ us hl => match us, hl with | [_], _ => rfl)⟩
  have h_u_law_bad_link : FnD P w K mg base 2 "_law_bad_link" (List.replicate 0 false).length (spBx ⟨P, w, K, cl_ K⟩ (List.replicate 0 false) F_u_law_bad_link) := ⟨_, fd_u_law_bad_link, ["_law_box"], d_u_law_bad_link G F_u_law_bad_link' TG h_u_law_draw, He.glo_ok X Gh (c.2.2.fact 71 (f := .glo "_law_bad_link") rfl), F_u_law_bad_link'.kp, (FunD.bindsN (ps := ["_law_box"]) F_u_law_bad_link' fun _ _ _ _ _ _ us hl => match us, hl with | [_], _ => rfl)⟩
  have h_u_law_at_bounds : FnD P w K mg base 7 "_law_at_bounds" ([] : List Bool).length (spFn ⟨P, w, K, cl_ K⟩ ([] : List Bool) F_u_law_at_bounds) := ⟨_, fd_u_law_at_bounds, [], d_u_law_at_bounds G F_u_law_at_bounds' TG h_u_law_service_told h_labels_of h_u_law_made h_u_law_partner_told h_is_partner_for h_u_law_mate h_u_law_link_told, He.glo_ok X Gh (c.2.2.fact 72 (f := .glo "_law_at_bounds") rfl), F_u_law_at_bounds'.kp, (FunD.bindsN (ps := []) F_u_law_at_bounds' fun _ _ _ _ _ _ us hl => match us, hl with | [], _ => rfl)⟩
  have h_u_law_own_lists : FnD P w K mg base 6 "_law_own_lists" ([] : List Bool).length (spFn ⟨P, w, K, cl_ K⟩ ([] : List Bool) F_u_law_own_lists) := ⟨_, fd_u_law_own_lists, [], d_u_law_own_lists G F_u_law_own_lists' TG h_C_Service h_C_Partner, He.glo_ok X Gh (c.2.2.fact 73 (f := .glo "_law_own_lists") rfl), F_u_law_own_lists'.kp, (FunD.bindsN (ps := []) F_u_law_own_lists' fun _ _ _ _ _ _ us hl => match us, hl with | [], _ => rfl)⟩
  have h_C_Links : ClD P w K mg base (cl_ K) 1 "Links" (spBx ⟨P, w, K, cl_ K⟩ (List.replicate 2 false) F_C_Links) := ⟨_, _, fd_C_Links, ["self", "to_service", "to_partner"], rfl, He.mkr_ok (c.2.2.fact 74 (f := .mkr "Links") rfl), d_C_Links G F_C_Links' TG , He.glo_ok X Gh (c.2.2.fact 23 (f := .glo "Links") rfl), (FunD.bindsN (ps := ["self", "to_service", "to_partner"]) F_C_Links' fun _ _ _ _ _ _ us hl => match us, hl with | [_, _, _], _ => rfl)⟩
  have h_u_law_links : FnD P w K mg base 4 "_law_links" [false].length (spFn ⟨P, w, K, cl_ K⟩ [false] F_u_law_links) := ⟨_, fd_u_law_links, ["_law_pair"], d_u_law_links G F_u_law_links' TG h_C_Links h_C_Link, He.glo_ok X Gh (c.2.2.fact 75 (f := .glo "_law_links") rfl), F_u_law_links'.kp, (FunD.bindsN (ps := ["_law_pair"]) F_u_law_links' fun _ _ _ _ _ _ us hl => match us, hl with | [_], _ => rfl)⟩
  exact d_law G F_law' TG h_u_law_row h_u_law_face h_u_law_service h_u_law_service_told h_u_law_spoiled h_labels_of h_u_law_made h_u_law_labels h_u_law_partner h_u_law_partner_told h_u_law_bad_partner h_is_partner_for h_u_law_mate h_u_law_link h_u_law_link_told h_u_law_bad_link h_u_law_at_bounds h_u_law_own_lists h_C_Service h_u_law_links
end
end Lw
set_option Elab.async false
set_option linter.all false
set_option autoImplicit false
set_option maxRecDepth 100000
set_option synthInstance.maxSize 4000
set_option synthInstance.maxHeartbeats 400000
set_option maxHeartbeats 1000000
namespace Lw
open PySem Ev
noncomputable def P_u_law_cell (a1 : (List Int)) (a2 : Int) : Option Int := St.fo (if (decide (a2 < (a1.length : Int))) = true then
  St.ob (ixO a1 a2) fun h1 =>
  .rt (h1)
else
  .rt ((0 : Int)) : St Unit Int) (fun _ => none)
theorem ok_u_law_cell (a1 : (List Int)) (a2 : Int) {q : Int} (hq : P_u_law_cell a1 a2 = some q) : F_u_law_cell [eC a1, eI a2] = .ok ((fun r => (⟨eI r, false⟩ : Vl)) q) := by
  refine runF_ty (N := 2) (Γ := [.S (eC a1), .S (eI a2)]) (Γn := fun _ => [.A, .A]) (V := (fun r => (⟨eI r, false⟩ : Vl))) hq (P_u_law_cell.eq_1 a1 a2) ?_ (fun _ => .inl rfl)
  exact y_guard (q_tBool (q_primD (q_o1 (q_on) (q_o1 (q_ov (q_primD (q_o1 (q_on) q_o0) rfl rfl)) q_o0)) rfl rfl)) (fun _ => y_ob fun h1 hh1 =>
  y_ret (q_prim (q_o1 (q_on) (q_o1 (q_on) q_o0)) (p_ixC hh1))) (fun _ => y_ret q_c)
noncomputable def P_u_law_row (a1 : (List Int)) (a2 : Int) (a3 : Int) : Option (List Int) := St.fo (St.lt ([] : (List Int)) fun v1 =>
  St.ob (rangeO a2 a3) fun r2 =>
  ((forT (fun (s3 : (List Int)) (x4 : Int) => (St.ob (P_u_law_cell a1 x4) fun p5 =>
  St.lt (p5 : Int) fun v6 =>
  St.lt (((if ((2 : Int) * v6) < 0 then -((2 : Int) * v6) else ((2 : Int) * v6)) + (if (decide (v6 < (0 : Int))) = true then (1 : Int) else 0)) : Int) fun v7 =>
  if (decide (((10 : Int) ^ 18) < v7)) = true then
  St.ob (rangeO 0 (60 : Int)) fun r8 =>
  ((forT (fun (s9 : (List Int) × Int) (x10 : Int) => (if (decide ((0 : Int) < s9.2)) = true then
  St.ob (pushO s9.1 (s9.2.fmod (840 : Int))) fun l11 =>
  .nx (l11, (s9.2.fdiv (840 : Int)))
else
  .nx (s9.1, s9.2) : St ((List Int) × Int) (List Int))) r8 (s3, v7)).bind fun z12 => .nx z12.1)
else
  St.ob (rangeO 0 (10 : Int)) fun r13 =>
  ((forT (fun (s14 : (List Int) × Int) (x15 : Int) => (St.lt (((((s14.2 * (69069 : Int)) + ((104729 : Int) * (x4 + x15))) + (1 : Int)).fmod (4294967291 : Int)) : Int) fun v16 =>
  St.ob (pushO s14.1 ((v16.fdiv (5003 : Int)).fmod (840 : Int))) fun l17 =>
  .nx (l17, v16) : St ((List Int) × Int) (List Int))) r13 (s3, v7)).bind fun z18 => .nx z18.1) : St ((List Int)) (List Int))) r2 v1).bind fun z19 =>
  .rt z19) : St Unit (List Int)) (fun _ => none)
theorem ok_u_law_row (a1 : (List Int)) (a2 : Int) (a3 : Int) {q : (List Int)} (hq : P_u_law_row a1 a2 a3 = some q) : F_u_law_row [eC a1, eI a2, eI a3] = .ok ((fun r => (⟨(eL eI) r, true⟩ : Vl)) q) := by
  refine runF_ty (N := 7) (Γ := [.S (eC a1), .S (eI a2), .S (eI a3), .U, .U, .U, .U]) (Γn := fun _ => [.A, .A, .A, .A, .A, .A, .A]) (V := (fun r => (⟨(eL eI) r, true⟩ : Vl))) hq (P_u_law_row.eq_1 a1 a2 a3) ?_ (fun _ => .inl rfl)
  exact y_seq (Γ1 := fun (v1 : (List Int)) => [.S (eC a1), .S (eI a2), .S (eI a3), .O ((eL eI) v1), .U, .U, .U]) (y_asgN (q_lst q_o0)) fun v1 =>
  y_ob fun r2 hr2 =>
  y_then (Γ1 := fun (z19 : (List Int)) => [.S (eC a1), .S (eI a2), .S (eI a3), .O ((eL eI) z19), .J, .J, .J]) (y_for (ei := eI) (Γn := fun (s3 : (List Int)) => [.S (eC a1), .S (eI a2), .S (eI a3), .O ((eL eI) s3), .J, .J, .J]) (q_range2 hr2 (q_o1 (q_on) (q_o1 (q_on) q_o0))) (by exact ⟨SP.le_rfl, SP.le_rfl, SP.le_rfl, SP.le_rfl, SP.le_UJ, SP.le_UJ, SP.le_UJ, trivial⟩) (fun (s3 : (List Int)) (x4 : Int) => [.S (eC a1), .S (eI a2), .S (eI a3), .O ((eL eI) s3), .S (eI x4), .J, .J]) (fun (s3 : (List Int)) (x4 : Int) => rfl) (fun (s3 : (List Int)) (x4 : Int) =>
  y_ob fun p5 hp5 =>
  y_seq (Γ1 := fun (v6 : Int) => [.S (eC a1), .S (eI a2), .S (eI a3), .O ((eL eI) s3), .S (eI x4), .S (eI v6), .J]) (y_asgF (q_call (q_o1 (q_ov (q_nmS)) (q_o1 (q_ov (q_nmS)) q_o0)) (ok_u_law_cell a1 x4 hp5))) fun v6 =>
  y_seq (Γ1 := fun (v7 : Int) => [.S (eC a1), .S (eI a2), .S (eI a3), .O ((eL eI) s3), .S (eI x4), .S (eI v7), .J]) (y_asgF (q_primD (q_o1 (q_ov (q_primD (q_o1 (q_ov (q_prim (q_o1 (q_ov q_c) (q_o1 (q_on) q_o0)) (pMul_l 2 (by decide)))) q_o0) rfl rfl)) (q_o1 (q_ov (q_primD (q_o1 (q_ov (q_primD (q_o1 (q_on) (q_o1 (q_ov q_c) q_o0)) rfl rfl)) q_o0) rfl rfl)) q_o0)) rfl rfl)) fun v7 =>
  y_if (q_tBool (q_primD (q_o1 (q_on) (q_o1 (q_ov (q_prim (q_o1 (q_ov q_c) (q_o1 (q_ov q_c) q_o0)) (pPow_int (i := 10) (j := 18) (by decide)))) q_o0)) rfl rfl)) (fun _ => y_ob fun r8 hr8 =>
  y_map (Γ1 := fun (z12 : (List Int) × Int) => [.S (eC a1), .S (eI a2), .S (eI a3), .O ((eL eI) z12.1), .S (eI x4), .S (eI z12.2), .J]) (fun (z12 : (List Int) × Int) => z12.1) (y_for (ei := eI) (Γn := fun (s9 : (List Int) × Int) => [.S (eC a1), .S (eI a2), .S (eI a3), .O ((eL eI) s9.1), .S (eI x4), .S (eI s9.2), .J]) (q_range1 hr8 (q_o1 (q_ov q_c) q_o0)) (by exact Le.refl _) (fun (s9 : (List Int) × Int) (x10 : Int) => [.S (eC a1), .S (eI a2), .S (eI a3), .O ((eL eI) s9.1), .S (eI x4), .S (eI s9.2), .S (eI x10)]) (fun (s9 : (List Int) × Int) (x10 : Int) => rfl) (fun (s9 : (List Int) × Int) (x10 : Int) =>
  y_if (q_tBool (q_primD (q_o1 (q_on) (q_o1 (q_ov q_c) q_o0)) rfl rfl)) (fun _ => y_ob fun l11 hl11 =>
  y_sq (Δ := [.S (eC a1), .S (eI a2), .S (eI a3), .O ((eL eI) l11), .S (eI x4), .S (eI s9.2), .S (eI x10)]) (y_drop (q_methO (q_o1 (q_ov (q_prim (q_o1 (q_ov (q_primD (q_o1 (q_on) q_o0) rfl rfl)) (q_o1 (q_ov q_c) q_o0)) (pMod_int (j := 840) (by decide)))) q_o0) (p_push (e := eI) hl11))) (
  y_asgF (q_prim (q_o1 (q_on) (q_o1 (q_ov q_c) q_o0)) (pFdiv_int (j := 840) (by decide))) (by exact ⟨SP.le_rfl, SP.le_rfl, SP.le_rfl, SP.le_rfl, SP.le_rfl, SP.le_rfl, SP.le_SJ, trivial⟩))) (fun _ => (y_skip (by exact ⟨SP.le_rfl, SP.le_rfl, SP.le_rfl, SP.le_rfl, SP.le_rfl, SP.le_rfl, SP.le_SJ, trivial⟩))))) (fun z12 => (by exact ⟨SP.le_rfl, SP.le_rfl, SP.le_rfl, SP.le_rfl, SP.le_SJ, SP.le_SJ, SP.le_rfl, trivial⟩))) (fun _ => y_ob fun r13 hr13 =>
  y_map (Γ1 := fun (z18 : (List Int) × Int) => [.S (eC a1), .S (eI a2), .S (eI a3), .O ((eL eI) z18.1), .S (eI x4), .S (eI z18.2), .J]) (fun (z18 : (List Int) × Int) => z18.1) (y_for (ei := eI) (Γn := fun (s14 : (List Int) × Int) => [.S (eC a1), .S (eI a2), .S (eI a3), .O ((eL eI) s14.1), .S (eI x4), .S (eI s14.2), .J]) (q_range1 hr13 (q_o1 (q_ov q_c) q_o0)) (by exact Le.refl _) (fun (s14 : (List Int) × Int) (x15 : Int) => [.S (eC a1), .S (eI a2), .S (eI a3), .O ((eL eI) s14.1), .S (eI x4), .S (eI s14.2), .S (eI x15)]) (fun (s14 : (List Int) × Int) (x15 : Int) => rfl) (fun (s14 : (List Int) × Int) (x15 : Int) =>
  y_seq (Γ1 := fun (v16 : Int) => [.S (eC a1), .S (eI a2), .S (eI a3), .O ((eL eI) s14.1), .S (eI x4), .S (eI v16), .S (eI x15)]) (y_asgF (q_prim (q_o1 (q_ov (q_primD (q_o1 (q_ov (q_primD (q_o1 (q_ov (q_primD (q_o1 (q_ov (q_prim (q_o1 (q_on) (q_o1 (q_ov q_c) q_o0)) (pMul_r 69069 (by decide)))) (q_o1 (q_ov (q_prim (q_o1 (q_ov q_c) (q_o1 (q_ov (q_primD (q_o1 (q_on) (q_o1 (q_on) q_o0)) rfl rfl)) q_o0)) (pMul_l 104729 (by decide)))) q_o0)) rfl rfl)) (q_o1 (q_ov q_c) q_o0)) rfl rfl)) q_o0) rfl rfl)) (q_o1 (q_ov q_c) q_o0)) (pMod_int (j := 4294967291) (by decide)))) fun v16 =>
  y_ob fun l17 hl17 =>
  y_drop (q_methO (q_o1 (q_ov (q_prim (q_o1 (q_ov (q_primD (q_o1 (q_ov (q_prim (q_o1 (q_on) (q_o1 (q_ov q_c) q_o0)) (pFdiv_int (j := 5003) (by decide)))) q_o0) rfl rfl)) (q_o1 (q_ov q_c) q_o0)) (pMod_int (j := 840) (by decide)))) q_o0) (p_push (e := eI) hl17)) (by exact ⟨SP.le_rfl, SP.le_rfl, SP.le_rfl, SP.le_rfl, SP.le_rfl, SP.le_rfl, SP.le_SJ, trivial⟩))) (fun z18 => (by exact ⟨SP.le_rfl, SP.le_rfl, SP.le_rfl, SP.le_rfl, SP.le_SJ, SP.le_SJ, SP.le_rfl, trivial⟩))))) fun z19 =>
  y_retO
noncomputable def P_u_law_draw (bx : Bx) (a1 : Int) : Option (Int × Bx) := St.fo (St.lt (bx.at' : Int) fun v1 =>
  if (decide (v1 < (((⟨bx.row, (v1 + (1 : Int))⟩ : Bx).row).length : Int))) = true then
  St.ob (ixO ((⟨bx.row, (v1 + (1 : Int))⟩ : Bx).row) v1) fun h2 =>
  St.ob (modO h2 a1) fun h3 =>
  .rt ((h3, (⟨bx.row, (v1 + (1 : Int))⟩ : Bx)))
else
  St.ob (modO ((v1 * (5 : Int)) + (1 : Int)) a1) fun h4 =>
  .rt ((h4, (⟨bx.row, (v1 + (1 : Int))⟩ : Bx))) : St Bx (Int × Bx)) (fun b => none)
theorem ok_u_law_draw (bx : Bx) (a1 : Int) {q : (Int × Bx)} (hq : P_u_law_draw bx a1 = some q) : F_u_law_draw (encBx bx) [eI a1] = .ok ((fun r => (⟨eI r.1, false⟩ : Vl)) q) ((fun r => encBx r.2) q) := by
  refine runB_ty (N := 3) (Γ := [.B (encBx bx), .S (eI a1), .U]) (Γn := fun b => [.B (encBx b), .A, .A]) (V := (fun r => (⟨eI r.1, false⟩ : Vl))) (X := (fun r => encBx r.2)) (tt := t_u_law_draw) (mm := 1) (n := 3) (d0 := encBx bx) (ds := [eI a1]) hq (P_u_law_draw.eq_1 bx a1) ?_ (fun _ => .inl rfl)
  exact y_seq (Γ1 := fun (v1 : Int) => [.B (encBx bx), .S (eI a1), .S (eI v1)]) (y_asgF (q_prim (q_o1 (q_on) (q_o1 (q_ov q_c) q_o0)) (ixL rfl))) fun v1 =>
  y_sq (Δ := [.B (encBx (⟨bx.row, (v1 + (1 : Int))⟩ : Bx)), .S (eI a1), .S (eI v1)]) (y_setIB (q_primD (q_o1 (q_on) (q_o1 (q_ov q_c) q_o0)) rfl rfl) (q_ov q_c) rfl) (
  y_guard (q_tBool (q_primD (q_o1 (q_on) (q_o1 (q_ov (q_prim (q_o1 (q_ov (q_prim (q_o1 (q_on) (q_o1 (q_ov q_c) q_o0)) (ixL rfl))) q_o0) p_len)) q_o0)) rfl rfl)) (fun _ => y_ob fun h2 hh2 =>
  y_ob fun h3 hh3 =>
  y_retB (q_prim (q_o1 (q_ov (q_primD (q_o1 (q_ov (q_prim (q_o1 (q_ov (q_prim (q_o1 (q_on) (q_o1 (q_ov q_c) q_o0)) (ixL rfl))) (q_o1 (q_on) q_o0)) (p_ix (e := eI) hh2))) q_o0) rfl rfl)) (q_o1 (q_on) q_o0)) (p_mod hh3))) (fun _ => y_ob fun h4 hh4 =>
  y_retB (q_prim (q_o1 (q_ov (q_primD (q_o1 (q_ov (q_primD (q_o1 (q_ov (q_prim (q_o1 (q_on) (q_o1 (q_ov q_c) q_o0)) (pMul_r 5 (by decide)))) (q_o1 (q_ov q_c) q_o0)) rfl rfl)) q_o0) rfl rfl)) (q_o1 (q_on) q_o0)) (p_mod hh4))))
noncomputable def P_u_law_face (bx : Bx) : Option (((List Str) × (List Str)) × Bx) := St.fo (St.ob (P_u_law_draw bx (5 : Int)) fun d1 =>
  St.ob (ixO [[("a" : Str)], [("a" : Str), ("b" : Str)], [], [("b" : Str)], [("a" : Str), ("b" : Str)]] d1.1) fun h2 =>
  St.lt (h2 : (List Str)) fun v3 =>
  St.ob (P_u_law_draw d1.2 (5 : Int)) fun d4 =>
  St.ob (ixO [[("c" : Str)], [("c" : Str), ("d" : Str)], [("c" : Str)], [], [("d" : Str)]] d4.1) fun h5 =>
  St.lt (h5 : (List Str)) fun v6 =>
  .rt (((v3, v6), d4.2)) : St Bx (((List Str) × (List Str)) × Bx)) (fun b => none)
theorem ok_u_law_face (bx : Bx) {q : (((List Str) × (List Str)) × Bx)} (hq : P_u_law_face bx = some q) : F_u_law_face (encBx bx) [] = .ok ((fun r => (⟨(eH2 (eL eS) (eL eS)) r.1, true⟩ : Vl)) q) ((fun r => encBx r.2) q) := by
  refine runB_ty (N := 3) (Γ := [.B (encBx bx), .U, .U]) (Γn := fun b => [.B (encBx b), .A, .A]) (V := (fun r => (⟨(eH2 (eL eS) (eL eS)) r.1, true⟩ : Vl))) (X := (fun r => encBx r.2)) (tt := t_u_law_face) (mm := 0) (n := 3) (d0 := encBx bx) (ds := []) hq (P_u_law_face.eq_1 bx) ?_ (fun _ => .inl rfl)
  exact y_ob fun d1 hd1 =>
  y_ob fun h2 hh2 =>
  y_seq (Γ1 := fun (v3 : (List Str)) => [.B (encBx d1.2), .S ((eL eS) v3), .U]) (y_asgF (q_prim (q_o1 (q_ov (q_lst (q_o1 (q_ov (q_lst (q_o1 (q_ov q_c) q_o0))) (q_o1 (q_ov (q_lst (q_o1 (q_ov q_c) (q_o1 (q_ov q_c) q_o0)))) (q_o1 (q_ov (q_lst q_o0)) (q_o1 (q_ov (q_lst (q_o1 (q_ov q_c) q_o0))) (q_o1 (q_ov (q_lst (q_o1 (q_ov q_c) (q_o1 (q_ov q_c) q_o0)))) q_o0))))))) (q_o1 (q_ov (q_callBB (q_o1 (q_ov q_c) q_o0) (ok_u_law_draw bx (5 : Int) hd1))) q_o0)) (p_ix (e := (eL eS)) hh2))) fun v3 =>
  y_ob fun d4 hd4 =>
  y_ob fun h5 hh5 =>
  y_seq (Γ1 := fun (v6 : (List Str)) => [.B (encBx d4.2), .S ((eL eS) v3), .S ((eL eS) v6)]) (y_asgF (q_prim (q_o1 (q_ov (q_lst (q_o1 (q_ov (q_lst (q_o1 (q_ov q_c) q_o0))) (q_o1 (q_ov (q_lst (q_o1 (q_ov q_c) (q_o1 (q_ov q_c) q_o0)))) (q_o1 (q_ov (q_lst (q_o1 (q_ov q_c) q_o0))) (q_o1 (q_ov (q_lst q_o0)) (q_o1 (q_ov (q_lst (q_o1 (q_ov q_c) q_o0))) q_o0))))))) (q_o1 (q_ov (q_callBB (q_o1 (q_ov q_c) q_o0) (ok_u_law_draw d1.2 (5 : Int) hd4))) q_o0)) (p_ix (e := (eL eS)) hh5))) fun v6 =>
  y_retB (q_lst (q_o1 (q_ov (q_primD (q_o1 (q_on) q_o0) rfl rfl)) (q_o1 (q_ov (q_primD (q_o1 (q_on) q_o0) rfl rfl)) q_o0)))
noncomputable def P_u_law_service (bx : Bx) (a1 : ((List Str) × (List Str))) (a2 : Int) : Option (Sv × Bx) := St.fo (St.ob (P_u_law_draw bx a2) fun d1 =>
  St.lt (((1 : Int) + d1.1) : Int) fun v2 =>
  St.ob (compO (fun (x3 : Str) => Option.map some ((addS ("?" : Str) x3).bind fun h5 => some (h5 : Str))) a1.1) fun c6 =>
  St.ob (compO (fun (x7 : Str) => Option.map some ((addS ("!" : Str) x7).bind fun h9 => some (h9 : Str))) a1.2) fun c10 =>
  St.ob (addL c6 c10) fun h11 =>
  St.ob (addL h11 [("tau" : Str)]) fun h12 =>
  St.lt (h12 : (List Str)) fun v13 =>
  St.lt ([] : (List (Int × Str × Int))) fun v14 =>
  St.ob (P_u_law_draw d1.2 (((3 : Int) * v2) + (1 : Int))) fun d15 =>
  St.ob (rangeO 0 d15.1) fun r16 =>
  ((forT (fun (s17 : Bx × (List (Int × Str × Int))) (x18 : Int) => (St.ob (P_u_law_draw s17.1 (9 : Int)) fun d19 =>
  St.lt (d19.1 : Int) fun v20 =>
  St.lt (("tau" : Str) : Str) fun v21 =>
  (((if (decide ((0 : Int) < v20)) = true then
  St.ob (modO v20 (v13.length : Int)) fun h22 =>
  St.ob (ixO v13 h22) fun h23 =>
  .nx h23
else
  .nx v21) : St (Str) (Sv × Bx)).bind fun z24 =>
  St.ob (P_u_law_draw d19.2 v2) fun d25 =>
  St.ob (P_u_law_draw d25.2 v2) fun d26 =>
  St.lt ((d25.1, z24, d26.1) : (Int × Str × Int)) fun v27 =>
  if (!decide (v27 ∈ s17.2)) = true then
  St.ob (pushO s17.2 v27) fun l28 =>
  .nx (d26.2, l28)
else
  .nx (d26.2, s17.2)) : St (Bx × (List (Int × Str × Int))) (Sv × Bx))) r16 (d15.2, v14)).bind fun z29 =>
  St.ob (rangeO 0 v2) fun r30 =>
  St.ob (compS (fun (x31 : Int) (s32 : Bx) => ((P_u_law_draw s32 (2 : Int)).bind fun d33 => (if (decide (d33.1 = (0 : Int))) = true then Option.map (fun r => (some r.1, r.2)) (some ((x31 : Int), (d33.2 : Bx))) else some (none, d33.2)))) r30 z29.1) fun c34 =>
  St.lt (c34.1 : (List Int)) fun v35 =>
  .rt (((⟨a1.1, a1.2, v2, (sortE (eT3 eI eS eI) z29.2), v35⟩ : Sv), c34.2))) : St Bx (Sv × Bx)) (fun b => none)
theorem ok_u_law_service (bx : Bx) (a1 : ((List Str) × (List Str))) (a2 : Int) {q : (Sv × Bx)} (hq : P_u_law_service bx a1 a2 = some q) : F_u_law_service (encBx bx) [(eH2 (eL eS) (eL eS)) a1, eI a2] = .ok ((fun r => (⟨encSv r.1, true⟩ : Vl)) q) ((fun r => encBx r.2) q) := by
  refine runB_ty (N := 13) (Γ := [.B (encBx bx), .S ((eH2 (eL eS) (eL eS)) a1), .S (eI a2), .U, .U, .U, .U, .U, .U, .U, .U, .U, .U]) (Γn := fun b => [.B (encBx b), .A, .A, .A, .A, .A, .A, .A, .A, .A, .A, .A, .A]) (V := (fun r => (⟨encSv r.1, true⟩ : Vl))) (X := (fun r => encBx r.2)) (tt := t_u_law_service) (mm := 2) (n := 13) (d0 := encBx bx) (ds := [(eH2 (eL eS) (eL eS)) a1, eI a2]) hq (P_u_law_service.eq_1 bx a1 a2) ?_ (fun _ => .inl rfl)
  exact y_ob fun d1 hd1 =>
  y_seq (Γ1 := fun (v2 : Int) => [.B (encBx d1.2), .S ((eH2 (eL eS) (eL eS)) a1), .S (eI a2), .S (eI v2), .U, .U, .U, .U, .U, .U, .U, .U, .U]) (y_asgF (q_primD (q_o1 (q_ov q_c) (q_o1 (q_ov (q_callBB (q_o1 (q_ov (q_nmS)) q_o0) (ok_u_law_draw bx a2 hd1))) q_o0)) rfl rfl)) fun v2 =>
  y_ob fun c6 hc6 =>
  y_ob fun c10 hc10 =>
  y_ob fun h11 hh11 =>
  y_ob fun h12 hh12 =>
  y_seq (Γ1 := fun (v13 : (List Str)) => [.B (encBx d1.2), .S ((eH2 (eL eS) (eL eS)) a1), .S (eI a2), .S (eI v2), .O ((eL eS) v13), .U, .U, .U, .U, .U, .U, .U, .U]) (y_asgN (q_prim (q_o1 (q_ov (q_prim (q_o1 (q_ov (q_compO (ei := eS) (en := eS) _ hc6 (q_seqL (q_ov (q_prim (q_o1 (q_on) (q_o1 (q_ov q_c) q_o0)) (ixL rfl)))) trivial rfl rfl (fun (x3 : Str) => [.B (encBx d1.2), .S ((eH2 (eL eS) (eL eS)) a1), .S (eI a2), .S (eI v2), .U, .U, .U, .U, .U, .U, .U, .U, .S (eS x3)]) (fun (x3 : Str) => rfl) (fun (x3 : Str) => (ej0_el (fun y hy => ⟨[.B (encBx d1.2), .S ((eH2 (eL eS) (eL eS)) a1), .S (eI a2), .S (eI v2), .U, .U, .U, .U, .U, .U, .U, .U, .S (eS x3)], (by obtain ⟨h5, hh5, hy⟩ := Option.bind_eq_some_iff.mp hy; cases hy; exact (q_ov (q_prim (q_o1 (q_ov q_c) (q_o1 (q_on) q_o0)) (p_addS hh5)))), (by exact Le.refl _)⟩))))) (q_o1 (q_ov (q_compO (ei := eS) (en := eS) _ hc10 (q_seqL (q_ov (q_prim (q_o1 (q_on) (q_o1 (q_ov q_c) q_o0)) (ixL rfl)))) trivial rfl rfl (fun (x7 : Str) => [.B (encBx d1.2), .S ((eH2 (eL eS) (eL eS)) a1), .S (eI a2), .S (eI v2), .U, .U, .U, .U, .U, .U, .U, .U, .S (eS x7)]) (fun (x7 : Str) => rfl) (fun (x7 : Str) => (ej0_el (fun y hy => ⟨[.B (encBx d1.2), .S ((eH2 (eL eS) (eL eS)) a1), .S (eI a2), .S (eI v2), .U, .U, .U, .U, .U, .U, .U, .U, .S (eS x7)], (by obtain ⟨h9, hh9, hy⟩ := Option.bind_eq_some_iff.mp hy; cases hy; exact (q_ov (q_prim (q_o1 (q_ov q_c) (q_o1 (q_on) q_o0)) (p_addS hh9)))), (by exact Le.refl _)⟩))))) q_o0)) (p_addL (e := eS) hh11))) (q_o1 (q_ov (q_lst (q_o1 (q_ov q_c) q_o0))) q_o0)) (p_addL (e := eS) hh12))) fun v13 =>
  y_seq (Γ1 := fun (v14 : (List (Int × Str × Int))) => [.B (encBx d1.2), .S ((eH2 (eL eS) (eL eS)) a1), .S (eI a2), .S (eI v2), .O ((eL eS) v13), .O ((eL (eT3 eI eS eI)) v14), .U, .U, .U, .U, .U, .U, .U]) (y_asgN (q_lst q_o0)) fun v14 =>
  y_ob fun d15 hd15 =>
  y_ob fun r16 hr16 =>
  y_then (Γ1 := fun (z29 : Bx × (List (Int × Str × Int))) => [.B (encBx z29.1), .S ((eH2 (eL eS) (eL eS)) a1), .S (eI a2), .S (eI v2), .O ((eL eS) v13), .O ((eL (eT3 eI eS eI)) z29.2), .J, .U, .J, .J, .J, .U, .U]) (y_for (ei := eI) (Γn := fun (s17 : Bx × (List (Int × Str × Int))) => [.B (encBx s17.1), .S ((eH2 (eL eS) (eL eS)) a1), .S (eI a2), .S (eI v2), .O ((eL eS) v13), .O ((eL (eT3 eI eS eI)) s17.2), .J, .U, .J, .J, .J, .U, .U]) (q_range1 hr16 (q_o1 (q_ov (q_callBB (q_o1 (q_ov (q_primD (q_o1 (q_ov (q_prim (q_o1 (q_ov q_c) (q_o1 (q_on) q_o0)) (pMul_l 3 (by decide)))) (q_o1 (q_ov q_c) q_o0)) rfl rfl)) q_o0) (ok_u_law_draw d1.2 (((3 : Int) * v2) + (1 : Int)) hd15))) q_o0)) (by exact ⟨SP.le_rfl, SP.le_rfl, SP.le_rfl, SP.le_rfl, SP.le_rfl, SP.le_rfl, SP.le_UJ, SP.le_rfl, SP.le_UJ, SP.le_UJ, SP.le_UJ, SP.le_rfl, SP.le_rfl, trivial⟩) (fun (s17 : Bx × (List (Int × Str × Int))) (x18 : Int) => [.B (encBx s17.1), .S ((eH2 (eL eS) (eL eS)) a1), .S (eI a2), .S (eI v2), .O ((eL eS) v13), .O ((eL (eT3 eI eS eI)) s17.2), .S (eI x18), .U, .J, .J, .J, .U, .U]) (fun (s17 : Bx × (List (Int × Str × Int))) (x18 : Int) => rfl) (fun (s17 : Bx × (List (Int × Str × Int))) (x18 : Int) =>
  y_ob fun d19 hd19 =>
  y_seq (Γ1 := fun (v20 : Int) => [.B (encBx d19.2), .S ((eH2 (eL eS) (eL eS)) a1), .S (eI a2), .S (eI v2), .O ((eL eS) v13), .O ((eL (eT3 eI eS eI)) s17.2), .S (eI x18), .U, .S (eI v20), .J, .J, .U, .U]) (y_asgF (q_callBB (q_o1 (q_ov q_c) q_o0) (ok_u_law_draw s17.1 (9 : Int) hd19))) fun v20 =>
  y_seq (Γ1 := fun (v21 : Str) => [.B (encBx d19.2), .S ((eH2 (eL eS) (eL eS)) a1), .S (eI a2), .S (eI v2), .O ((eL eS) v13), .O ((eL (eT3 eI eS eI)) s17.2), .S (eI x18), .U, .S (eI v20), .S (eS v21), .J, .U, .U]) (y_asgF q_c) fun v21 =>
  y_then (Γ1 := fun (z24 : Str) => [.B (encBx d19.2), .S ((eH2 (eL eS) (eL eS)) a1), .S (eI a2), .S (eI v2), .O ((eL eS) v13), .O ((eL (eT3 eI eS eI)) s17.2), .S (eI x18), .U, .S (eI v20), .S (eS z24), .J, .U, .U]) (y_if (q_tBool (q_primD (q_o1 (q_on) (q_o1 (q_ov q_c) q_o0)) rfl rfl)) (fun _ => y_ob fun h22 hh22 =>
  y_ob fun h23 hh23 =>
  y_asgF (q_prim (q_o1 (q_on) (q_o1 (q_ov (q_prim (q_o1 (q_ov (q_primD (q_o1 (q_on) q_o0) rfl rfl)) (q_o1 (q_ov (q_prim (q_o1 (q_on) q_o0) p_len)) q_o0)) (p_mod hh22))) q_o0)) (p_ix (e := eS) hh23)) (by exact Le.refl _)) (fun _ => (y_skip (by exact Le.refl _)))) fun z24 =>
  y_ob fun d25 hd25 =>
  y_ob fun d26 hd26 =>
  y_seq (Γ1 := fun (v27 : (Int × Str × Int)) => [.B (encBx d26.2), .S ((eH2 (eL eS) (eL eS)) a1), .S (eI a2), .S (eI v2), .O ((eL eS) v13), .O ((eL (eT3 eI eS eI)) s17.2), .S (eI x18), .U, .S (eI v20), .S (eS z24), .S ((eT3 eI eS eI) v27), .U, .U]) (y_asgF (q_tup (q_o1 (q_ov (q_callBB (q_o1 (q_ov (q_nmS)) q_o0) (ok_u_law_draw d19.2 v2 hd25))) (q_o1 (q_ov (q_nmS)) (q_o1 (q_ov (q_callBB (q_o1 (q_ov (q_nmS)) q_o0) (ok_u_law_draw d25.2 v2 hd26))) q_o0))))) fun v27 =>
  y_if (q_tBool (q_prim (q_o1 (q_on) (q_o1 (q_on) q_o0)) (p_notin (e := (eT3 eI eS eI)) (eq_T3 eq_I eq_S eq_I)))) (fun _ => y_ob fun l28 hl28 =>
  y_drop (q_methO (q_o1 (q_ov (q_nmS)) q_o0) (p_push (e := (eT3 eI eS eI)) hl28)) (by exact ⟨SP.le_rfl, SP.le_rfl, SP.le_rfl, SP.le_rfl, SP.le_rfl, SP.le_rfl, SP.le_SJ, SP.le_rfl, SP.le_SJ, SP.le_SJ, SP.le_SJ, SP.le_rfl, SP.le_rfl, trivial⟩)) (fun _ => (y_skip (by exact ⟨SP.le_rfl, SP.le_rfl, SP.le_rfl, SP.le_rfl, SP.le_rfl, SP.le_rfl, SP.le_SJ, SP.le_rfl, SP.le_SJ, SP.le_SJ, SP.le_SJ, SP.le_rfl, SP.le_rfl, trivial⟩))))) fun z29 =>
  y_ob fun r30 hr30 =>
  y_ob fun c34 hc34 =>
  y_seq (Γ1 := fun (v35 : (List Int)) => [.B (encBx c34.2), .S ((eH2 (eL eS) (eL eS)) a1), .S (eI a2), .S (eI v2), .O ((eL eS) v13), .O ((eL (eT3 eI eS eI)) z29.2), .J, .O ((eL eI) v35), .J, .J, .J, .U, .U]) (y_asgN (q_compS (ei := eI) (en := eI) _ (fun (s32 : Bx) => [.B (encBx s32), .S ((eH2 (eL eS) (eL eS)) a1), .S (eI a2), .S (eI v2), .O ((eL eS) v13), .O ((eL (eT3 eI eS eI)) z29.2), .J, .U, .J, .J, .J, .U, .U]) hc34 (q_range1 hr30 (q_o1 (q_on) q_o0)) (fun _ => trivial) rfl rfl (by intro v hv; simp only [List.mem_cons, List.not_mem_nil, or_false] at hv; rcases hv with rfl <;> rfl) (fun (x31 : Int) (s32 : Bx) => [.B (encBx s32), .S ((eH2 (eL eS) (eL eS)) a1), .S (eI a2), .S (eI v2), .O ((eL eS) v13), .O ((eL (eT3 eI eS eI)) z29.2), .J, .U, .J, .J, .J, .S (eI x31), .U]) (fun (x31 : Int) (s32 : Bx) => rfl) (fun (x31 : Int) (s32 : Bx) => (ej_ob fun d33 hd33 => (ejs_test (q_tBool (q_prim (q_o1 (q_ov (q_callBB (q_o1 (q_ov q_c) q_o0) (ok_u_law_draw s32 (2 : Int) hd33))) (q_o1 (q_ov q_c) q_o0)) (p_eq (e := eI) eq_I))) (fun y hy => (by cases hy; exact ⟨_, (q_ov (q_nmS)), (by exact Le.refl _)⟩)) (by exact Le.refl _)))))) fun v35 =>
  y_retB (q_lst (q_o1 (q_ov (q_primD (q_o1 (q_ov (q_prim (q_o1 (q_on) (q_o1 (q_ov q_c) q_o0)) (ixL rfl))) q_o0) rfl rfl)) (q_o1 (q_ov (q_primD (q_o1 (q_ov (q_prim (q_o1 (q_on) (q_o1 (q_ov q_c) q_o0)) (ixL rfl))) q_o0) rfl rfl)) (q_o1 (q_ov (q_nmS)) (q_o1 (q_ov (q_prim (q_o1 (q_on) q_o0) (p_sort (so_T3 so_I so_S so_I) (it_T3 _)))) (q_o1 (q_ov (q_nmO)) q_o0))))))
noncomputable def P_is_message (a1 : Str) : Option Bool := St.fo (if ((!true) || (!(decide ((1 : Int) ≤ (a1.length : Int)) && decide ((a1.length : Int) ≤ (8 : Int))))) = true then
  .rt (false)
else
  St.ob (compO (fun (x1 : Str) => Option.map some ((inS x1 ("abcdefghijklmnopqrstuvwxyz" : Str)).bind fun h3 => some (h3 : Bool))) (signsT a1)) fun c4 =>
  .rt ((c4.all id)) : St Unit Bool) (fun _ => none)
theorem ok_is_message (a1 : Str) {q : Bool} (hq : P_is_message a1 = some q) : F_is_message [eS a1] = .ok ((fun r => (⟨eB r, false⟩ : Vl)) q) := by
  refine runF_ty (N := 2) (Γ := [.S (eS a1), .U]) (Γn := fun _ => [.A, .A]) (V := (fun r => (⟨eB r, false⟩ : Vl))) hq (P_is_message.eq_1 a1) ?_ (fun _ => .inl rfl)
  exact y_guard (q_tOr (q_tNot (q_tVal (q_o1 (q_ov (q_primD (q_o1 (q_on) q_o0) rfl rfl)) q_o0) rfl)) (q_tNot (q_tBool (q_chain (q_ov q_c) (q_ov (q_primD (q_o1 (q_on) q_o0) rfl rfl)) (q_ov q_c) rfl rfl)))) (fun _ => y_ret q_c) (fun _ => y_ob fun c4 hc4 =>
  y_ret (q_prim (q_o1 (q_ov (q_compO (ei := eS) (en := eB) _ hc4 (q_seqSt (q_on)) trivial rfl rfl (fun (x1 : Str) => [.S (eS a1), .S (eS x1)]) (fun (x1 : Str) => rfl) (fun (x1 : Str) => (ej0_el (fun y hy => ⟨[.S (eS a1), .S (eS x1)], (by obtain ⟨h3, hh3, hy⟩ := Option.bind_eq_some_iff.mp hy; cases hy; exact (q_ov (q_prim (q_o1 (q_on) (q_o1 (q_ov q_c) q_o0)) (p_inS hh3)))), (by exact Le.refl _)⟩))))) q_o0) p_all))
noncomputable def P_is_ascending (a1 : (List Str)) : Option Bool := St.fo (.rt (((a1.zip (slI a1 (some (1 : Int)) none)).all fun (x1 : (Str × Str)) => (decide (x1.1.cps.toList < x1.2.cps.toList)))) : St Unit Bool) (fun _ => none)
theorem ok_is_ascending (a1 : (List Str)) {q : Bool} (hq : P_is_ascending a1 = some q) : F_is_ascending [(eL eS) a1] = .ok ((fun r => (⟨eB r, false⟩ : Vl)) q) := by
  refine runF_ty (N := 3) (Γ := [.R ((eL eS) a1), .U, .U]) (Γn := fun _ => [.A, .A, .A]) (V := (fun r => (⟨eB r, false⟩ : Vl))) hq (P_is_ascending.eq_1 a1) ?_ (fun _ => .inl rfl)
  exact y_ret (q_prim (q_o1 (q_ov (q_compA (ei := (eT2 eS eS)) (en := eB) (fun (x1 : (Str × Str)) => (decide (x1.1.cps.toList < x1.2.cps.toList))) (q_zipI (e1 := eS) (e2 := eS) (q_on) (q_ov (q_slice (q_on) (q_part1 (q_o1 (q_ov q_c) q_o0)) q_part0 p_sl))) ⟨rfl, rfl⟩ rfl rfl (fun (x1 : (Str × Str)) => [.R ((eL eS) a1), .S (eS x1.1), .S (eS x1.2)]) (fun (x1 : (Str × Str)) => rfl) (fun (x1 : (Str × Str)) => (q_ov (q_primD (q_o1 (q_on) (q_o1 (q_on) q_o0)) rfl rfl))) (fun (x1 : (Str × Str)) => (by exact Le.refl _)))) q_o0) p_allA)
noncomputable def P_is_ascending_1 (a1 : (List Int)) : Option Bool := St.fo (.rt (((a1.zip (slI a1 (some (1 : Int)) none)).all fun (x1 : (Int × Int)) => (decide (x1.1 < x1.2)))) : St Unit Bool) (fun _ => none)
theorem ok_is_ascending_1 (a1 : (List Int)) {q : Bool} (hq : P_is_ascending_1 a1 = some q) : F_is_ascending [(eL eI) a1] = .ok ((fun r => (⟨eB r, false⟩ : Vl)) q) := by
  refine runF_ty (N := 3) (Γ := [.R ((eL eI) a1), .U, .U]) (Γn := fun _ => [.A, .A, .A]) (V := (fun r => (⟨eB r, false⟩ : Vl))) hq (P_is_ascending_1.eq_1 a1) ?_ (fun _ => .inl rfl)
  exact y_ret (q_prim (q_o1 (q_ov (q_compA (ei := (eT2 eI eI)) (en := eB) (fun (x1 : (Int × Int)) => (decide (x1.1 < x1.2))) (q_zipI (e1 := eI) (e2 := eI) (q_on) (q_ov (q_slice (q_on) (q_part1 (q_o1 (q_ov q_c) q_o0)) q_part0 p_sl))) ⟨rfl, rfl⟩ rfl rfl (fun (x1 : (Int × Int)) => [.R ((eL eI) a1), .S (eI x1.1), .S (eI x1.2)]) (fun (x1 : (Int × Int)) => rfl) (fun (x1 : (Int × Int)) => (q_ov (q_primD (q_o1 (q_on) (q_o1 (q_on) q_o0)) rfl rfl))) (fun (x1 : (Int × Int)) => (by exact Le.refl _)))) q_o0) p_allA)
noncomputable def P_u_are_messages (a1 : (List Str)) : Option Bool := St.fo (if ((!true) || (decide ((3 : Int) < (a1.length : Int)))) = true then
  .rt (false)
else
  St.ob (compO (fun (x1 : Str) => Option.map some ((P_is_message x1).bind fun p3 => some (p3 : Bool))) a1) fun c4 =>
  St.ob (andO (c4.all id) ((P_is_ascending a1).bind fun p5 => some p5)) fun h6 =>
  .rt (h6) : St Unit Bool) (fun _ => none)
theorem ok_u_are_messages (a1 : (List Str)) {q : Bool} (hq : P_u_are_messages a1 = some q) : F_u_are_messages [(eL eS) a1] = .ok ((fun r => (⟨eB r, false⟩ : Vl)) q) := by
  refine runF_ty (N := 2) (Γ := [.R ((eL eS) a1), .U]) (Γn := fun _ => [.A, .A]) (V := (fun r => (⟨eB r, false⟩ : Vl))) hq (P_u_are_messages.eq_1 a1) ?_ (fun _ => .inl rfl)
  exact y_guard (q_tOr (q_tNot (q_tVal (q_o1 (q_ov (q_primD (q_o1 (q_on) q_o0) rfl rfl)) q_o0) rfl)) (q_tBool (q_primD (q_o1 (q_ov (q_prim (q_o1 (q_on) q_o0) p_len)) (q_o1 (q_ov q_c) q_o0)) rfl rfl))) (fun _ => y_ret q_c) (fun _ => y_ob fun c4 hc4 =>
  y_ob fun h6 hh6 =>
  y_ret (q_sAndO (Ε := [.R ((eL eS) a1), .U]) hh6 (q_prim (q_o1 (q_ov (q_compO (ei := eS) (en := eB) _ hc4 (q_seqL (q_on)) ⟨rfl, rfl⟩ rfl rfl (fun (x1 : Str) => [.R ((eL eS) a1), .S (eS x1)]) (fun (x1 : Str) => rfl) (fun (x1 : Str) => (ej0_el (fun y hy => ⟨[.R ((eL eS) a1), .S (eS x1)], (by obtain ⟨p3, hp3, hy⟩ := Option.bind_eq_some_iff.mp hy; cases hy; exact (q_ov (q_call (q_o1 (q_ov (q_nmS)) q_o0) (ok_is_message x1 hp3)))), (by exact Le.refl _)⟩))))) q_o0) p_all) (fun c hc => (by obtain ⟨p5, hp5, hc⟩ := Option.bind_eq_some_iff.mp hc; cases hc; exact (q_call (q_o1 (q_on) q_o0) (ok_is_ascending a1 hp5)))) (by exact Le.refl _)))
noncomputable def P_is_number (a1 : Int) (a2 : Int) : Option Bool := St.fo (.rt ((true && ((!false) && (decide ((0 : Int) ≤ a1) && decide (a1 ≤ a2))))) : St Unit Bool) (fun _ => none)
theorem ok_is_number (a1 : Int) (a2 : Int) {q : Bool} (hq : P_is_number a1 a2 = some q) : F_is_number [eI a1, eI a2] = .ok ((fun r => (⟨eB r, false⟩ : Vl)) q) := by
  refine runF_ty (N := 2) (Γ := [.S (eI a1), .S (eI a2)]) (Γn := fun _ => [.A, .A]) (V := (fun r => (⟨eB r, false⟩ : Vl))) hq (P_is_number.eq_1 a1 a2) ?_ (fun _ => .inl rfl)
  exact y_ret (q_sAnd (q_primD (q_o1 (q_on) q_o0) rfl rfl) (q_sAnd (q_sNot (q_tVal (q_o1 (q_ov (q_primD (q_o1 (q_on) q_o0) rfl rfl)) q_o0) rfl)) (q_chain (q_ov q_c) (q_on) (q_on) rfl rfl)))
noncomputable def P_u_are_transitions (a1 : (List (Int × Str × Int))) (a2 : Int) (a3 : Int) : Option Bool := St.fo (if ((!true) || (decide (a3 < (a1.length : Int)))) = true then
  .rt (false)
else
  ((forT (fun (s1 : Unit) (x2 : (Int × Str × Int)) => (if ((!true) || ((!decide ((3 : Int) = (3 : Int))) || (!true))) = true then
  .rt (false)
else
  St.ob (P_is_number x2.1 (a2 - (1 : Int))) fun p3 =>
  St.ob (orO (!p3) ((P_is_number x2.2.2 (a2 - (1 : Int))).bind fun p4 => some (!p4))) fun h5 =>
  if h5 = true then
  .rt (false)
else
  .nx () : St (Unit) Bool)) a1 ()).bind fun z6 =>
  St.ob (dcompO (fun (x7 : (Int × Str × Int)) => true) (fun (x7 : (Int × Str × Int)) => some ((x7 : (Int × Str × Int)), (true : Bool))) a1) fun d8 =>
  .rt ((decide ((d8.length : Int) = (a1.length : Int))))) : St Unit Bool) (fun _ => none)
theorem ok_u_are_transitions (a1 : (List (Int × Str × Int))) (a2 : Int) (a3 : Int) {q : Bool} (hq : P_u_are_transitions a1 a2 a3 = some q) : F_u_are_transitions [(eL (eT3 eI eS eI)) a1, eI a2, eI a3] = .ok ((fun r => (⟨eB r, false⟩ : Vl)) q) := by
  refine runF_ty (N := 4) (Γ := [.R ((eL (eT3 eI eS eI)) a1), .S (eI a2), .S (eI a3), .U]) (Γn := fun _ => [.A, .A, .A, .A]) (V := (fun r => (⟨eB r, false⟩ : Vl))) hq (P_u_are_transitions.eq_1 a1 a2 a3) ?_ (fun _ => .inl rfl)
  exact y_guard (q_tOr (q_tNot (q_tVal (q_o1 (q_ov (q_primD (q_o1 (q_on) q_o0) rfl rfl)) q_o0) rfl)) (q_tBool (q_primD (q_o1 (q_ov (q_prim (q_o1 (q_on) q_o0) p_len)) (q_o1 (q_on) q_o0)) rfl rfl))) (fun _ => y_ret q_c) (fun _ => y_then (Γ1 := fun (z6 : Unit) => [.R ((eL (eT3 eI eS eI)) a1), .S (eI a2), .S (eI a3), .J]) (y_forR (ei := (eT3 eI eS eI)) (Γn := fun (s1 : Unit) => [.R ((eL (eT3 eI eS eI)) a1), .S (eI a2), .S (eI a3), .J]) rfl (by exact ⟨SP.le_rfl, SP.le_rfl, SP.le_rfl, SP.le_UJ, trivial⟩) (fun (s1 : Unit) (x2 : (Int × Str × Int)) => [.R ((eL (eT3 eI eS eI)) a1), .S (eI a2), .S (eI a3), .S ((eT3 eI eS eI) x2)]) (fun (s1 : Unit) (x2 : (Int × Str × Int)) => rfl) (fun (s1 : Unit) (x2 : (Int × Str × Int)) =>
  y_guard (q_tOr (q_tNot (q_tVal (q_o1 (q_ov (q_primD (q_o1 (q_on) q_o0) rfl rfl)) q_o0) rfl)) (q_tOr (q_tBool (q_prim (q_o1 (q_ov (q_primD (q_o1 (q_on) q_o0) rfl rfl)) (q_o1 (q_ov q_c) q_o0)) (p_ne (e := eI) eq_I))) (q_tNot (q_tVal (q_o1 (q_ov (q_primD (q_o1 (q_ov (q_prim (q_o1 (q_on) (q_o1 (q_ov q_c) q_o0)) (ixT rfl))) q_o0) rfl rfl)) q_o0) rfl)))) (fun _ => y_ret q_c) (fun _ => y_ob fun p3 hp3 =>
  y_ob fun h5 hh5 =>
  y_if (q_tOrO (Ε := [.R ((eL (eT3 eI eS eI)) a1), .S (eI a2), .S (eI a3), .S ((eT3 eI eS eI) x2)]) hh5 (q_tNot (q_tVal (q_o1 (q_ov (q_call (q_o1 (q_ov (q_prim (q_o1 (q_on) (q_o1 (q_ov q_c) q_o0)) (ixT rfl))) (q_o1 (q_ov (q_primD (q_o1 (q_on) (q_o1 (q_ov q_c) q_o0)) rfl rfl)) q_o0)) (ok_is_number x2.1 (a2 - (1 : Int)) hp3))) q_o0) rfl)) (fun c hc => (by obtain ⟨p4, hp4, hc⟩ := Option.bind_eq_some_iff.mp hc; cases hc; exact (q_tNot (q_tVal (q_o1 (q_ov (q_call (q_o1 (q_ov (q_prim (q_o1 (q_on) (q_o1 (q_ov q_c) q_o0)) (ixT rfl))) (q_o1 (q_ov (q_primD (q_o1 (q_on) (q_o1 (q_ov q_c) q_o0)) rfl rfl)) q_o0)) (ok_is_number x2.2.2 (a2 - (1 : Int)) hp4))) q_o0) rfl)))) (by exact Le.refl _)) (fun _ => y_ret q_c) (fun _ => (y_skip (by exact ⟨SP.le_rfl, SP.le_rfl, SP.le_rfl, SP.le_SJ, trivial⟩)))))) fun z6 =>
  y_ob fun d8 hd8 =>
  y_ret (q_prim (q_o1 (q_ov (q_prim (q_o1 (q_ov (q_dcomp (ei := (eT3 eI eS eI)) (ek := (eT3 eI eS eI)) (ev := eB) (ky_T3 (ha_T3 ha_I ha_S ha_I)) _ _ hd8 (q_seqL (q_on)) ⟨rfl, rfl⟩ rfl rfl (fun (x7 : (Int × Str × Int)) => [.R ((eL (eT3 eI eS eI)) a1), .S (eI a2), .S (eI a3), .S ((eT3 eI eS eI) x7)]) (fun (x7 : (Int × Str × Int)) => rfl) (fun (x7 : (Int × Str × Int)) => q_tt) (fun (x7 : (Int × Str × Int)) y hy => (by cases hy; exact ⟨(q_ov (q_nmS)), (q_ov q_c)⟩)) (fun (x7 : (Int × Str × Int)) => Le.refl _))) q_o0) p_lenD)) (q_o1 (q_ov (q_prim (q_o1 (q_on) q_o0) p_len)) q_o0)) (p_eq (e := eI) eq_I)))
noncomputable def P_u_are_final (a1 : (List Int)) (a2 : Int) : Option Bool := St.fo (St.ob (orO (!true) ((compO (fun (x1 : Int) => Option.map some ((P_is_number x1 (a2 - (1 : Int))).bind fun p3 => some (p3 : Bool))) a1).bind fun c4 => some (!(c4.all id)))) fun h5 =>
  if h5 = true then
  .rt (false)
else
  St.ob (P_is_ascending_1 a1) fun p6 =>
  .rt (p6) : St Unit Bool) (fun _ => none)
theorem ok_u_are_final (a1 : (List Int)) (a2 : Int) {q : Bool} (hq : P_u_are_final a1 a2 = some q) : F_u_are_final [(eL eI) a1, eI a2] = .ok ((fun r => (⟨eB r, false⟩ : Vl)) q) := by
  refine runF_ty (N := 3) (Γ := [.R ((eL eI) a1), .S (eI a2), .U]) (Γn := fun _ => [.A, .A, .A]) (V := (fun r => (⟨eB r, false⟩ : Vl))) hq (P_u_are_final.eq_1 a1 a2) ?_ (fun _ => .inl rfl)
  exact y_ob fun h5 hh5 =>
  y_guard (q_tOrO (Ε := [.R ((eL eI) a1), .S (eI a2), .U]) hh5 (q_tNot (q_tVal (q_o1 (q_ov (q_primD (q_o1 (q_on) q_o0) rfl rfl)) q_o0) rfl)) (fun c hc => (by obtain ⟨c4, hc4, hc⟩ := Option.bind_eq_some_iff.mp hc; cases hc; exact (q_tNot (q_tVal (q_o1 (q_ov (q_prim (q_o1 (q_ov (q_compO (ei := eI) (en := eB) _ hc4 (q_seqL (q_on)) ⟨rfl, rfl⟩ rfl rfl (fun (x1 : Int) => [.R ((eL eI) a1), .S (eI a2), .S (eI x1)]) (fun (x1 : Int) => rfl) (fun (x1 : Int) => (ej0_el (fun y hy => ⟨[.R ((eL eI) a1), .S (eI a2), .S (eI x1)], (by obtain ⟨p3, hp3, hy⟩ := Option.bind_eq_some_iff.mp hy; cases hy; exact (q_ov (q_call (q_o1 (q_ov (q_nmS)) (q_o1 (q_ov (q_primD (q_o1 (q_on) (q_o1 (q_ov q_c) q_o0)) rfl rfl)) q_o0)) (ok_is_number x1 (a2 - (1 : Int)) hp3)))), (by exact Le.refl _)⟩))))) q_o0) p_all)) q_o0) rfl)))) (by exact Le.refl _)) (fun _ => y_ret q_c) (fun _ => y_ob fun p6 hp6 =>
  y_ret (q_call (q_o1 (q_on) q_o0) (ok_is_ascending_1 a1 hp6)))
noncomputable def P_u_is_shape (a1 : Int) (a2 : Int) (a3 : (List (Int × Str × Int))) (a4 : Int) (a5 : (List Int)) : Option Bool := St.fo (St.ob (P_is_number a1 a2) fun p1 =>
  if ((!p1) || (decide (a1 < (1 : Int)))) = true then
  .rt (false)
else
  St.ob (P_u_are_transitions a3 a1 a4) fun p2 =>
  St.ob (andO p2 ((P_u_are_final a5 a1).bind fun p3 => some p3)) fun h4 =>
  .rt (h4) : St Unit Bool) (fun _ => none)
theorem ok_u_is_shape (a1 : Int) (a2 : Int) (a3 : (List (Int × Str × Int))) (a4 : Int) (a5 : (List Int)) {q : Bool} (hq : P_u_is_shape a1 a2 a3 a4 a5 = some q) : F_u_is_shape [eI a1, eI a2, (eL (eT3 eI eS eI)) a3, eI a4, (eL eI) a5] = .ok ((fun r => (⟨eB r, false⟩ : Vl)) q) := by
  refine runF_ty (N := 5) (Γ := [.S (eI a1), .S (eI a2), .R ((eL (eT3 eI eS eI)) a3), .S (eI a4), .R ((eL eI) a5)]) (Γn := fun _ => [.A, .A, .A, .A, .A]) (V := (fun r => (⟨eB r, false⟩ : Vl))) hq (P_u_is_shape.eq_1 a1 a2 a3 a4 a5) ?_ (fun _ => .inl rfl)
  exact y_ob fun p1 hp1 =>
  y_guard (q_tOr (q_tNot (q_tVal (q_o1 (q_ov (q_call (q_o1 (q_ov (q_nmS)) (q_o1 (q_ov (q_nmS)) q_o0)) (ok_is_number a1 a2 hp1))) q_o0) rfl)) (q_tBool (q_primD (q_o1 (q_on) (q_o1 (q_ov q_c) q_o0)) rfl rfl))) (fun _ => y_ret q_c) (fun _ => y_ob fun p2 hp2 =>
  y_ob fun h4 hh4 =>
  y_ret (q_sAndO (Ε := [.S (eI a1), .S (eI a2), .R ((eL (eT3 eI eS eI)) a3), .S (eI a4), .R ((eL eI) a5)]) hh4 (q_call (q_o1 (q_on) (q_o1 (q_ov (q_nmS)) (q_o1 (q_ov (q_nmS)) q_o0))) (ok_u_are_transitions a3 a1 a4 hp2)) (fun c hc => (by obtain ⟨p3, hp3, hc⟩ := Option.bind_eq_some_iff.mp hc; cases hc; exact (q_call (q_o1 (q_on) (q_o1 (q_ov (q_nmS)) q_o0)) (ok_u_are_final a5 a1 hp3)))) (by exact Le.refl _)))
noncomputable def P_C_Service (a1 : (List Str)) (a2 : (List Str)) (a3 : Int) (a4 : (List (Int × Str × Int))) (a5 : (List Int)) : T Sv := St.ft (St.ob (P_u_are_messages a1) fun p1 =>
  St.ob (andO p1 ((P_u_are_messages a2).bind fun p2 => some p2)) fun h3 =>
  St.lt (h3 : Bool) fun v4 =>
  St.lt ((v4 && (!(a1.any fun (x5 : Str) => (decide (x5 ∈ a2))))) : Bool) fun v7 =>
  St.ob (andO v7 ((P_u_is_shape a3 (12 : Int) a4 (60 : Int) a5).bind fun p8 => some p8)) fun h9 =>
  St.lt (h9 : Bool) fun v10 =>
  if (!v10) = true then
  .exc "no service"
else
  St.ob (compO (fun (x11 : Str) => Option.map some ((addS ("?" : Str) x11).bind fun h13 => some (h13 : Str))) a1) fun c14 =>
  St.ob (addL [("tau" : Str)] c14) fun h15 =>
  St.ob (compO (fun (x16 : Str) => Option.map some ((addS ("!" : Str) x16).bind fun h18 => some (h18 : Str))) a2) fun c19 =>
  St.ob (addL h15 c19) fun h20 =>
  St.lt (h20 : (List Str)) fun v21 =>
  if (!(a4.all fun (x22 : (Int × Str × Int)) => (decide (x22.2.1 ∈ v21)))) = true then
  .exc "no service"
else
  .nx (⟨a1, a2, a3, (sortE (eT3 eI eS eI) a4), a5⟩ : Sv) : St Sv Sv) (fun q => .ok q)
theorem ok_C_Service (a1 : (List Str)) (a2 : (List Str)) (a3 : Int) (a4 : (List (Int × Str × Int))) (a5 : (List Int)) : (∀ q, P_C_Service a1 a2 a3 a4 a5 = .ok q → F_C_Service (.obj "Service" []) [(eL eS) a1, (eL eS) a2, eI a3, (eL (eT3 eI eS eI)) a4, (eL eI) a5] = .ok ((fun _ => fz .non) q) (obSv q)) ∧ ∀ r, P_C_Service a1 a2 a3 a4 a5 = .exc r → F_C_Service (.obj "Service" []) [(eL eS) a1, (eL eS) a2, eI a3, (eL (eT3 eI eS eI)) a4, (eL eI) a5] = .exc (talkE r) := by
  refine runBM_ty (N := 12) (Γ := [.B (.obj "Service" []), .R ((eL eS) a1), .R ((eL eS) a2), .S (eI a3), .R ((eL (eT3 eI eS eI)) a4), .R ((eL eI) a5), .U, .U, .U, .U, .U, .U]) (Γn := fun q => [.B (obSv q), .A, .A, .A, .A, .A, .A, .A, .A, .A, .A, .A]) (V := (fun _ => fz .non)) (X := obSv) (tt := t_C_Service) (modes := [true, true, false, true, true]) (n := 12) (d0 := .obj "Service" []) (ds := [(eL eS) a1, (eL eS) a2, eI a3, (eL (eT3 eI eS eI)) a4, (eL eI) a5]) (P_C_Service.eq_1 a1 a2 a3 a4 a5) ?_ (fun q => .inr ⟨q, rfl, rfl, rfl⟩)
  exact y_ob fun p1 hp1 =>
  y_ob fun h3 hh3 =>
  y_seq (Γ1 := fun (v4 : Bool) => [.B (.obj "Service" []), .R ((eL eS) a1), .R ((eL eS) a2), .S (eI a3), .R ((eL (eT3 eI eS eI)) a4), .R ((eL eI) a5), .S (eB v4), .U, .U, .U, .U, .U]) (y_asgF (q_sAndO (Ε := [.B (.obj "Service" []), .R ((eL eS) a1), .R ((eL eS) a2), .S (eI a3), .R ((eL (eT3 eI eS eI)) a4), .R ((eL eI) a5), .U, .U, .U, .U, .U, .U]) hh3 (q_call (q_o1 (q_on) q_o0) (ok_u_are_messages a1 hp1)) (fun c hc => (by obtain ⟨p2, hp2, hc⟩ := Option.bind_eq_some_iff.mp hc; cases hc; exact (q_call (q_o1 (q_on) q_o0) (ok_u_are_messages a2 hp2)))) (by exact Le.refl _))) fun v4 =>
  y_seq (Γ1 := fun (v7 : Bool) => [.B (.obj "Service" []), .R ((eL eS) a1), .R ((eL eS) a2), .S (eI a3), .R ((eL (eT3 eI eS eI)) a4), .R ((eL eI) a5), .S (eB v7), .U, .U, .U, .U, .U]) (y_asgF (q_sAnd (q_nmS) (q_sNot (q_tVal (q_o1 (q_ov (q_prim (q_o1 (q_ov (q_compA (ei := eS) (en := eB) (fun (x5 : Str) => (decide (x5 ∈ a2))) (q_seqL (q_on)) ⟨rfl, rfl⟩ rfl rfl (fun (x5 : Str) => [.B (.obj "Service" []), .R ((eL eS) a1), .R ((eL eS) a2), .S (eI a3), .R ((eL (eT3 eI eS eI)) a4), .R ((eL eI) a5), .S (eB v4), .U, .S (eS x5), .U, .U, .U]) (fun (x5 : Str) => rfl) (fun (x5 : Str) => (q_ov (q_prim (q_o1 (q_on) (q_o1 (q_on) q_o0)) (p_in (e := eS) eq_S)))) (fun (x5 : Str) => (by exact Le.refl _)))) q_o0) p_anyA)) q_o0) rfl)))) fun v7 =>
  y_ob fun h9 hh9 =>
  y_seq (Γ1 := fun (v10 : Bool) => [.B (.obj "Service" []), .R ((eL eS) a1), .R ((eL eS) a2), .S (eI a3), .R ((eL (eT3 eI eS eI)) a4), .R ((eL eI) a5), .S (eB v10), .U, .U, .U, .U, .U]) (y_asgF (q_sAndO (Ε := [.B (.obj "Service" []), .R ((eL eS) a1), .R ((eL eS) a2), .S (eI a3), .R ((eL (eT3 eI eS eI)) a4), .R ((eL eI) a5), .S (eB v7), .U, .U, .U, .U, .U]) hh9 (q_nmS) (fun c hc => (by obtain ⟨p8, hp8, hc⟩ := Option.bind_eq_some_iff.mp hc; cases hc; exact (q_call (q_o1 (q_ov (q_nmS)) (q_o1 (q_ov q_c) (q_o1 (q_on) (q_o1 (q_ov q_c) (q_o1 (q_on) q_o0))))) (ok_u_is_shape a3 (12 : Int) a4 (60 : Int) a5 hp8)))) (by exact Le.refl _))) fun v10 =>
  y_guard (q_tNot (q_tVal (q_o1 (q_on) q_o0) rfl)) (fun _ => y_raise) (fun _ => y_ob fun c14 hc14 =>
  y_ob fun h15 hh15 =>
  y_ob fun c19 hc19 =>
  y_ob fun h20 hh20 =>
  y_seq (Γ1 := fun (v21 : (List Str)) => [.B (.obj "Service" []), .R ((eL eS) a1), .R ((eL eS) a2), .S (eI a3), .R ((eL (eT3 eI eS eI)) a4), .R ((eL eI) a5), .S (eB v10), .O ((eL eS) v21), .U, .U, .U, .U]) (y_asgN (q_prim (q_o1 (q_ov (q_prim (q_o1 (q_ov (q_lst (q_o1 (q_ov q_c) q_o0))) (q_o1 (q_ov (q_compO (ei := eS) (en := eS) _ hc14 (q_seqL (q_on)) ⟨rfl, rfl⟩ rfl rfl (fun (x11 : Str) => [.B (.obj "Service" []), .R ((eL eS) a1), .R ((eL eS) a2), .S (eI a3), .R ((eL (eT3 eI eS eI)) a4), .R ((eL eI) a5), .S (eB v10), .U, .S (eS x11), .U, .U, .U]) (fun (x11 : Str) => rfl) (fun (x11 : Str) => (ej0_el (fun y hy => ⟨[.B (.obj "Service" []), .R ((eL eS) a1), .R ((eL eS) a2), .S (eI a3), .R ((eL (eT3 eI eS eI)) a4), .R ((eL eI) a5), .S (eB v10), .U, .S (eS x11), .U, .U, .U], (by obtain ⟨h13, hh13, hy⟩ := Option.bind_eq_some_iff.mp hy; cases hy; exact (q_ov (q_prim (q_o1 (q_ov q_c) (q_o1 (q_on) q_o0)) (p_addS hh13)))), (by exact Le.refl _)⟩))))) q_o0)) (p_addL (e := eS) hh15))) (q_o1 (q_ov (q_compO (ei := eS) (en := eS) _ hc19 (q_seqL (q_on)) ⟨rfl, rfl⟩ rfl rfl (fun (x16 : Str) => [.B (.obj "Service" []), .R ((eL eS) a1), .R ((eL eS) a2), .S (eI a3), .R ((eL (eT3 eI eS eI)) a4), .R ((eL eI) a5), .S (eB v10), .U, .S (eS x16), .U, .U, .U]) (fun (x16 : Str) => rfl) (fun (x16 : Str) => (ej0_el (fun y hy => ⟨[.B (.obj "Service" []), .R ((eL eS) a1), .R ((eL eS) a2), .S (eI a3), .R ((eL (eT3 eI eS eI)) a4), .R ((eL eI) a5), .S (eB v10), .U, .S (eS x16), .U, .U, .U], (by obtain ⟨h18, hh18, hy⟩ := Option.bind_eq_some_iff.mp hy; cases hy; exact (q_ov (q_prim (q_o1 (q_ov q_c) (q_o1 (q_on) q_o0)) (p_addS hh18)))), (by exact Le.refl _)⟩))))) q_o0)) (p_addL (e := eS) hh20))) fun v21 =>
  y_guard (q_tNot (q_tVal (q_o1 (q_ov (q_prim (q_o1 (q_ov (q_compA (ei := (eT3 eI eS eI)) (en := eB) (fun (x22 : (Int × Str × Int)) => (decide (x22.2.1 ∈ v21))) (q_seqL (q_on)) ⟨rfl, rfl⟩ rfl rfl (fun (x22 : (Int × Str × Int)) => [.B (.obj "Service" []), .R ((eL eS) a1), .R ((eL eS) a2), .S (eI a3), .R ((eL (eT3 eI eS eI)) a4), .R ((eL eI) a5), .S (eB v10), .O ((eL eS) v21), .U, .S (eI x22.1), .S (eS x22.2.1), .S (eI x22.2.2)]) (fun (x22 : (Int × Str × Int)) => rfl) (fun (x22 : (Int × Str × Int)) => (q_ov (q_prim (q_o1 (q_on) (q_o1 (q_on) q_o0)) (p_in (e := eS) eq_S)))) (fun (x22 : (Int × Str × Int)) => (by exact Le.refl _)))) q_o0) p_allA)) q_o0) rfl)) (fun _ => y_raise) (fun _ => y_sq (Δ := [.B (.obj "Service" [("inputs", (eL eS) a1)]), .R ((eL eS) a1), .R ((eL eS) a2), .S (eI a3), .R ((eL (eT3 eI eS eI)) a4), .R ((eL eI) a5), .S (eB v10), .O ((eL eS) v21), .U, .U, .U, .U]) (y_setF (c := "Service") (fs := []) (q_primD (q_o1 (q_on) q_o0) rfl rfl)) (
  y_sq (Δ := [.B (.obj "Service" [("inputs", (eL eS) a1), ("outputs", (eL eS) a2)]), .R ((eL eS) a1), .R ((eL eS) a2), .S (eI a3), .R ((eL (eT3 eI eS eI)) a4), .R ((eL eI) a5), .S (eB v10), .O ((eL eS) v21), .U, .U, .U, .U]) (y_setF (c := "Service") (fs := [("inputs", (eL eS) a1)]) (q_primD (q_o1 (q_on) q_o0) rfl rfl)) (
  y_sq (Δ := [.B (.obj "Service" [("inputs", (eL eS) a1), ("outputs", (eL eS) a2), ("states", eI a3)]), .R ((eL eS) a1), .R ((eL eS) a2), .S (eI a3), .R ((eL (eT3 eI eS eI)) a4), .R ((eL eI) a5), .S (eB v10), .O ((eL eS) v21), .U, .U, .U, .U]) (y_setF (c := "Service") (fs := [("inputs", (eL eS) a1), ("outputs", (eL eS) a2)]) (q_nmS)) (
  y_sq (Δ := [.B (.obj "Service" [("inputs", (eL eS) a1), ("outputs", (eL eS) a2), ("states", eI a3), ("transitions", (eL (eT3 eI eS eI)) (sortE (eT3 eI eS eI) a4))]), .R ((eL eS) a1), .R ((eL eS) a2), .S (eI a3), .R ((eL (eT3 eI eS eI)) a4), .R ((eL eI) a5), .S (eB v10), .O ((eL eS) v21), .U, .U, .U, .U]) (y_setF (c := "Service") (fs := [("inputs", (eL eS) a1), ("outputs", (eL eS) a2), ("states", eI a3)]) (q_prim (q_o1 (q_on) q_o0) (p_sort (so_T3 so_I so_S so_I) (it_T3 _)))) (
  y_setF (c := "Service") (fs := [("inputs", (eL eS) a1), ("outputs", (eL eS) a2), ("states", eI a3), ("transitions", (eL (eT3 eI eS eI)) (sortE (eT3 eI eS eI) a4))]) (q_primD (q_o1 (q_on) q_o0) rfl rfl) rfl (by simp) rfl (by exact ⟨SP.le_rfl, SP.le_A, SP.le_A, SP.le_A, SP.le_A, SP.le_A, SP.le_A, SP.le_A, SP.le_A, SP.le_A, SP.le_A, SP.le_A, trivial⟩)))))))
noncomputable def P_u_law_service_told (a1 : Sv) : Option (Str ⊕ Sv) := St.fo (((St.tr (St.tb (P_C_Service a1.ins a1.outs a1.n a1.rows a1.fin) fun p2 =>
  .nx p2 : St (Sv) (Str ⊕ Sv)) (fun r => .rt (Sum.inl r : (Str ⊕ Sv)))).bind fun z1 =>
  .rt ((Sum.inr (⟨z1.ins, z1.outs, z1.n, z1.rows, z1.fin⟩ : Sv) : (Str ⊕ Sv)))) : St Unit (Str ⊕ Sv)) (fun _ => none)
theorem ok_u_law_service_told (a1 : Sv) {q : (Str ⊕ Sv)} (hq : P_u_law_service_told a1 = some q) : F_u_law_service_told [encSv a1] = .ok ((fun r => (⟨(eP eS encSv) r, (Sum.isRight r)⟩ : Vl)) q) := by
  refine runF_ty (N := 3) (Γ := [.S (encSv a1), .U, .U]) (Γn := fun _ => [.A, .A, .A]) (V := (fun r => (⟨(eP eS encSv) r, (Sum.isRight r)⟩ : Vl))) hq (P_u_law_service_told.eq_1 a1) ?_ (fun _ => .inl rfl)
  exact y_then (Γ1 := fun (z1 : Sv) => [.S (encSv a1), .U, .O (obSv z1)]) (y_try (y_tb (fun p2 hp2 =>
  y_asgN (q_make (q_o1 (q_ov (q_prim (q_o1 (q_on) (q_o1 (q_ov q_c) q_o0)) (ixL rfl))) (q_o1 (q_ov (q_prim (q_o1 (q_on) (q_o1 (q_ov q_c) q_o0)) (ixL rfl))) (q_o1 (q_ov (q_prim (q_o1 (q_on) (q_o1 (q_ov q_c) q_o0)) (ixL rfl))) (q_o1 (q_ov (q_prim (q_o1 (q_on) (q_o1 (q_ov q_c) q_o0)) (ixL rfl))) (q_o1 (q_ov (q_prim (q_o1 (q_on) (q_o1 (q_ov q_c) q_o0)) (ixL rfl))) q_o0))))) ((ok_C_Service a1.ins a1.outs a1.n a1.rows a1.fin).1 _ hp2)) (by exact Le.refl _)) (fun r hr => (ye_asg (x_make (q_o1 (q_ov (q_prim (q_o1 (q_on) (q_o1 (q_ov q_c) q_o0)) (ixL rfl))) (q_o1 (q_ov (q_prim (q_o1 (q_on) (q_o1 (q_ov q_c) q_o0)) (ixL rfl))) (q_o1 (q_ov (q_prim (q_o1 (q_on) (q_o1 (q_ov q_c) q_o0)) (ixL rfl))) (q_o1 (q_ov (q_prim (q_o1 (q_on) (q_o1 (q_ov q_c) q_o0)) (ixL rfl))) (q_o1 (q_ov (q_prim (q_o1 (q_on) (q_o1 (q_ov q_c) q_o0)) (ixL rfl))) q_o0))))) ((ok_C_Service a1.ins a1.outs a1.n a1.rows a1.fin).2 _ hr))))) (fun r => y_reason)) fun z1 =>
  y_ret (q_lst (q_o1 (q_ov (q_prim (q_o1 (q_on) q_o0) (pFld_of rfl rfl))) (q_o1 (q_ov (q_prim (q_o1 (q_on) q_o0) (pFld_of rfl rfl))) (q_o1 (q_ov (q_prim (q_o1 (q_on) q_o0) (pFld_of rfl rfl))) (q_o1 (q_ov (q_prim (q_o1 (q_on) q_o0) (pFld_of rfl rfl))) (q_o1 (q_ov (q_prim (q_o1 (q_on) q_o0) (pFld_of rfl rfl))) q_o0))))))
noncomputable def P_u_law_service_told_1 (a1 : Xv) : Option Str := rawS F_u_law_service_told [encXv a1]
theorem ok_u_law_service_told_1 (a1 : Xv) {q : Str} (hq : P_u_law_service_told_1 a1 = some q) : F_u_law_service_told [encXv a1] = .ok ((fun r => (⟨eS r, false⟩ : Vl)) q) := rawS_ok hq
noncomputable def P_u_law_spoiled (bx : Bx) (a1 : Sv) : Option (Xv × Bx) := St.fo (St.lt ((⟨((eL eS) a1.ins), ((eL eS) a1.outs), (eI a1.n), ((eL (eT3 eI eS eI)) a1.rows), ((eL eI) a1.fin)⟩ : Xv) : Xv) fun v1 =>
  St.ob (P_u_law_draw bx (12 : Int)) fun d2 =>
  St.lt (d2.1 : Int) fun v3 =>
  (((if (decide (v3 = (0 : Int))) = true then
  St.ob (P_u_law_draw d2.2 (7 : Int)) fun d4 =>
  St.ob (ixO ([((eL eS) [("b" : Str), ("a" : Str)]), ((eL eS) [("a" : Str), ("a" : Str)]), ((eL eS) [("A" : Str)]), ((eL eS) [("" : Str)]), ((eL eS) [("a" : Str), ("b" : Str), ("c" : Str), ("d" : Str)]), ((eL eS) [("abcdefghi" : Str)]), ((eL eI) [(5 : Int)])] : (List D)) d4.1) fun h5 =>
  .nx ((⟨h5, v1.b, v1.c, v1.d, v1.e⟩ : Xv), d4.2)
else
  if (decide (v3 = (1 : Int))) = true then
  .nx ((⟨((eL eS) [("b" : Str)]), (⟨v1.a, ((eL eS) [("a" : Str), ("b" : Str), ("z" : Str)]), v1.c, v1.d, v1.e⟩ : Xv).b, (⟨v1.a, ((eL eS) [("a" : Str), ("b" : Str), ("z" : Str)]), v1.c, v1.d, v1.e⟩ : Xv).c, (⟨v1.a, ((eL eS) [("a" : Str), ("b" : Str), ("z" : Str)]), v1.c, v1.d, v1.e⟩ : Xv).d, (⟨v1.a, ((eL eS) [("a" : Str), ("b" : Str), ("z" : Str)]), v1.c, v1.d, v1.e⟩ : Xv).e⟩ : Xv), d2.2)
else
  if (decide (v3 = (2 : Int))) = true then
  St.ob (P_u_law_draw d2.2 (4 : Int)) fun d6 =>
  St.ob (ixO ([(eI (0 : Int)), (eI (13 : Int)), (eB true), (eI (-(1 : Int)))] : (List D)) d6.1) fun h7 =>
  .nx ((⟨v1.a, v1.b, h7, v1.d, v1.e⟩ : Xv), d6.2)
else
  if (decide (v3 = (3 : Int))) = true then
  St.ob (rawAdd v1.d ((eL eX) ([((eT3 eI eS eI) ((0 : Int), ("tau" : Str), a1.n))] : (List D)))) fun h8 =>
  .nx ((⟨v1.a, v1.b, v1.c, h8, v1.e⟩ : Xv), d2.2)
else
  if (decide (v3 = (4 : Int))) = true then
  St.ob (rawAdd v1.d ((eL eX) ([((eT3 eI eS eI) ((0 : Int), ("!zz" : Str), (0 : Int)))] : (List D)))) fun h9 =>
  .nx ((⟨v1.a, v1.b, v1.c, h9, v1.e⟩ : Xv), d2.2)
else
  if (decide (v3 = (5 : Int))) = true then
  St.ob (rawAdd v1.d ((eL eX) ([((eT3 eI eS eI) ((0 : Int), ("tau" : Str), (0 : Int))), ((eT3 eI eS eI) ((0 : Int), ("tau" : Str), (0 : Int)))] : (List D)))) fun h10 =>
  .nx ((⟨v1.a, v1.b, v1.c, h10, v1.e⟩ : Xv), d2.2)
else
  if (decide (v3 = (6 : Int))) = true then
  St.ob (P_u_law_draw d2.2 (5 : Int)) fun d11 =>
  St.ob (ixO ([((eT2 eI eS) ((0 : Int), ("tau" : Str))), ((eT3 eI eS eI) ((-(1 : Int)), ("tau" : Str), (0 : Int))), ((eT3 eI eS eI) ((0 : Int), ("?" : Str), (0 : Int))), ((eH3 eI eS eI) ((0 : Int), ("tau" : Str), (0 : Int))), ((eT4 eI eS eI eI) ((0 : Int), ("tau" : Str), (0 : Int), (0 : Int)))] : (List D)) d11.1) fun h12 =>
  St.ob (rawAdd v1.d ((eL eX) ([h12] : (List D)))) fun h13 =>
  .nx ((⟨v1.a, v1.b, v1.c, h13, v1.e⟩ : Xv), d11.2)
else
  if (decide (v3 = (7 : Int))) = true then
  St.ob (P_u_law_draw d2.2 (4 : Int)) fun d14 =>
  St.ob (ixO ([((eL eI) [a1.n]), ((eL eI) [(0 : Int), (0 : Int)]), ((eL eI) [(-(1 : Int))]), ((eL eU) [()])] : (List D)) d14.1) fun h15 =>
  .nx ((⟨v1.a, v1.b, v1.c, v1.d, h15⟩ : Xv), d14.2)
else
  if (decide (v3 = (8 : Int))) = true then
  St.ob (rangeO 0 (60 : Int)) fun r16 =>
  St.ob (addL (r16.map fun (x17 : Int) => ((x17.fdiv (5 : Int)), ("tau" : Str), (x17.fmod (5 : Int)))) [((0 : Int), ("tau" : Str), (5 : Int))]) fun h19 =>
  .nx ((⟨(⟨v1.a, v1.b, (eI (12 : Int)), v1.d, v1.e⟩ : Xv).a, (⟨v1.a, v1.b, (eI (12 : Int)), v1.d, v1.e⟩ : Xv).b, (⟨v1.a, v1.b, (eI (12 : Int)), v1.d, v1.e⟩ : Xv).c, ((eL (eT3 eI eS eI)) h19), (⟨v1.a, v1.b, (eI (12 : Int)), v1.d, v1.e⟩ : Xv).e⟩ : Xv), d2.2)
else
  if (decide (v3 = (9 : Int))) = true then
  .nx ((⟨(⟨(⟨((eL eS) [("a" : Str), ("b" : Str)]), v1.b, v1.c, v1.d, v1.e⟩ : Xv).a, (⟨((eL eS) [("a" : Str), ("b" : Str)]), v1.b, v1.c, v1.d, v1.e⟩ : Xv).b, (⟨((eL eS) [("a" : Str), ("b" : Str)]), v1.b, v1.c, v1.d, v1.e⟩ : Xv).c, ((eL (eT3 eI eS eI)) [((0 : Int), ("!a" : Str), (0 : Int))]), (⟨((eL eS) [("a" : Str), ("b" : Str)]), v1.b, v1.c, v1.d, v1.e⟩ : Xv).e⟩ : Xv).a, ((eL eI) []), (⟨(⟨((eL eS) [("a" : Str), ("b" : Str)]), v1.b, v1.c, v1.d, v1.e⟩ : Xv).a, (⟨((eL eS) [("a" : Str), ("b" : Str)]), v1.b, v1.c, v1.d, v1.e⟩ : Xv).b, (⟨((eL eS) [("a" : Str), ("b" : Str)]), v1.b, v1.c, v1.d, v1.e⟩ : Xv).c, ((eL (eT3 eI eS eI)) [((0 : Int), ("!a" : Str), (0 : Int))]), (⟨((eL eS) [("a" : Str), ("b" : Str)]), v1.b, v1.c, v1.d, v1.e⟩ : Xv).e⟩ : Xv).c, (⟨(⟨((eL eS) [("a" : Str), ("b" : Str)]), v1.b, v1.c, v1.d, v1.e⟩ : Xv).a, (⟨((eL eS) [("a" : Str), ("b" : Str)]), v1.b, v1.c, v1.d, v1.e⟩ : Xv).b, (⟨((eL eS) [("a" : Str), ("b" : Str)]), v1.b, v1.c, v1.d, v1.e⟩ : Xv).c, ((eL (eT3 eI eS eI)) [((0 : Int), ("!a" : Str), (0 : Int))]), (⟨((eL eS) [("a" : Str), ("b" : Str)]), v1.b, v1.c, v1.d, v1.e⟩ : Xv).e⟩ : Xv).d, (⟨(⟨((eL eS) [("a" : Str), ("b" : Str)]), v1.b, v1.c, v1.d, v1.e⟩ : Xv).a, (⟨((eL eS) [("a" : Str), ("b" : Str)]), v1.b, v1.c, v1.d, v1.e⟩ : Xv).b, (⟨((eL eS) [("a" : Str), ("b" : Str)]), v1.b, v1.c, v1.d, v1.e⟩ : Xv).c, ((eL (eT3 eI eS eI)) [((0 : Int), ("!a" : Str), (0 : Int))]), (⟨((eL eS) [("a" : Str), ("b" : Str)]), v1.b, v1.c, v1.d, v1.e⟩ : Xv).e⟩ : Xv).e⟩ : Xv), d2.2)
else
  if (decide (v3 = (10 : Int))) = true then
  .nx ((⟨(⟨(⟨v1.a, v1.b, (eI (2 : Int)), v1.d, v1.e⟩ : Xv).a, (⟨v1.a, v1.b, (eI (2 : Int)), v1.d, v1.e⟩ : Xv).b, (⟨v1.a, v1.b, (eI (2 : Int)), v1.d, v1.e⟩ : Xv).c, ((eL eI) []), (⟨v1.a, v1.b, (eI (2 : Int)), v1.d, v1.e⟩ : Xv).e⟩ : Xv).a, (⟨(⟨v1.a, v1.b, (eI (2 : Int)), v1.d, v1.e⟩ : Xv).a, (⟨v1.a, v1.b, (eI (2 : Int)), v1.d, v1.e⟩ : Xv).b, (⟨v1.a, v1.b, (eI (2 : Int)), v1.d, v1.e⟩ : Xv).c, ((eL eI) []), (⟨v1.a, v1.b, (eI (2 : Int)), v1.d, v1.e⟩ : Xv).e⟩ : Xv).b, (⟨(⟨v1.a, v1.b, (eI (2 : Int)), v1.d, v1.e⟩ : Xv).a, (⟨v1.a, v1.b, (eI (2 : Int)), v1.d, v1.e⟩ : Xv).b, (⟨v1.a, v1.b, (eI (2 : Int)), v1.d, v1.e⟩ : Xv).c, ((eL eI) []), (⟨v1.a, v1.b, (eI (2 : Int)), v1.d, v1.e⟩ : Xv).e⟩ : Xv).c, (⟨(⟨v1.a, v1.b, (eI (2 : Int)), v1.d, v1.e⟩ : Xv).a, (⟨v1.a, v1.b, (eI (2 : Int)), v1.d, v1.e⟩ : Xv).b, (⟨v1.a, v1.b, (eI (2 : Int)), v1.d, v1.e⟩ : Xv).c, ((eL eI) []), (⟨v1.a, v1.b, (eI (2 : Int)), v1.d, v1.e⟩ : Xv).e⟩ : Xv).d, ((eL eI) [(1 : Int), (0 : Int)])⟩ : Xv), d2.2)
else
  .nx ((⟨v1.a, ((eL eS) [("d" : Str), ("c" : Str)]), v1.c, v1.d, v1.e⟩ : Xv), d2.2)) : St (Xv × Bx) (Xv × Bx)).bind fun z20 =>
  .rt (z20.1, z20.2)) : St Bx (Xv × Bx)) (fun b => none)
theorem ok_u_law_spoiled (bx : Bx) (a1 : Sv) {q : (Xv × Bx)} (hq : P_u_law_spoiled bx a1 = some q) : F_u_law_spoiled (encBx bx) [encSv a1] = .ok ((fun r => (⟨encXv r.1, true⟩ : Vl)) q) ((fun r => encBx r.2) q) := by
  refine runB_ty (N := 5) (Γ := [.B (encBx bx), .S (encSv a1), .U, .U, .U]) (Γn := fun b => [.B (encBx b), .A, .A, .A, .A]) (V := (fun r => (⟨encXv r.1, true⟩ : Vl))) (X := (fun r => encBx r.2)) (tt := t_u_law_spoiled) (mm := 1) (n := 5) (d0 := encBx bx) (ds := [encSv a1]) hq (P_u_law_spoiled.eq_1 bx a1) ?_ (fun _ => .inl rfl)
  exact y_seq (Γ1 := fun (v1 : Xv) => [.B (encBx bx), .S (encSv a1), .O (encXv v1), .U, .U]) (y_asgN (q_lst (q_o1 (q_ov (q_primD (q_o1 (q_ov (q_prim (q_o1 (q_on) (q_o1 (q_ov q_c) q_o0)) (ixL rfl))) q_o0) rfl rfl)) (q_o1 (q_ov (q_primD (q_o1 (q_ov (q_prim (q_o1 (q_on) (q_o1 (q_ov q_c) q_o0)) (ixL rfl))) q_o0) rfl rfl)) (q_o1 (q_ov (q_prim (q_o1 (q_on) (q_o1 (q_ov q_c) q_o0)) (ixL rfl))) (q_o1 (q_ov (q_primD (q_o1 (q_ov (q_prim (q_o1 (q_on) (q_o1 (q_ov q_c) q_o0)) (ixL rfl))) q_o0) rfl rfl)) (q_o1 (q_ov (q_primD (q_o1 (q_ov (q_prim (q_o1 (q_on) (q_o1 (q_ov q_c) q_o0)) (ixL rfl))) q_o0) rfl rfl)) q_o0))))))) fun v1 =>
  y_ob fun d2 hd2 =>
  y_seq (Γ1 := fun (v3 : Int) => [.B (encBx d2.2), .S (encSv a1), .O (encXv v1), .S (eI v3), .U]) (y_asgF (q_callBB (q_o1 (q_ov q_c) q_o0) (ok_u_law_draw bx (12 : Int) hd2))) fun v3 =>
  y_then (Γ1 := fun (z20 : Xv × Bx) => [.B (encBx z20.2), .S (encSv a1), .O (encXv z20.1), .S (eI v3), .U]) (y_if (q_tBool (q_prim (q_o1 (q_on) (q_o1 (q_ov q_c) q_o0)) (p_eq (e := eI) eq_I))) (fun _ => y_ob fun d4 hd4 =>
  y_ob fun h5 hh5 =>
  y_setIO (q_prim (q_o1 (q_ov (q_lst (q_o1 (q_ov (q_lst (q_o1 (q_ov q_c) (q_o1 (q_ov q_c) q_o0)))) (q_o1 (q_ov (q_lst (q_o1 (q_ov q_c) (q_o1 (q_ov q_c) q_o0)))) (q_o1 (q_ov (q_lst (q_o1 (q_ov q_c) q_o0))) (q_o1 (q_ov (q_lst (q_o1 (q_ov q_c) q_o0))) (q_o1 (q_ov (q_lst (q_o1 (q_ov q_c) (q_o1 (q_ov q_c) (q_o1 (q_ov q_c) (q_o1 (q_ov q_c) q_o0)))))) (q_o1 (q_ov (q_lst (q_o1 (q_ov q_c) q_o0))) (q_o1 (q_ov (q_lst (q_o1 (q_ov q_c) q_o0))) q_o0))))))))) (q_o1 (q_ov (q_callBB (q_o1 (q_ov q_c) q_o0) (ok_u_law_draw d2.2 (7 : Int) hd4))) q_o0)) (p_ix (e := eX) hh5)) (q_ov q_c) rfl rfl rfl rfl (by exact Le.refl _)) (fun _ => y_if (q_tBool (q_prim (q_o1 (q_on) (q_o1 (q_ov q_c) q_o0)) (p_eq (e := eI) eq_I))) (fun _ => y_sq (Δ := [.B (encBx d2.2), .S (encSv a1), .O (encXv (⟨v1.a, ((eL eS) [("a" : Str), ("b" : Str), ("z" : Str)]), v1.c, v1.d, v1.e⟩ : Xv)), .S (eI v3), .U]) (y_setIO (q_lst (q_o1 (q_ov q_c) (q_o1 (q_ov q_c) (q_o1 (q_ov q_c) q_o0)))) (q_ov q_c) rfl) (
  y_setIO (q_lst (q_o1 (q_ov q_c) q_o0)) (q_ov q_c) rfl rfl rfl rfl (by exact Le.refl _))) (fun _ => y_if (q_tBool (q_prim (q_o1 (q_on) (q_o1 (q_ov q_c) q_o0)) (p_eq (e := eI) eq_I))) (fun _ => y_ob fun d6 hd6 =>
  y_ob fun h7 hh7 =>
  y_setIO (q_prim (q_o1 (q_ov (q_lst (q_o1 (q_ov q_c) (q_o1 (q_ov q_c) (q_o1 (q_ov q_c) (q_o1 (q_ov (q_primD (q_o1 (q_ov q_c) q_o0) rfl rfl)) q_o0)))))) (q_o1 (q_ov (q_callBB (q_o1 (q_ov q_c) q_o0) (ok_u_law_draw d2.2 (4 : Int) hd6))) q_o0)) (p_ix (e := eX) hh7)) (q_ov q_c) rfl rfl rfl rfl (by exact Le.refl _)) (fun _ => y_if (q_tBool (q_prim (q_o1 (q_on) (q_o1 (q_ov q_c) q_o0)) (p_eq (e := eI) eq_I))) (fun _ => y_ob fun h8 hh8 =>
  y_setIO (q_prim (q_o1 (q_ov (q_prim (q_o1 (q_on) (q_o1 (q_ov q_c) q_o0)) (ixL rfl))) (q_o1 (q_ov (q_lst (q_o1 (q_ov (q_tup (q_o1 (q_ov q_c) (q_o1 (q_ov q_c) (q_o1 (q_ov (q_prim (q_o1 (q_on) (q_o1 (q_ov q_c) q_o0)) (ixL rfl))) q_o0))))) q_o0))) q_o0)) (p_rawAdd hh8)) (q_ov q_c) rfl rfl rfl rfl (by exact Le.refl _)) (fun _ => y_if (q_tBool (q_prim (q_o1 (q_on) (q_o1 (q_ov q_c) q_o0)) (p_eq (e := eI) eq_I))) (fun _ => y_ob fun h9 hh9 =>
  y_setIO (q_prim (q_o1 (q_ov (q_prim (q_o1 (q_on) (q_o1 (q_ov q_c) q_o0)) (ixL rfl))) (q_o1 (q_ov (q_lst (q_o1 (q_ov (q_tup (q_o1 (q_ov q_c) (q_o1 (q_ov q_c) (q_o1 (q_ov q_c) q_o0))))) q_o0))) q_o0)) (p_rawAdd hh9)) (q_ov q_c) rfl rfl rfl rfl (by exact Le.refl _)) (fun _ => y_if (q_tBool (q_prim (q_o1 (q_on) (q_o1 (q_ov q_c) q_o0)) (p_eq (e := eI) eq_I))) (fun _ => y_ob fun h10 hh10 =>
  y_setIO (q_prim (q_o1 (q_ov (q_prim (q_o1 (q_on) (q_o1 (q_ov q_c) q_o0)) (ixL rfl))) (q_o1 (q_ov (q_lst (q_o1 (q_ov (q_tup (q_o1 (q_ov q_c) (q_o1 (q_ov q_c) (q_o1 (q_ov q_c) q_o0))))) (q_o1 (q_ov (q_tup (q_o1 (q_ov q_c) (q_o1 (q_ov q_c) (q_o1 (q_ov q_c) q_o0))))) q_o0)))) q_o0)) (p_rawAdd hh10)) (q_ov q_c) rfl rfl rfl rfl (by exact Le.refl _)) (fun _ => y_if (q_tBool (q_prim (q_o1 (q_on) (q_o1 (q_ov q_c) q_o0)) (p_eq (e := eI) eq_I))) (fun _ => y_ob fun d11 hd11 =>
  y_ob fun h12 hh12 =>
  y_ob fun h13 hh13 =>
  y_setIO (q_prim (q_o1 (q_ov (q_prim (q_o1 (q_on) (q_o1 (q_ov q_c) q_o0)) (ixL rfl))) (q_o1 (q_ov (q_lst (q_o1 (q_ov (q_prim (q_o1 (q_ov (q_lst (q_o1 (q_ov (q_tup (q_o1 (q_ov q_c) (q_o1 (q_ov q_c) q_o0)))) (q_o1 (q_ov (q_tup (q_o1 (q_ov (q_primD (q_o1 (q_ov q_c) q_o0) rfl rfl)) (q_o1 (q_ov q_c) (q_o1 (q_ov q_c) q_o0))))) (q_o1 (q_ov (q_tup (q_o1 (q_ov q_c) (q_o1 (q_ov q_c) (q_o1 (q_ov q_c) q_o0))))) (q_o1 (q_ov (q_lst (q_o1 (q_ov q_c) (q_o1 (q_ov q_c) (q_o1 (q_ov q_c) q_o0))))) (q_o1 (q_ov (q_tup (q_o1 (q_ov q_c) (q_o1 (q_ov q_c) (q_o1 (q_ov q_c) (q_o1 (q_ov q_c) q_o0)))))) q_o0))))))) (q_o1 (q_ov (q_callBB (q_o1 (q_ov q_c) q_o0) (ok_u_law_draw d2.2 (5 : Int) hd11))) q_o0)) (p_ix (e := eX) hh12))) q_o0))) q_o0)) (p_rawAdd hh13)) (q_ov q_c) rfl rfl rfl rfl (by exact Le.refl _)) (fun _ => y_if (q_tBool (q_prim (q_o1 (q_on) (q_o1 (q_ov q_c) q_o0)) (p_eq (e := eI) eq_I))) (fun _ => y_ob fun d14 hd14 =>
  y_ob fun h15 hh15 =>
  y_setIO (q_prim (q_o1 (q_ov (q_lst (q_o1 (q_ov (q_lst (q_o1 (q_ov (q_prim (q_o1 (q_on) (q_o1 (q_ov q_c) q_o0)) (ixL rfl))) q_o0))) (q_o1 (q_ov (q_lst (q_o1 (q_ov q_c) (q_o1 (q_ov q_c) q_o0)))) (q_o1 (q_ov (q_lst (q_o1 (q_ov (q_primD (q_o1 (q_ov q_c) q_o0) rfl rfl)) q_o0))) (q_o1 (q_ov (q_lst (q_o1 (q_ov q_c) q_o0))) q_o0)))))) (q_o1 (q_ov (q_callBB (q_o1 (q_ov q_c) q_o0) (ok_u_law_draw d2.2 (4 : Int) hd14))) q_o0)) (p_ix (e := eX) hh15)) (q_ov q_c) rfl rfl rfl rfl (by exact Le.refl _)) (fun _ => y_if (q_tBool (q_prim (q_o1 (q_on) (q_o1 (q_ov q_c) q_o0)) (p_eq (e := eI) eq_I))) (fun _ => y_sq (Δ := [.B (encBx d2.2), .S (encSv a1), .O (encXv (⟨v1.a, v1.b, (eI (12 : Int)), v1.d, v1.e⟩ : Xv)), .S (eI v3), .U]) (y_setIO q_c (q_ov q_c) rfl) (
  y_ob fun r16 hr16 =>
  y_ob fun h19 hh19 =>
  y_setIO (q_prim (q_o1 (q_ov (q_compA (ei := eI) (en := (eT3 eI eS eI)) (fun (x17 : Int) => ((x17.fdiv (5 : Int)), ("tau" : Str), (x17.fmod (5 : Int)))) (q_range1 hr16 (q_o1 (q_ov q_c) q_o0)) trivial rfl rfl (fun (x17 : Int) => [.B (encBx d2.2), .S (encSv a1), .O (encXv (⟨v1.a, v1.b, (eI (12 : Int)), v1.d, v1.e⟩ : Xv)), .S (eI v3), .S (eI x17)]) (fun (x17 : Int) => rfl) (fun (x17 : Int) => (q_ov (q_tup (q_o1 (q_ov (q_primD (q_o1 (q_ov (q_prim (q_o1 (q_on) (q_o1 (q_ov q_c) q_o0)) (pFdiv_int (j := 5) (by decide)))) q_o0) rfl rfl)) (q_o1 (q_ov q_c) (q_o1 (q_ov (q_prim (q_o1 (q_ov (q_primD (q_o1 (q_on) q_o0) rfl rfl)) (q_o1 (q_ov q_c) q_o0)) (pMod_int (j := 5) (by decide)))) q_o0)))))) (fun (x17 : Int) => (by exact Le.refl _)))) (q_o1 (q_ov (q_lst (q_o1 (q_ov (q_tup (q_o1 (q_ov q_c) (q_o1 (q_ov q_c) (q_o1 (q_ov q_c) q_o0))))) q_o0))) q_o0)) (p_addL (e := (eT3 eI eS eI)) hh19)) (q_ov q_c) rfl rfl rfl rfl (by exact Le.refl _))) (fun _ => y_if (q_tBool (q_prim (q_o1 (q_on) (q_o1 (q_ov q_c) q_o0)) (p_eq (e := eI) eq_I))) (fun _ => y_sq (Δ := [.B (encBx d2.2), .S (encSv a1), .O (encXv (⟨((eL eS) [("a" : Str), ("b" : Str)]), v1.b, v1.c, v1.d, v1.e⟩ : Xv)), .S (eI v3), .U]) (y_setIO (q_lst (q_o1 (q_ov q_c) (q_o1 (q_ov q_c) q_o0))) (q_ov q_c) rfl) (
  y_sq (Δ := [.B (encBx d2.2), .S (encSv a1), .O (encXv (⟨(⟨((eL eS) [("a" : Str), ("b" : Str)]), v1.b, v1.c, v1.d, v1.e⟩ : Xv).a, (⟨((eL eS) [("a" : Str), ("b" : Str)]), v1.b, v1.c, v1.d, v1.e⟩ : Xv).b, (⟨((eL eS) [("a" : Str), ("b" : Str)]), v1.b, v1.c, v1.d, v1.e⟩ : Xv).c, ((eL (eT3 eI eS eI)) [((0 : Int), ("!a" : Str), (0 : Int))]), (⟨((eL eS) [("a" : Str), ("b" : Str)]), v1.b, v1.c, v1.d, v1.e⟩ : Xv).e⟩ : Xv)), .S (eI v3), .U]) (y_setIO (q_lst (q_o1 (q_ov (q_tup (q_o1 (q_ov q_c) (q_o1 (q_ov q_c) (q_o1 (q_ov q_c) q_o0))))) q_o0)) (q_ov q_c) rfl) (
  y_setIO (q_lst q_o0) (q_ov q_c) rfl rfl rfl rfl (by exact Le.refl _)))) (fun _ => y_if (q_tBool (q_prim (q_o1 (q_on) (q_o1 (q_ov q_c) q_o0)) (p_eq (e := eI) eq_I))) (fun _ => y_sq (Δ := [.B (encBx d2.2), .S (encSv a1), .O (encXv (⟨v1.a, v1.b, (eI (2 : Int)), v1.d, v1.e⟩ : Xv)), .S (eI v3), .U]) (y_setIO q_c (q_ov q_c) rfl) (
  y_sq (Δ := [.B (encBx d2.2), .S (encSv a1), .O (encXv (⟨(⟨v1.a, v1.b, (eI (2 : Int)), v1.d, v1.e⟩ : Xv).a, (⟨v1.a, v1.b, (eI (2 : Int)), v1.d, v1.e⟩ : Xv).b, (⟨v1.a, v1.b, (eI (2 : Int)), v1.d, v1.e⟩ : Xv).c, ((eL eI) []), (⟨v1.a, v1.b, (eI (2 : Int)), v1.d, v1.e⟩ : Xv).e⟩ : Xv)), .S (eI v3), .U]) (y_setIO (q_lst q_o0) (q_ov q_c) rfl) (
  y_setIO (q_lst (q_o1 (q_ov q_c) (q_o1 (q_ov q_c) q_o0))) (q_ov q_c) rfl rfl rfl rfl (by exact Le.refl _)))) (fun _ => y_setIO (q_lst (q_o1 (q_ov q_c) (q_o1 (q_ov q_c) q_o0))) (q_ov q_c) rfl rfl rfl rfl (by exact Le.refl _))))))))))))) fun z20 =>
  y_retOB
noncomputable def P_labels_of (a1 : Sv) : Option (List Str) := St.fo (St.ob (compO (fun (x1 : Str) => Option.map some ((addS ("!" : Str) x1).bind fun h3 => some (h3 : Str))) a1.ins) fun c4 =>
  St.ob (compO (fun (x5 : Str) => Option.map some ((addS ("?" : Str) x5).bind fun h7 => some (h7 : Str))) a1.outs) fun c8 =>
  St.ob (addL c4 c8) fun h9 =>
  .rt (h9) : St Unit (List Str)) (fun _ => none)
theorem ok_labels_of (a1 : Sv) {q : (List Str)} (hq : P_labels_of a1 = some q) : F_labels_of [obSv a1] = .ok ((fun r => (⟨(eL eS) r, true⟩ : Vl)) q) := by
  refine runF_ty (N := 2) (Γ := [.S (obSv a1), .U]) (Γn := fun _ => [.A, .A]) (V := (fun r => (⟨(eL eS) r, true⟩ : Vl))) hq (P_labels_of.eq_1 a1) ?_ (fun _ => .inl rfl)
  exact y_ob fun c4 hc4 =>
  y_ob fun c8 hc8 =>
  y_ob fun h9 hh9 =>
  y_ret (q_prim (q_o1 (q_ov (q_compO (ei := eS) (en := eS) _ hc4 (q_seqL (q_ov (q_prim (q_o1 (q_on) q_o0) (pFld_of rfl rfl)))) trivial rfl rfl (fun (x1 : Str) => [.S (obSv a1), .S (eS x1)]) (fun (x1 : Str) => rfl) (fun (x1 : Str) => (ej0_el (fun y hy => ⟨[.S (obSv a1), .S (eS x1)], (by obtain ⟨h3, hh3, hy⟩ := Option.bind_eq_some_iff.mp hy; cases hy; exact (q_ov (q_prim (q_o1 (q_ov q_c) (q_o1 (q_on) q_o0)) (p_addS hh3)))), (by exact Le.refl _)⟩))))) (q_o1 (q_ov (q_compO (ei := eS) (en := eS) _ hc8 (q_seqL (q_ov (q_prim (q_o1 (q_on) q_o0) (pFld_of rfl rfl)))) trivial rfl rfl (fun (x5 : Str) => [.S (obSv a1), .S (eS x5)]) (fun (x5 : Str) => rfl) (fun (x5 : Str) => (ej0_el (fun y hy => ⟨[.S (obSv a1), .S (eS x5)], (by obtain ⟨h7, hh7, hy⟩ := Option.bind_eq_some_iff.mp hy; cases hy; exact (q_ov (q_prim (q_o1 (q_ov q_c) (q_o1 (q_on) q_o0)) (p_addS hh7)))), (by exact Le.refl _)⟩))))) q_o0)) (p_addL (e := eS) hh9))
noncomputable def P_u_law_made (a1 : Sv) : Option Sv := St.fo (St.ob ((P_C_Service a1.ins a1.outs a1.n a1.rows a1.fin).o) fun p1 =>
  .rt (p1) : St Unit Sv) (fun _ => none)
theorem ok_u_law_made (a1 : Sv) {q : Sv} (hq : P_u_law_made a1 = some q) : F_u_law_made [encSv a1] = .ok ((fun r => (⟨obSv r, true⟩ : Vl)) q) := by
  refine runF_ty (N := 1) (Γ := [.S (encSv a1)]) (Γn := fun _ => [.A]) (V := (fun r => (⟨obSv r, true⟩ : Vl))) hq (P_u_law_made.eq_1 a1) ?_ (fun _ => .inl rfl)
  exact y_ob fun p1 hp1 =>
  y_ret (q_make (q_o1 (q_ov (q_primD (q_o1 (q_ov (q_prim (q_o1 (q_on) (q_o1 (q_ov q_c) q_o0)) (ixL rfl))) q_o0) rfl rfl)) (q_o1 (q_ov (q_primD (q_o1 (q_ov (q_prim (q_o1 (q_on) (q_o1 (q_ov q_c) q_o0)) (ixL rfl))) q_o0) rfl rfl)) (q_o1 (q_ov (q_prim (q_o1 (q_on) (q_o1 (q_ov q_c) q_o0)) (ixL rfl))) (q_o1 (q_ov (q_primD (q_o1 (q_ov (q_prim (q_o1 (q_on) (q_o1 (q_ov q_c) q_o0)) (ixL rfl))) q_o0) rfl rfl)) (q_o1 (q_ov (q_primD (q_o1 (q_ov (q_prim (q_o1 (q_on) (q_o1 (q_ov q_c) q_o0)) (ixL rfl))) q_o0) rfl rfl)) q_o0))))) ((ok_C_Service a1.ins a1.outs a1.n a1.rows a1.fin).1 _ (T.o_ok hp1)))
noncomputable def P_u_law_labels_1 (a1 : Sv) : Option (List Str) := St.fo (St.ob (compO (fun (x1 : Str) => Option.map some ((addS ("!" : Str) x1).bind fun h3 => some (h3 : Str))) a1.ins) fun c4 =>
  St.ob (compO (fun (x5 : Str) => Option.map some ((addS ("?" : Str) x5).bind fun h7 => some (h7 : Str))) a1.outs) fun c8 =>
  St.ob (addL c4 c8) fun h9 =>
  .rt (h9) : St Unit (List Str)) (fun _ => none)
theorem ok_u_law_labels_1 (a1 : Sv) {q : (List Str)} (hq : P_u_law_labels_1 a1 = some q) : F_u_law_labels [encSv a1] = .ok ((fun r => (⟨(eL eS) r, true⟩ : Vl)) q) := by
  refine runF_ty (N := 2) (Γ := [.S (encSv a1), .U]) (Γn := fun _ => [.A, .A]) (V := (fun r => (⟨(eL eS) r, true⟩ : Vl))) hq (P_u_law_labels_1.eq_1 a1) ?_ (fun _ => .inl rfl)
  exact y_ob fun c4 hc4 =>
  y_ob fun c8 hc8 =>
  y_ob fun h9 hh9 =>
  y_ret (q_prim (q_o1 (q_ov (q_compO (ei := eS) (en := eS) _ hc4 (q_seqL (q_ov (q_prim (q_o1 (q_on) (q_o1 (q_ov q_c) q_o0)) (ixL rfl)))) trivial rfl rfl (fun (x1 : Str) => [.S (encSv a1), .S (eS x1)]) (fun (x1 : Str) => rfl) (fun (x1 : Str) => (ej0_el (fun y hy => ⟨[.S (encSv a1), .S (eS x1)], (by obtain ⟨h3, hh3, hy⟩ := Option.bind_eq_some_iff.mp hy; cases hy; exact (q_ov (q_prim (q_o1 (q_ov q_c) (q_o1 (q_on) q_o0)) (p_addS hh3)))), (by exact Le.refl _)⟩))))) (q_o1 (q_ov (q_compO (ei := eS) (en := eS) _ hc8 (q_seqL (q_ov (q_prim (q_o1 (q_on) (q_o1 (q_ov q_c) q_o0)) (ixL rfl)))) trivial rfl rfl (fun (x5 : Str) => [.S (encSv a1), .S (eS x5)]) (fun (x5 : Str) => rfl) (fun (x5 : Str) => (ej0_el (fun y hy => ⟨[.S (encSv a1), .S (eS x5)], (by obtain ⟨h7, hh7, hy⟩ := Option.bind_eq_some_iff.mp hy; cases hy; exact (q_ov (q_prim (q_o1 (q_ov q_c) (q_o1 (q_on) q_o0)) (p_addS hh7)))), (by exact Le.refl _)⟩))))) q_o0)) (p_addL (e := eS) hh9))
noncomputable def P_u_law_partner (bx : Bx) (a1 : (List Str)) (a2 : Int) : Option (Pt × Bx) := St.fo (St.ob (P_u_law_draw bx a2) fun d1 =>
  St.lt (((1 : Int) + d1.1) : Int) fun v2 =>
  St.lt ([] : (List (Int × Str × Int))) fun v3 =>
  St.ob (P_u_law_draw d1.2 (((3 : Int) * v2) + (1 : Int))) fun d4 =>
  St.ob (rangeO 0 d4.1) fun r5 =>
  ((forT (fun (s6 : Bx × (List (Int × Str × Int))) (x7 : Int) => (if (decide ((0 : Int) < (a1.length : Int))) = true then
  St.ob (P_u_law_draw s6.1 v2) fun d8 =>
  St.ob (P_u_law_draw d8.2 (a1.length : Int)) fun d9 =>
  St.ob (ixO a1 d9.1) fun h10 =>
  St.ob (P_u_law_draw d9.2 v2) fun d11 =>
  St.lt ((d8.1, h10, d11.1) : (Int × Str × Int)) fun v12 =>
  if (!decide (v12 ∈ s6.2)) = true then
  St.ob (pushO s6.2 v12) fun l13 =>
  .nx (d11.2, l13)
else
  .nx (d11.2, s6.2)
else
  .nx (s6.1, s6.2) : St (Bx × (List (Int × Str × Int))) (Pt × Bx))) r5 (d4.2, v3)).bind fun z14 =>
  St.ob (rangeO 0 v2) fun r15 =>
  St.ob (compS (fun (x16 : Int) (s17 : Bx) => ((P_u_law_draw s17 (2 : Int)).bind fun d18 => (if (decide (d18.1 = (0 : Int))) = true then Option.map (fun r => (some r.1, r.2)) (some ((x16 : Int), (d18.2 : Bx))) else some (none, d18.2)))) r15 z14.1) fun c19 =>
  .rt (((⟨v2, (sortE (eT3 eI eS eI) z14.2), c19.1⟩ : Pt), c19.2))) : St Bx (Pt × Bx)) (fun b => none)
theorem ok_u_law_partner (bx : Bx) (a1 : (List Str)) (a2 : Int) {q : (Pt × Bx)} (hq : P_u_law_partner bx a1 a2 = some q) : F_u_law_partner (encBx bx) [(eL eS) a1, eI a2] = .ok ((fun r => (⟨encPt r.1, true⟩ : Vl)) q) ((fun r => encBx r.2) q) := by
  refine runB_ty (N := 8) (Γ := [.B (encBx bx), .S ((eL eS) a1), .S (eI a2), .U, .U, .U, .U, .U]) (Γn := fun b => [.B (encBx b), .A, .A, .A, .A, .A, .A, .A]) (V := (fun r => (⟨encPt r.1, true⟩ : Vl))) (X := (fun r => encBx r.2)) (tt := t_u_law_partner) (mm := 2) (n := 8) (d0 := encBx bx) (ds := [(eL eS) a1, eI a2]) hq (P_u_law_partner.eq_1 bx a1 a2) ?_ (fun _ => .inl rfl)
  exact y_ob fun d1 hd1 =>
  y_seq (Γ1 := fun (v2 : Int) => [.B (encBx d1.2), .S ((eL eS) a1), .S (eI a2), .S (eI v2), .U, .U, .U, .U]) (y_asgF (q_primD (q_o1 (q_ov q_c) (q_o1 (q_ov (q_callBB (q_o1 (q_ov (q_nmS)) q_o0) (ok_u_law_draw bx a2 hd1))) q_o0)) rfl rfl)) fun v2 =>
  y_seq (Γ1 := fun (v3 : (List (Int × Str × Int))) => [.B (encBx d1.2), .S ((eL eS) a1), .S (eI a2), .S (eI v2), .O ((eL (eT3 eI eS eI)) v3), .U, .U, .U]) (y_asgN (q_lst q_o0)) fun v3 =>
  y_ob fun d4 hd4 =>
  y_ob fun r5 hr5 =>
  y_then (Γ1 := fun (z14 : Bx × (List (Int × Str × Int))) => [.B (encBx z14.1), .S ((eL eS) a1), .S (eI a2), .S (eI v2), .O ((eL (eT3 eI eS eI)) z14.2), .J, .J, .U]) (y_for (ei := eI) (Γn := fun (s6 : Bx × (List (Int × Str × Int))) => [.B (encBx s6.1), .S ((eL eS) a1), .S (eI a2), .S (eI v2), .O ((eL (eT3 eI eS eI)) s6.2), .J, .J, .U]) (q_range1 hr5 (q_o1 (q_ov (q_callBB (q_o1 (q_ov (q_primD (q_o1 (q_ov (q_prim (q_o1 (q_ov q_c) (q_o1 (q_on) q_o0)) (pMul_l 3 (by decide)))) (q_o1 (q_ov q_c) q_o0)) rfl rfl)) q_o0) (ok_u_law_draw d1.2 (((3 : Int) * v2) + (1 : Int)) hd4))) q_o0)) (by exact ⟨SP.le_rfl, SP.le_rfl, SP.le_rfl, SP.le_rfl, SP.le_rfl, SP.le_UJ, SP.le_UJ, SP.le_rfl, trivial⟩) (fun (s6 : Bx × (List (Int × Str × Int))) (x7 : Int) => [.B (encBx s6.1), .S ((eL eS) a1), .S (eI a2), .S (eI v2), .O ((eL (eT3 eI eS eI)) s6.2), .S (eI x7), .J, .U]) (fun (s6 : Bx × (List (Int × Str × Int))) (x7 : Int) => rfl) (fun (s6 : Bx × (List (Int × Str × Int))) (x7 : Int) =>
  y_if (q_tBool (q_primD (q_o1 (q_ov (q_prim (q_o1 (q_on) q_o0) p_len)) (q_o1 (q_ov q_c) q_o0)) rfl rfl)) (fun _ => y_ob fun d8 hd8 =>
  y_ob fun d9 hd9 =>
  y_ob fun h10 hh10 =>
  y_ob fun d11 hd11 =>
  y_seq (Γ1 := fun (v12 : (Int × Str × Int)) => [.B (encBx d11.2), .S ((eL eS) a1), .S (eI a2), .S (eI v2), .O ((eL (eT3 eI eS eI)) s6.2), .S (eI x7), .S ((eT3 eI eS eI) v12), .U]) (y_asgF (q_tup (q_o1 (q_ov (q_callBB (q_o1 (q_ov (q_nmS)) q_o0) (ok_u_law_draw s6.1 v2 hd8))) (q_o1 (q_ov (q_prim (q_o1 (q_on) (q_o1 (q_ov (q_callBB (q_o1 (q_ov (q_prim (q_o1 (q_on) q_o0) p_len)) q_o0) (ok_u_law_draw d8.2 (a1.length : Int) hd9))) q_o0)) (p_ix (e := eS) hh10))) (q_o1 (q_ov (q_callBB (q_o1 (q_ov (q_nmS)) q_o0) (ok_u_law_draw d9.2 v2 hd11))) q_o0))))) fun v12 =>
  y_if (q_tBool (q_prim (q_o1 (q_on) (q_o1 (q_on) q_o0)) (p_notin (e := (eT3 eI eS eI)) (eq_T3 eq_I eq_S eq_I)))) (fun _ => y_ob fun l13 hl13 =>
  y_drop (q_methO (q_o1 (q_ov (q_nmS)) q_o0) (p_push (e := (eT3 eI eS eI)) hl13)) (by exact ⟨SP.le_rfl, SP.le_rfl, SP.le_rfl, SP.le_rfl, SP.le_rfl, SP.le_SJ, SP.le_SJ, SP.le_rfl, trivial⟩)) (fun _ => (y_skip (by exact ⟨SP.le_rfl, SP.le_rfl, SP.le_rfl, SP.le_rfl, SP.le_rfl, SP.le_SJ, SP.le_SJ, SP.le_rfl, trivial⟩)))) (fun _ => (y_skip (by exact ⟨SP.le_rfl, SP.le_rfl, SP.le_rfl, SP.le_rfl, SP.le_rfl, SP.le_SJ, SP.le_rfl, SP.le_rfl, trivial⟩))))) fun z14 =>
  y_ob fun r15 hr15 =>
  y_ob fun c19 hc19 =>
  y_retB (q_lst (q_o1 (q_ov (q_nmS)) (q_o1 (q_ov (q_prim (q_o1 (q_on) q_o0) (p_sort (so_T3 so_I so_S so_I) (it_T3 _)))) (q_o1 (q_ov (q_compS (ei := eI) (en := eI) _ (fun (s17 : Bx) => [.B (encBx s17), .S ((eL eS) a1), .S (eI a2), .S (eI v2), .O ((eL (eT3 eI eS eI)) z14.2), .J, .J, .U]) hc19 (q_range1 hr15 (q_o1 (q_on) q_o0)) (fun _ => trivial) rfl rfl (by intro v hv; simp only [List.mem_cons, List.not_mem_nil, or_false] at hv; rcases hv with rfl <;> rfl) (fun (x16 : Int) (s17 : Bx) => [.B (encBx s17), .S ((eL eS) a1), .S (eI a2), .S (eI v2), .O ((eL (eT3 eI eS eI)) z14.2), .J, .J, .S (eI x16)]) (fun (x16 : Int) (s17 : Bx) => rfl) (fun (x16 : Int) (s17 : Bx) => (ej_ob fun d18 hd18 => (ejs_test (q_tBool (q_prim (q_o1 (q_ov (q_callBB (q_o1 (q_ov q_c) q_o0) (ok_u_law_draw s17 (2 : Int) hd18))) (q_o1 (q_ov q_c) q_o0)) (p_eq (e := eI) eq_I))) (fun y hy => (by cases hy; exact ⟨_, (q_ov (q_nmS)), (by exact Le.refl _)⟩)) (by exact Le.refl _)))))) q_o0))))
noncomputable def P_is_label (a1 : Str) : Option Bool := St.fo (St.ob (andO true ((andO (decide ((L2.cutS a1 none (some (1 : Int))) ∈ [(("!" : Str), ("?" : Str)).1, (("!" : Str), ("?" : Str)).2])) ((P_is_message (L2.cutS a1 (some (1 : Int)) none)).bind fun p1 => some p1)).bind fun h2 => some h2)) fun h3 =>
  .rt (h3) : St Unit Bool) (fun _ => none)
theorem ok_is_label (a1 : Str) {q : Bool} (hq : P_is_label a1 = some q) : F_is_label [eS a1] = .ok ((fun r => (⟨eB r, false⟩ : Vl)) q) := by
  refine runF_ty (N := 1) (Γ := [.S (eS a1)]) (Γn := fun _ => [.A]) (V := (fun r => (⟨eB r, false⟩ : Vl))) hq (P_is_label.eq_1 a1) ?_ (fun _ => .inl rfl)
  exact y_ob fun h3 hh3 =>
  y_ret (q_sAndO (Ε := [.S (eS a1)]) hh3 (q_primD (q_o1 (q_on) q_o0) rfl rfl) (fun c hc => (by obtain ⟨h2, hh2, hc⟩ := Option.bind_eq_some_iff.mp hc; cases hc; exact (q_sAndO (Ε := [.S (eS a1)]) hh2 (q_prim (q_o1 (q_ov (q_slice (q_on) q_part0 (q_part1 (q_o1 (q_ov q_c) q_o0)) rfl)) (q_o1 (q_ov (q_tup (q_o1 (q_ov q_c) (q_o1 (q_ov q_c) q_o0)))) q_o0)) (p_inT (e := eS) (xs := [(("!" : Str), ("?" : Str)).1, (("!" : Str), ("?" : Str)).2]) eq_S (fun _ => rfl))) (fun c hc => (by obtain ⟨p1, hp1, hc⟩ := Option.bind_eq_some_iff.mp hc; cases hc; exact (q_call (q_o1 (q_ov (q_slice (q_on) (q_part1 (q_o1 (q_ov q_c) q_o0)) q_part0 rfl)) q_o0) (ok_is_message (L2.cutS a1 (some (1 : Int)) none) hp1)))) (by exact Le.refl _)))) (by exact Le.refl _))
noncomputable def P_C_Partner (a1 : Int) (a2 : (List (Int × Str × Int))) (a3 : (List Int)) : T Pt := St.ft (St.ob (P_u_is_shape a1 (300 : Int) a2 (2000 : Int) a3) fun p1 =>
  St.lt (p1 : Bool) fun v2 =>
  St.ob (orO (!v2) ((compO (fun (x3 : (Int × Str × Int)) => Option.map some ((P_is_label x3.2.1).bind fun p5 => some (p5 : Bool))) a2).bind fun c6 => some (!(c6.all id)))) fun h7 =>
  if h7 = true then
  .exc "no partner"
else
  .nx (⟨a1, (sortE (eT3 eI eS eI) a2), a3⟩ : Pt) : St Pt Pt) (fun q => .ok q)
theorem ok_C_Partner (a1 : Int) (a2 : (List (Int × Str × Int))) (a3 : (List Int)) : (∀ q, P_C_Partner a1 a2 a3 = .ok q → F_C_Partner (.obj "Partner" []) [eI a1, (eL (eT3 eI eS eI)) a2, (eL eI) a3] = .ok ((fun _ => fz .non) q) (obPt q)) ∧ ∀ r, P_C_Partner a1 a2 a3 = .exc r → F_C_Partner (.obj "Partner" []) [eI a1, (eL (eT3 eI eS eI)) a2, (eL eI) a3] = .exc (talkE r) := by
  refine runBM_ty (N := 8) (Γ := [.B (.obj "Partner" []), .S (eI a1), .R ((eL (eT3 eI eS eI)) a2), .R ((eL eI) a3), .U, .U, .U, .U]) (Γn := fun q => [.B (obPt q), .A, .A, .A, .A, .A, .A, .A]) (V := (fun _ => fz .non)) (X := obPt) (tt := t_C_Partner) (modes := [false, true, true]) (n := 8) (d0 := .obj "Partner" []) (ds := [eI a1, (eL (eT3 eI eS eI)) a2, (eL eI) a3]) (P_C_Partner.eq_1 a1 a2 a3) ?_ (fun q => .inr ⟨q, rfl, rfl, rfl⟩)
  exact y_ob fun p1 hp1 =>
  y_seq (Γ1 := fun (v2 : Bool) => [.B (.obj "Partner" []), .S (eI a1), .R ((eL (eT3 eI eS eI)) a2), .R ((eL eI) a3), .S (eB v2), .U, .U, .U]) (y_asgF (q_call (q_o1 (q_ov (q_nmS)) (q_o1 (q_ov q_c) (q_o1 (q_on) (q_o1 (q_ov q_c) (q_o1 (q_on) q_o0))))) (ok_u_is_shape a1 (300 : Int) a2 (2000 : Int) a3 hp1))) fun v2 =>
  y_ob fun h7 hh7 =>
  y_guard (q_tOrO (Ε := [.B (.obj "Partner" []), .S (eI a1), .R ((eL (eT3 eI eS eI)) a2), .R ((eL eI) a3), .S (eB v2), .U, .U, .U]) hh7 (q_tNot (q_tVal (q_o1 (q_on) q_o0) rfl)) (fun c hc => (by obtain ⟨c6, hc6, hc⟩ := Option.bind_eq_some_iff.mp hc; cases hc; exact (q_tNot (q_tVal (q_o1 (q_ov (q_prim (q_o1 (q_ov (q_compO (ei := (eT3 eI eS eI)) (en := eB) _ hc6 (q_seqL (q_on)) ⟨rfl, rfl⟩ rfl rfl (fun (x3 : (Int × Str × Int)) => [.B (.obj "Partner" []), .S (eI a1), .R ((eL (eT3 eI eS eI)) a2), .R ((eL eI) a3), .S (eB v2), .S (eI x3.1), .S (eS x3.2.1), .S (eI x3.2.2)]) (fun (x3 : (Int × Str × Int)) => rfl) (fun (x3 : (Int × Str × Int)) => (ej0_el (fun y hy => ⟨[.B (.obj "Partner" []), .S (eI a1), .R ((eL (eT3 eI eS eI)) a2), .R ((eL eI) a3), .S (eB v2), .S (eI x3.1), .S (eS x3.2.1), .S (eI x3.2.2)], (by obtain ⟨p5, hp5, hy⟩ := Option.bind_eq_some_iff.mp hy; cases hy; exact (q_ov (q_call (q_o1 (q_ov (q_nmS)) q_o0) (ok_is_label x3.2.1 hp5)))), (by exact Le.refl _)⟩))))) q_o0) p_all)) q_o0) rfl)))) (by exact Le.refl _)) (fun _ => y_raise) (fun _ => y_sq (Δ := [.B (.obj "Partner" [("states", eI a1)]), .S (eI a1), .R ((eL (eT3 eI eS eI)) a2), .R ((eL eI) a3), .S (eB v2), .U, .U, .U]) (y_setF (c := "Partner") (fs := []) (q_nmS)) (
  y_sq (Δ := [.B (.obj "Partner" [("states", eI a1), ("transitions", (eL (eT3 eI eS eI)) (sortE (eT3 eI eS eI) a2))]), .S (eI a1), .R ((eL (eT3 eI eS eI)) a2), .R ((eL eI) a3), .S (eB v2), .U, .U, .U]) (y_setF (c := "Partner") (fs := [("states", eI a1)]) (q_prim (q_o1 (q_on) q_o0) (p_sort (so_T3 so_I so_S so_I) (it_T3 _)))) (
  y_setF (c := "Partner") (fs := [("states", eI a1), ("transitions", (eL (eT3 eI eS eI)) (sortE (eT3 eI eS eI) a2))]) (q_primD (q_o1 (q_on) q_o0) rfl rfl) rfl (by simp) rfl (by exact ⟨SP.le_rfl, SP.le_A, SP.le_A, SP.le_A, SP.le_A, SP.le_A, SP.le_A, SP.le_A, trivial⟩))))
noncomputable def P_u_law_partner_told (a1 : Pt) : Option (Str ⊕ Pt) := St.fo (((St.tr (St.tb (P_C_Partner a1.n a1.rows a1.fin) fun p2 =>
  .nx p2 : St (Pt) (Str ⊕ Pt)) (fun r => .rt (Sum.inl r : (Str ⊕ Pt)))).bind fun z1 =>
  .rt ((Sum.inr (⟨z1.n, z1.rows, z1.fin⟩ : Pt) : (Str ⊕ Pt)))) : St Unit (Str ⊕ Pt)) (fun _ => none)
theorem ok_u_law_partner_told (a1 : Pt) {q : (Str ⊕ Pt)} (hq : P_u_law_partner_told a1 = some q) : F_u_law_partner_told [encPt a1] = .ok ((fun r => (⟨(eP eS encPt) r, (Sum.isRight r)⟩ : Vl)) q) := by
  refine runF_ty (N := 3) (Γ := [.S (encPt a1), .U, .U]) (Γn := fun _ => [.A, .A, .A]) (V := (fun r => (⟨(eP eS encPt) r, (Sum.isRight r)⟩ : Vl))) hq (P_u_law_partner_told.eq_1 a1) ?_ (fun _ => .inl rfl)
  exact y_then (Γ1 := fun (z1 : Pt) => [.S (encPt a1), .U, .O (obPt z1)]) (y_try (y_tb (fun p2 hp2 =>
  y_asgN (q_make (q_o1 (q_ov (q_prim (q_o1 (q_on) (q_o1 (q_ov q_c) q_o0)) (ixL rfl))) (q_o1 (q_ov (q_prim (q_o1 (q_on) (q_o1 (q_ov q_c) q_o0)) (ixL rfl))) (q_o1 (q_ov (q_prim (q_o1 (q_on) (q_o1 (q_ov q_c) q_o0)) (ixL rfl))) q_o0))) ((ok_C_Partner a1.n a1.rows a1.fin).1 _ hp2)) (by exact Le.refl _)) (fun r hr => (ye_asg (x_make (q_o1 (q_ov (q_prim (q_o1 (q_on) (q_o1 (q_ov q_c) q_o0)) (ixL rfl))) (q_o1 (q_ov (q_prim (q_o1 (q_on) (q_o1 (q_ov q_c) q_o0)) (ixL rfl))) (q_o1 (q_ov (q_prim (q_o1 (q_on) (q_o1 (q_ov q_c) q_o0)) (ixL rfl))) q_o0))) ((ok_C_Partner a1.n a1.rows a1.fin).2 _ hr))))) (fun r => y_reason)) fun z1 =>
  y_ret (q_lst (q_o1 (q_ov (q_prim (q_o1 (q_on) q_o0) (pFld_of rfl rfl))) (q_o1 (q_ov (q_prim (q_o1 (q_on) q_o0) (pFld_of rfl rfl))) (q_o1 (q_ov (q_prim (q_o1 (q_on) q_o0) (pFld_of rfl rfl))) q_o0))))
noncomputable def P_u_law_bad_partner (bx : Bx) (a1 : Pt) : Option (Pt × Bx) := St.fo (St.ob (addL a1.rows [((0 : Int), ("tau" : Str), (0 : Int))]) fun h1 =>
  St.ob (addL a1.rows [((0 : Int), ("!a" : Str), a1.n)]) fun h2 =>
  St.ob (P_u_law_draw bx (9 : Int)) fun d3 =>
  St.ob (ixO ([(⟨(0 : Int), ([] : (List (Int × Str × Int))), ([] : (List Int))⟩ : Pt), (⟨(301 : Int), ([] : (List (Int × Str × Int))), ([] : (List Int))⟩ : Pt), (⟨a1.n, h1, a1.fin⟩ : Pt), (⟨a1.n, h2, a1.fin⟩ : Pt), (⟨a1.n, a1.rows, ([a1.n] : (List Int))⟩ : Pt), (⟨a1.n, ([((0 : Int), ("!a" : Str), (0 : Int)), ((0 : Int), ("!a" : Str), (0 : Int))] : (List (Int × Str × Int))), ([] : (List Int))⟩ : Pt), (⟨(2 : Int), ([] : (List (Int × Str × Int))), ([(1 : Int), (0 : Int)] : (List Int))⟩ : Pt), (⟨(1 : Int), ([((0 : Int), ("a" : Str), (0 : Int))] : (List (Int × Str × Int))), ([] : (List Int))⟩ : Pt), (⟨(1 : Int), ([((0 : Int), ("!A" : Str), (0 : Int))] : (List (Int × Str × Int))), ([] : (List Int))⟩ : Pt)] : (List Pt)) d3.1) fun h4 =>
  .rt ((h4, d3.2)) : St Bx (Pt × Bx)) (fun b => none)
theorem ok_u_law_bad_partner (bx : Bx) (a1 : Pt) {q : (Pt × Bx)} (hq : P_u_law_bad_partner bx a1 = some q) : F_u_law_bad_partner (encBx bx) [encPt a1] = .ok ((fun r => (⟨encPt r.1, false⟩ : Vl)) q) ((fun r => encBx r.2) q) := by
  refine runB_ty (N := 2) (Γ := [.B (encBx bx), .S (encPt a1)]) (Γn := fun b => [.B (encBx b), .A]) (V := (fun r => (⟨encPt r.1, false⟩ : Vl))) (X := (fun r => encBx r.2)) (tt := t_u_law_bad_partner) (mm := 1) (n := 2) (d0 := encBx bx) (ds := [encPt a1]) hq (P_u_law_bad_partner.eq_1 bx a1) ?_ (fun _ => .inl rfl)
  exact y_ob fun h1 hh1 =>
  y_ob fun h2 hh2 =>
  y_ob fun d3 hd3 =>
  y_ob fun h4 hh4 =>
  y_retB (q_prim (q_o1 (q_ov (q_lst (q_o1 (q_ov (q_lst (q_o1 (q_ov q_c) (q_o1 (q_ov (q_lst q_o0)) (q_o1 (q_ov (q_lst q_o0)) q_o0))))) (q_o1 (q_ov (q_lst (q_o1 (q_ov q_c) (q_o1 (q_ov (q_lst q_o0)) (q_o1 (q_ov (q_lst q_o0)) q_o0))))) (q_o1 (q_ov (q_lst (q_o1 (q_ov (q_prim (q_o1 (q_on) (q_o1 (q_ov q_c) q_o0)) (ixL rfl))) (q_o1 (q_ov (q_prim (q_o1 (q_ov (q_prim (q_o1 (q_on) (q_o1 (q_ov q_c) q_o0)) (ixL rfl))) (q_o1 (q_ov (q_lst (q_o1 (q_ov (q_tup (q_o1 (q_ov q_c) (q_o1 (q_ov q_c) (q_o1 (q_ov q_c) q_o0))))) q_o0))) q_o0)) (p_addL (e := (eT3 eI eS eI)) hh1))) (q_o1 (q_ov (q_prim (q_o1 (q_on) (q_o1 (q_ov q_c) q_o0)) (ixL rfl))) q_o0))))) (q_o1 (q_ov (q_lst (q_o1 (q_ov (q_prim (q_o1 (q_on) (q_o1 (q_ov q_c) q_o0)) (ixL rfl))) (q_o1 (q_ov (q_prim (q_o1 (q_ov (q_prim (q_o1 (q_on) (q_o1 (q_ov q_c) q_o0)) (ixL rfl))) (q_o1 (q_ov (q_lst (q_o1 (q_ov (q_tup (q_o1 (q_ov q_c) (q_o1 (q_ov q_c) (q_o1 (q_ov (q_prim (q_o1 (q_on) (q_o1 (q_ov q_c) q_o0)) (ixL rfl))) q_o0))))) q_o0))) q_o0)) (p_addL (e := (eT3 eI eS eI)) hh2))) (q_o1 (q_ov (q_prim (q_o1 (q_on) (q_o1 (q_ov q_c) q_o0)) (ixL rfl))) q_o0))))) (q_o1 (q_ov (q_lst (q_o1 (q_ov (q_prim (q_o1 (q_on) (q_o1 (q_ov q_c) q_o0)) (ixL rfl))) (q_o1 (q_ov (q_prim (q_o1 (q_on) (q_o1 (q_ov q_c) q_o0)) (ixL rfl))) (q_o1 (q_ov (q_lst (q_o1 (q_ov (q_prim (q_o1 (q_on) (q_o1 (q_ov q_c) q_o0)) (ixL rfl))) q_o0))) q_o0))))) (q_o1 (q_ov (q_lst (q_o1 (q_ov (q_prim (q_o1 (q_on) (q_o1 (q_ov q_c) q_o0)) (ixL rfl))) (q_o1 (q_ov (q_lst (q_o1 (q_ov (q_tup (q_o1 (q_ov q_c) (q_o1 (q_ov q_c) (q_o1 (q_ov q_c) q_o0))))) (q_o1 (q_ov (q_tup (q_o1 (q_ov q_c) (q_o1 (q_ov q_c) (q_o1 (q_ov q_c) q_o0))))) q_o0)))) (q_o1 (q_ov (q_lst q_o0)) q_o0))))) (q_o1 (q_ov (q_lst (q_o1 (q_ov q_c) (q_o1 (q_ov (q_lst q_o0)) (q_o1 (q_ov (q_lst (q_o1 (q_ov q_c) (q_o1 (q_ov q_c) q_o0)))) q_o0))))) (q_o1 (q_ov (q_lst (q_o1 (q_ov q_c) (q_o1 (q_ov (q_lst (q_o1 (q_ov (q_tup (q_o1 (q_ov q_c) (q_o1 (q_ov q_c) (q_o1 (q_ov q_c) q_o0))))) q_o0))) (q_o1 (q_ov (q_lst q_o0)) q_o0))))) (q_o1 (q_ov (q_lst (q_o1 (q_ov q_c) (q_o1 (q_ov (q_lst (q_o1 (q_ov (q_tup (q_o1 (q_ov q_c) (q_o1 (q_ov q_c) (q_o1 (q_ov q_c) q_o0))))) q_o0))) (q_o1 (q_ov (q_lst q_o0)) q_o0))))) q_o0))))))))))) (q_o1 (q_ov (q_callBB (q_o1 (q_ov q_c) q_o0) (ok_u_law_draw bx (9 : Int) hd3))) q_o0)) (p_ix (e := encPt) hh4))
noncomputable def P_is_partner_for (a1 : Sv) (a2 : Pt) : Option Bool := St.fo (St.ob (P_labels_of a1) fun p1 =>
  St.lt (p1 : (List Str)) fun v2 =>
  .rt ((a2.rows.all fun (x3 : (Int × Str × Int)) => (decide (x3.2.1 ∈ v2)))) : St Unit Bool) (fun _ => none)
theorem ok_is_partner_for (a1 : Sv) (a2 : Pt) {q : Bool} (hq : P_is_partner_for a1 a2 = some q) : F_is_partner_for [obSv a1, obPt a2] = .ok ((fun r => (⟨eB r, false⟩ : Vl)) q) := by
  refine runF_ty (N := 6) (Γ := [.S (obSv a1), .S (obPt a2), .U, .U, .U, .U]) (Γn := fun _ => [.A, .A, .A, .A, .A, .A]) (V := (fun r => (⟨eB r, false⟩ : Vl))) hq (P_is_partner_for.eq_1 a1 a2) ?_ (fun _ => .inl rfl)
  exact y_ob fun p1 hp1 =>
  y_seq (Γ1 := fun (v2 : (List Str)) => [.S (obSv a1), .S (obPt a2), .O ((eL eS) v2), .U, .U, .U]) (y_asgN (q_call (q_o1 (q_ov (q_nmS)) q_o0) (ok_labels_of a1 hp1))) fun v2 =>
  y_ret (q_prim (q_o1 (q_ov (q_compA (ei := (eT3 eI eS eI)) (en := eB) (fun (x3 : (Int × Str × Int)) => (decide (x3.2.1 ∈ v2))) (q_seqL (q_ov (q_prim (q_o1 (q_on) q_o0) (pFld_of rfl rfl)))) trivial rfl rfl (fun (x3 : (Int × Str × Int)) => [.S (obSv a1), .S (obPt a2), .O ((eL eS) v2), .S (eI x3.1), .S (eS x3.2.1), .S (eI x3.2.2)]) (fun (x3 : (Int × Str × Int)) => rfl) (fun (x3 : (Int × Str × Int)) => (q_ov (q_prim (q_o1 (q_on) (q_o1 (q_on) q_o0)) (p_in (e := eS) eq_S)))) (fun (x3 : (Int × Str × Int)) => (by exact Le.refl _)))) q_o0) p_allA)
noncomputable def P_u_law_mate (a1 : Pt) : Option Pt := St.fo (St.ob ((P_C_Partner a1.n a1.rows a1.fin).o) fun p1 =>
  .rt (p1) : St Unit Pt) (fun _ => none)
theorem ok_u_law_mate (a1 : Pt) {q : Pt} (hq : P_u_law_mate a1 = some q) : F_u_law_mate [encPt a1] = .ok ((fun r => (⟨obPt r, true⟩ : Vl)) q) := by
  refine runF_ty (N := 1) (Γ := [.S (encPt a1)]) (Γn := fun _ => [.A]) (V := (fun r => (⟨obPt r, true⟩ : Vl))) hq (P_u_law_mate.eq_1 a1) ?_ (fun _ => .inl rfl)
  exact y_ob fun p1 hp1 =>
  y_ret (q_make (q_o1 (q_ov (q_prim (q_o1 (q_on) (q_o1 (q_ov q_c) q_o0)) (ixL rfl))) (q_o1 (q_ov (q_primD (q_o1 (q_ov (q_prim (q_o1 (q_on) (q_o1 (q_ov q_c) q_o0)) (ixL rfl))) q_o0) rfl rfl)) (q_o1 (q_ov (q_primD (q_o1 (q_ov (q_prim (q_o1 (q_on) (q_o1 (q_ov q_c) q_o0)) (ixL rfl))) q_o0) rfl rfl)) q_o0))) ((ok_C_Partner a1.n a1.rows a1.fin).1 _ (T.o_ok hp1)))
noncomputable def P_u_law_link (bx : Bx) : Option (Lk × Bx) := St.fo (St.ob (P_u_law_draw bx (3 : Int)) fun d1 =>
  St.lt (d1.1 : Int) fun v2 =>
  St.ob (P_u_law_draw d1.2 (2 : Int)) fun d3 =>
  St.ob (ixO [("row" : Str), ("bag" : Str)] d3.1) fun h4 =>
  St.lt (h4 : Str) fun v5 =>
  if (decide (v2 = (0 : Int))) = true then
  .rt (((⟨(0 : Int), v5, (0 : Int), (0 : Int)⟩ : Lk), d3.2))
else
  St.ob (P_u_law_draw d3.2 (3 : Int)) fun d6 =>
  St.ob (ixO ([(0 : Int), (0 : Int), (1 : Int)] : (List Int)) d6.1) fun h7 =>
  St.ob (P_u_law_draw d6.2 (4 : Int)) fun d8 =>
  St.ob (ixO ([(0 : Int), (0 : Int), (1 : Int), (2 : Int)] : (List Int)) d8.1) fun h9 =>
  .rt (((⟨v2, v5, h7, h9⟩ : Lk), d8.2)) : St Bx (Lk × Bx)) (fun b => none)
theorem ok_u_law_link (bx : Bx) {q : (Lk × Bx)} (hq : P_u_law_link bx = some q) : F_u_law_link (encBx bx) [] = .ok ((fun r => (⟨encLk r.1, true⟩ : Vl)) q) ((fun r => encBx r.2) q) := by
  refine runB_ty (N := 3) (Γ := [.B (encBx bx), .U, .U]) (Γn := fun b => [.B (encBx b), .A, .A]) (V := (fun r => (⟨encLk r.1, true⟩ : Vl))) (X := (fun r => encBx r.2)) (tt := t_u_law_link) (mm := 0) (n := 3) (d0 := encBx bx) (ds := []) hq (P_u_law_link.eq_1 bx) ?_ (fun _ => .inl rfl)
  exact y_ob fun d1 hd1 =>
  y_seq (Γ1 := fun (v2 : Int) => [.B (encBx d1.2), .S (eI v2), .U]) (y_asgF (q_callBB (q_o1 (q_ov q_c) q_o0) (ok_u_law_draw bx (3 : Int) hd1))) fun v2 =>
  y_ob fun d3 hd3 =>
  y_ob fun h4 hh4 =>
  y_seq (Γ1 := fun (v5 : Str) => [.B (encBx d3.2), .S (eI v2), .S (eS v5)]) (y_asgF (q_prim (q_o1 (q_ov (q_lst (q_o1 (q_ov q_c) (q_o1 (q_ov q_c) q_o0)))) (q_o1 (q_ov (q_callBB (q_o1 (q_ov q_c) q_o0) (ok_u_law_draw d1.2 (2 : Int) hd3))) q_o0)) (p_ix (e := eS) hh4))) fun v5 =>
  y_guard (q_tBool (q_prim (q_o1 (q_on) (q_o1 (q_ov q_c) q_o0)) (p_eq (e := eI) eq_I))) (fun _ => y_retB (q_lst (q_o1 (q_ov q_c) (q_o1 (q_ov (q_nmS)) (q_o1 (q_ov q_c) (q_o1 (q_ov q_c) q_o0)))))) (fun _ => y_ob fun d6 hd6 =>
  y_ob fun h7 hh7 =>
  y_ob fun d8 hd8 =>
  y_ob fun h9 hh9 =>
  y_retB (q_lst (q_o1 (q_ov (q_nmS)) (q_o1 (q_ov (q_nmS)) (q_o1 (q_ov (q_prim (q_o1 (q_ov (q_lst (q_o1 (q_ov q_c) (q_o1 (q_ov q_c) (q_o1 (q_ov q_c) q_o0))))) (q_o1 (q_ov (q_callBB (q_o1 (q_ov q_c) q_o0) (ok_u_law_draw d3.2 (3 : Int) hd6))) q_o0)) (p_ix (e := eI) hh7))) (q_o1 (q_ov (q_prim (q_o1 (q_ov (q_lst (q_o1 (q_ov q_c) (q_o1 (q_ov q_c) (q_o1 (q_ov q_c) (q_o1 (q_ov q_c) q_o0)))))) (q_o1 (q_ov (q_callBB (q_o1 (q_ov q_c) q_o0) (ok_u_law_draw d6.2 (4 : Int) hd8))) q_o0)) (p_ix (e := eI) hh9))) q_o0))))))
noncomputable def P_C_Link (a1 : Int) (a2 : Str) (a3 : Int) (a4 : Int) : T Lk := St.ft (St.ob (P_is_number a1 (2 : Int)) fun p1 =>
  St.ob (andO p1 ((andO (decide (a2 ∈ [(("row" : Str), ("bag" : Str)).1, (("row" : Str), ("bag" : Str)).2])) ((P_is_number a3 (2 : Int)).bind fun p2 => ((andO p2 ((P_is_number a4 (2 : Int)).bind fun p3 => some p3)).bind fun h4 => some h4))).bind fun h5 => some h5)) fun h6 =>
  St.lt (h6 : Bool) fun v7 =>
  if ((!v7) || ((decide (a1 = (0 : Int))) && (decide ((0 : Int) < (a3 + a4))))) = true then
  .exc "no link"
else
  .nx (⟨a1, a2, a3, a4⟩ : Lk) : St Lk Lk) (fun q => .ok q)
theorem ok_C_Link (a1 : Int) (a2 : Str) (a3 : Int) (a4 : Int) : (∀ q, P_C_Link a1 a2 a3 a4 = .ok q → F_C_Link (.obj "Link" []) [eI a1, eS a2, eI a3, eI a4] = .ok ((fun _ => fz .non) q) (obLk q)) ∧ ∀ r, P_C_Link a1 a2 a3 a4 = .exc r → F_C_Link (.obj "Link" []) [eI a1, eS a2, eI a3, eI a4] = .exc (talkE r) := by
  refine runBX_ty (N := 6) (Γ := [.B (.obj "Link" []), .S (eI a1), .S (eS a2), .S (eI a3), .S (eI a4), .U]) (Γn := fun q => [.B (obLk q), .A, .A, .A, .A, .A]) (V := (fun _ => fz .non)) (X := obLk) (tt := t_C_Link) (mm := 4) (n := 6) (d0 := .obj "Link" []) (ds := [eI a1, eS a2, eI a3, eI a4]) (P_C_Link.eq_1 a1 a2 a3 a4) ?_ (fun q => .inr ⟨q, rfl, rfl, rfl⟩)
  exact y_ob fun p1 hp1 =>
  y_ob fun h6 hh6 =>
  y_seq (Γ1 := fun (v7 : Bool) => [.B (.obj "Link" []), .S (eI a1), .S (eS a2), .S (eI a3), .S (eI a4), .S (eB v7)]) (y_asgF (q_sAndO (Ε := [.B (.obj "Link" []), .S (eI a1), .S (eS a2), .S (eI a3), .S (eI a4), .U]) hh6 (q_call (q_o1 (q_ov (q_nmS)) (q_o1 (q_ov q_c) q_o0)) (ok_is_number a1 (2 : Int) hp1)) (fun c hc => (by obtain ⟨h5, hh5, hc⟩ := Option.bind_eq_some_iff.mp hc; cases hc; exact (q_sAndO (Ε := [.B (.obj "Link" []), .S (eI a1), .S (eS a2), .S (eI a3), .S (eI a4), .U]) hh5 (q_prim (q_o1 (q_on) (q_o1 (q_ov (q_tup (q_o1 (q_ov q_c) (q_o1 (q_ov q_c) q_o0)))) q_o0)) (p_inT (e := eS) (xs := [(("row" : Str), ("bag" : Str)).1, (("row" : Str), ("bag" : Str)).2]) eq_S (fun _ => rfl))) (fun c hc => (by obtain ⟨p2, hp2, hc⟩ := Option.bind_eq_some_iff.mp hc; obtain ⟨h4, hh4, hc⟩ := Option.bind_eq_some_iff.mp hc; cases hc; exact (q_sAndO (Ε := [.B (.obj "Link" []), .S (eI a1), .S (eS a2), .S (eI a3), .S (eI a4), .U]) hh4 (q_call (q_o1 (q_ov (q_nmS)) (q_o1 (q_ov q_c) q_o0)) (ok_is_number a3 (2 : Int) hp2)) (fun c hc => (by obtain ⟨p3, hp3, hc⟩ := Option.bind_eq_some_iff.mp hc; cases hc; exact (q_call (q_o1 (q_ov (q_nmS)) (q_o1 (q_ov q_c) q_o0)) (ok_is_number a4 (2 : Int) hp3)))) (by exact Le.refl _)))) (by exact Le.refl _)))) (by exact Le.refl _))) fun v7 =>
  y_guard (q_tOr (q_tNot (q_tVal (q_o1 (q_on) q_o0) rfl)) (q_tAnd (q_tBool (q_prim (q_o1 (q_on) (q_o1 (q_ov q_c) q_o0)) (p_eq (e := eI) eq_I))) (q_tBool (q_primD (q_o1 (q_ov (q_primD (q_o1 (q_on) (q_o1 (q_on) q_o0)) rfl rfl)) (q_o1 (q_ov q_c) q_o0)) rfl rfl)))) (fun _ => y_raise) (fun _ => y_sq (Δ := [.B (.obj "Link" [("capacity", eI a1)]), .S (eI a1), .S (eS a2), .S (eI a3), .S (eI a4), .S (eB v7)]) (y_setF (c := "Link") (fs := []) (q_nmS)) (
  y_sq (Δ := [.B (.obj "Link" [("capacity", eI a1), ("order", eS a2)]), .S (eI a1), .S (eS a2), .S (eI a3), .S (eI a4), .S (eB v7)]) (y_setF (c := "Link") (fs := [("capacity", eI a1)]) (q_nmS)) (
  y_sq (Δ := [.B (.obj "Link" [("capacity", eI a1), ("order", eS a2), ("losses", eI a3)]), .S (eI a1), .S (eS a2), .S (eI a3), .S (eI a4), .S (eB v7)]) (y_setF (c := "Link") (fs := [("capacity", eI a1), ("order", eS a2)]) (q_nmS)) (
  y_setF (c := "Link") (fs := [("capacity", eI a1), ("order", eS a2), ("losses", eI a3)]) (q_nmS) rfl (by simp) rfl (by exact ⟨SP.le_rfl, SP.le_A, SP.le_A, SP.le_A, SP.le_A, SP.le_A, trivial⟩)))))
noncomputable def P_u_law_link_told (a1 : Lk) : Option (Str ⊕ Lk) := St.fo (((St.tr (St.tb (P_C_Link a1.cap a1.ord a1.los a1.dou) fun p2 =>
  .nx p2 : St (Lk) (Str ⊕ Lk)) (fun r => .rt (Sum.inl r : (Str ⊕ Lk)))).bind fun z1 =>
  .rt ((Sum.inr (⟨z1.cap, z1.ord, z1.los, z1.dou⟩ : Lk) : (Str ⊕ Lk)))) : St Unit (Str ⊕ Lk)) (fun _ => none)
theorem ok_u_law_link_told (a1 : Lk) {q : (Str ⊕ Lk)} (hq : P_u_law_link_told a1 = some q) : F_u_law_link_told [encLk a1] = .ok ((fun r => (⟨(eP eS encLk) r, (Sum.isRight r)⟩ : Vl)) q) := by
  refine runF_ty (N := 3) (Γ := [.S (encLk a1), .U, .U]) (Γn := fun _ => [.A, .A, .A]) (V := (fun r => (⟨(eP eS encLk) r, (Sum.isRight r)⟩ : Vl))) hq (P_u_law_link_told.eq_1 a1) ?_ (fun _ => .inl rfl)
  exact y_then (Γ1 := fun (z1 : Lk) => [.S (encLk a1), .U, .O (obLk z1)]) (y_try (y_tb (fun p2 hp2 =>
  y_asgN (q_make (q_o1 (q_ov (q_prim (q_o1 (q_on) (q_o1 (q_ov q_c) q_o0)) (ixL rfl))) (q_o1 (q_ov (q_prim (q_o1 (q_on) (q_o1 (q_ov q_c) q_o0)) (ixL rfl))) (q_o1 (q_ov (q_prim (q_o1 (q_on) (q_o1 (q_ov q_c) q_o0)) (ixL rfl))) (q_o1 (q_ov (q_prim (q_o1 (q_on) (q_o1 (q_ov q_c) q_o0)) (ixL rfl))) q_o0)))) ((ok_C_Link a1.cap a1.ord a1.los a1.dou).1 _ hp2)) (by exact Le.refl _)) (fun r hr => (ye_asg (x_make (q_o1 (q_ov (q_prim (q_o1 (q_on) (q_o1 (q_ov q_c) q_o0)) (ixL rfl))) (q_o1 (q_ov (q_prim (q_o1 (q_on) (q_o1 (q_ov q_c) q_o0)) (ixL rfl))) (q_o1 (q_ov (q_prim (q_o1 (q_on) (q_o1 (q_ov q_c) q_o0)) (ixL rfl))) (q_o1 (q_ov (q_prim (q_o1 (q_on) (q_o1 (q_ov q_c) q_o0)) (ixL rfl))) q_o0)))) ((ok_C_Link a1.cap a1.ord a1.los a1.dou).2 _ hr))))) (fun r => y_reason)) fun z1 =>
  y_ret (q_lst (q_o1 (q_ov (q_prim (q_o1 (q_on) q_o0) (pFld_of rfl rfl))) (q_o1 (q_ov (q_prim (q_o1 (q_on) q_o0) (pFld_of rfl rfl))) (q_o1 (q_ov (q_prim (q_o1 (q_on) q_o0) (pFld_of rfl rfl))) (q_o1 (q_ov (q_prim (q_o1 (q_on) q_o0) (pFld_of rfl rfl))) q_o0)))))
noncomputable def P_u_law_link_told_1 (a1 : Xl) : Option Str := rawS F_u_law_link_told [encXl a1]
theorem ok_u_law_link_told_1 (a1 : Xl) {q : Str} (hq : P_u_law_link_told_1 a1 = some q) : F_u_law_link_told [encXl a1] = .ok ((fun r => (⟨eS r, false⟩ : Vl)) q) := rawS_ok hq
noncomputable def P_u_law_bad_link (bx : Bx) : Option (Xl × Bx) := St.fo (St.ob (P_u_law_draw bx (9 : Int)) fun d1 =>
  St.ob (ixO ([(⟨(eI (3 : Int)), (eS ("row" : Str)), (eI (0 : Int)), (eI (0 : Int))⟩ : Xl), (⟨(eI (-(1 : Int))), (eS ("row" : Str)), (eI (0 : Int)), (eI (0 : Int))⟩ : Xl), (⟨(eI (1 : Int)), (eS ("heap" : Str)), (eI (0 : Int)), (eI (0 : Int))⟩ : Xl), (⟨(eI (1 : Int)), (eS ("row" : Str)), (eI (3 : Int)), (eI (0 : Int))⟩ : Xl), (⟨(eI (1 : Int)), (eS ("bag" : Str)), (eI (0 : Int)), (eI (3 : Int))⟩ : Xl), (⟨(eI (0 : Int)), (eS ("row" : Str)), (eI (1 : Int)), (eI (0 : Int))⟩ : Xl), (⟨(eI (0 : Int)), (eS ("bag" : Str)), (eI (0 : Int)), (eI (1 : Int))⟩ : Xl), (⟨(eB true), (eS ("row" : Str)), (eI (0 : Int)), (eI (0 : Int))⟩ : Xl), (⟨(eI (1 : Int)), (eS ("row" : Str)), (eI (-(1 : Int))), (eI (0 : Int))⟩ : Xl)] : (List Xl)) d1.1) fun h2 =>
  .rt ((h2, d1.2)) : St Bx (Xl × Bx)) (fun b => none)
theorem ok_u_law_bad_link (bx : Bx) {q : (Xl × Bx)} (hq : P_u_law_bad_link bx = some q) : F_u_law_bad_link (encBx bx) [] = .ok ((fun r => (⟨encXl r.1, false⟩ : Vl)) q) ((fun r => encBx r.2) q) := by
  refine runB_ty (N := 1) (Γ := [.B (encBx bx)]) (Γn := fun b => [.B (encBx b)]) (V := (fun r => (⟨encXl r.1, false⟩ : Vl))) (X := (fun r => encBx r.2)) (tt := t_u_law_bad_link) (mm := 0) (n := 1) (d0 := encBx bx) (ds := []) hq (P_u_law_bad_link.eq_1 bx) ?_ (fun _ => .inl rfl)
  exact y_ob fun d1 hd1 =>
  y_ob fun h2 hh2 =>
  y_retB (q_prim (q_o1 (q_ov (q_lst (q_o1 (q_ov (q_lst (q_o1 (q_ov q_c) (q_o1 (q_ov q_c) (q_o1 (q_ov q_c) (q_o1 (q_ov q_c) q_o0)))))) (q_o1 (q_ov (q_lst (q_o1 (q_ov (q_primD (q_o1 (q_ov q_c) q_o0) rfl rfl)) (q_o1 (q_ov q_c) (q_o1 (q_ov q_c) (q_o1 (q_ov q_c) q_o0)))))) (q_o1 (q_ov (q_lst (q_o1 (q_ov q_c) (q_o1 (q_ov q_c) (q_o1 (q_ov q_c) (q_o1 (q_ov q_c) q_o0)))))) (q_o1 (q_ov (q_lst (q_o1 (q_ov q_c) (q_o1 (q_ov q_c) (q_o1 (q_ov q_c) (q_o1 (q_ov q_c) q_o0)))))) (q_o1 (q_ov (q_lst (q_o1 (q_ov q_c) (q_o1 (q_ov q_c) (q_o1 (q_ov q_c) (q_o1 (q_ov q_c) q_o0)))))) (q_o1 (q_ov (q_lst (q_o1 (q_ov q_c) (q_o1 (q_ov q_c) (q_o1 (q_ov q_c) (q_o1 (q_ov q_c) q_o0)))))) (q_o1 (q_ov (q_lst (q_o1 (q_ov q_c) (q_o1 (q_ov q_c) (q_o1 (q_ov q_c) (q_o1 (q_ov q_c) q_o0)))))) (q_o1 (q_ov (q_lst (q_o1 (q_ov q_c) (q_o1 (q_ov q_c) (q_o1 (q_ov q_c) (q_o1 (q_ov q_c) q_o0)))))) (q_o1 (q_ov (q_lst (q_o1 (q_ov q_c) (q_o1 (q_ov q_c) (q_o1 (q_ov (q_primD (q_o1 (q_ov q_c) q_o0) rfl rfl)) (q_o1 (q_ov q_c) q_o0)))))) q_o0))))))))))) (q_o1 (q_ov (q_callBB (q_o1 (q_ov q_c) q_o0) (ok_u_law_draw bx (9 : Int) hd1))) q_o0)) (p_ix (e := encXl) hh2))
noncomputable def P_u_law_at_bounds  : Option Bool := St.fo (St.lt ((⟨([("abcdefgh" : Str), ("b" : Str)] : (List Str)), ([("a" : Str), ("c" : Str), ("zzzzzzzz" : Str)] : (List Str)), (12 : Int), ([((0 : Int), ("!zzzzzzzz" : Str), (11 : Int)), ((0 : Int), ("?abcdefgh" : Str), (0 : Int))] : (List (Int × Str × Int))), ([(0 : Int), (11 : Int)] : (List Int))⟩ : Sv) : Sv) fun v1 =>
  St.ob (P_u_law_service_told v1) fun p2 =>
  St.ob (orO (!decide (p2 = (Sum.inr v1 : (Str ⊕ Sv)))) ((P_u_law_made v1).bind fun p3 => ((P_labels_of p3).bind fun p4 => some (!decide (p4 = ([("!abcdefgh" : Str), ("!b" : Str), ("?a" : Str), ("?c" : Str), ("?zzzzzzzz" : Str)] : (List Str))))))) fun h5 =>
  if h5 = true then
  .rt (false)
else
  St.ob (P_u_law_service_told (⟨([("b" : Str)] : (List Str)), ([("a" : Str), ("c" : Str), ("d" : Str), ("e" : Str)] : (List Str)), (1 : Int), ([] : (List (Int × Str × Int))), ([] : (List Int))⟩ : Sv)) fun p6 =>
  if (!decide (p6 = (Sum.inl ("no service" : Str) : (Str ⊕ Sv)))) = true then
  .rt (false)
else
  St.lt ((⟨(2 : Int), ([((0 : Int), ("!abcdefgh" : Str), (1 : Int)), ((1 : Int), ("?zzzzzzzz" : Str), (0 : Int))] : (List (Int × Str × Int))), ([(1 : Int)] : (List Int))⟩ : Pt) : Pt) fun v7 =>
  St.ob (P_u_law_partner_told v7) fun p8 =>
  St.ob (orO (!decide (p8 = (Sum.inr v7 : (Str ⊕ Pt)))) ((P_u_law_made v1).bind fun p9 => ((P_u_law_mate v7).bind fun p10 => ((P_is_partner_for p9 p10).bind fun p11 => some (!decide (p11 = true)))))) fun h12 =>
  if h12 = true then
  .rt (false)
else
  St.ob (P_u_law_partner_told (⟨(1 : Int), ([((0 : Int), ("!abcdefghi" : Str), (0 : Int))] : (List (Int × Str × Int))), ([] : (List Int))⟩ : Pt)) fun p13 =>
  if (!decide (p13 = (Sum.inl ("no partner" : Str) : (Str ⊕ Pt)))) = true then
  .rt (false)
else
  St.ob (P_u_law_link_told (⟨(2 : Int), ("bag" : Str), (2 : Int), (2 : Int)⟩ : Lk)) fun p14 =>
  if (!decide (p14 = (Sum.inr (⟨(2 : Int), ("bag" : Str), (2 : Int), (2 : Int)⟩ : Lk) : (Str ⊕ Lk)))) = true then
  .rt (false)
else
  St.ob (rangeO 0 (2001 : Int)) fun r15 =>
  St.lt ((r15.map fun (x16 : Int) => ((x16.fdiv (100 : Int)), ("!a" : Str), (x16.fmod (100 : Int)))) : (List (Int × Str × Int))) fun v18 =>
  St.ob (P_u_law_partner_told (⟨(100 : Int), (slI v18 none (some (2000 : Int))), ([(99 : Int)] : (List Int))⟩ : Pt)) fun p19 =>
  if (!decide (p19 = (Sum.inr (⟨(100 : Int), (slI v18 none (some (2000 : Int))), ([(99 : Int)] : (List Int))⟩ : Pt) : (Str ⊕ Pt)))) = true then
  .rt (false)
else
  St.ob (P_u_law_partner_told (⟨(100 : Int), v18, ([] : (List Int))⟩ : Pt)) fun p20 =>
  .rt ((decide (p20 = (Sum.inl ("no partner" : Str) : (Str ⊕ Pt))))) : St Unit Bool) (fun _ => none)
theorem ok_u_law_at_bounds  {q : Bool} (hq : P_u_law_at_bounds  = some q) : F_u_law_at_bounds [] = .ok ((fun r => (⟨eB r, false⟩ : Vl)) q) := by
  refine runF_ty (N := 4) (Γ := [.U, .U, .U, .U]) (Γn := fun _ => [.A, .A, .A, .A]) (V := (fun r => (⟨eB r, false⟩ : Vl))) hq (P_u_law_at_bounds.eq_1 ) ?_ (fun _ => .inl rfl)
  exact y_seq (Γ1 := fun (v1 : Sv) => [.O (encSv v1), .U, .U, .U]) (y_asgN (q_lst (q_o1 (q_ov (q_lst (q_o1 (q_ov q_c) (q_o1 (q_ov q_c) q_o0)))) (q_o1 (q_ov (q_lst (q_o1 (q_ov q_c) (q_o1 (q_ov q_c) (q_o1 (q_ov q_c) q_o0))))) (q_o1 (q_ov q_c) (q_o1 (q_ov (q_lst (q_o1 (q_ov (q_tup (q_o1 (q_ov q_c) (q_o1 (q_ov q_c) (q_o1 (q_ov q_c) q_o0))))) (q_o1 (q_ov (q_tup (q_o1 (q_ov q_c) (q_o1 (q_ov q_c) (q_o1 (q_ov q_c) q_o0))))) q_o0)))) (q_o1 (q_ov (q_lst (q_o1 (q_ov q_c) (q_o1 (q_ov q_c) q_o0)))) q_o0))))))) fun v1 =>
  y_ob fun p2 hp2 =>
  y_ob fun h5 hh5 =>
  y_guard (q_tOrO (Ε := [.S (encSv v1), .U, .U, .U]) hh5 (q_tBool (q_prim (q_o1 (q_ov (q_call (q_o1 (q_ov (q_nmO)) q_o0) (ok_u_law_service_told v1 hp2))) (q_o1 (q_on) q_o0)) (p_ne (e := (eP eS encSv)) (eq_P eq_S eq_Sv (by intro a b; exact ⟨rfl, rfl⟩))))) (fun c hc => (by obtain ⟨p3, hp3, hc⟩ := Option.bind_eq_some_iff.mp hc; obtain ⟨p4, hp4, hc⟩ := Option.bind_eq_some_iff.mp hc; cases hc; exact (q_tBool (q_prim (q_o1 (q_ov (q_call (q_o1 (q_ov (q_call (q_o1 (q_ov (q_nmS)) q_o0) (ok_u_law_made v1 hp3))) q_o0) (ok_labels_of p3 hp4))) (q_o1 (q_ov (q_lst (q_o1 (q_ov q_c) (q_o1 (q_ov q_c) (q_o1 (q_ov q_c) (q_o1 (q_ov q_c) (q_o1 (q_ov q_c) q_o0))))))) q_o0)) (p_ne (e := (eL eS)) (eq_L eq_S)))))) (by exact Le.refl _)) (fun _ => y_ret q_c) (fun _ => y_ob fun p6 hp6 =>
  y_guard (q_tBool (q_prim (q_o1 (q_ov (q_call (q_o1 (q_ov (q_lst (q_o1 (q_ov (q_lst (q_o1 (q_ov q_c) q_o0))) (q_o1 (q_ov (q_lst (q_o1 (q_ov q_c) (q_o1 (q_ov q_c) (q_o1 (q_ov q_c) (q_o1 (q_ov q_c) q_o0)))))) (q_o1 (q_ov q_c) (q_o1 (q_ov (q_lst q_o0)) (q_o1 (q_ov (q_lst q_o0)) q_o0))))))) q_o0) (ok_u_law_service_told (⟨([("b" : Str)] : (List Str)), ([("a" : Str), ("c" : Str), ("d" : Str), ("e" : Str)] : (List Str)), (1 : Int), ([] : (List (Int × Str × Int))), ([] : (List Int))⟩ : Sv) hp6))) (q_o1 (q_ov q_c) q_o0)) (p_ne (e := (eP eS encSv)) (eq_P eq_S eq_Sv (by intro a b; exact ⟨rfl, rfl⟩))))) (fun _ => y_ret q_c) (fun _ => y_seq (Γ1 := fun (v7 : Pt) => [.S (encSv v1), .O (encPt v7), .U, .U]) (y_asgN (q_lst (q_o1 (q_ov q_c) (q_o1 (q_ov (q_lst (q_o1 (q_ov (q_tup (q_o1 (q_ov q_c) (q_o1 (q_ov q_c) (q_o1 (q_ov q_c) q_o0))))) (q_o1 (q_ov (q_tup (q_o1 (q_ov q_c) (q_o1 (q_ov q_c) (q_o1 (q_ov q_c) q_o0))))) q_o0)))) (q_o1 (q_ov (q_lst (q_o1 (q_ov q_c) q_o0))) q_o0))))) fun v7 =>
  y_ob fun p8 hp8 =>
  y_ob fun h12 hh12 =>
  y_guard (q_tOrO (Ε := [.S (encSv v1), .S (encPt v7), .U, .U]) hh12 (q_tBool (q_prim (q_o1 (q_ov (q_call (q_o1 (q_ov (q_nmO)) q_o0) (ok_u_law_partner_told v7 hp8))) (q_o1 (q_on) q_o0)) (p_ne (e := (eP eS encPt)) (eq_P eq_S eq_Pt (by intro a b; exact ⟨rfl, rfl⟩))))) (fun c hc => (by obtain ⟨p9, hp9, hc⟩ := Option.bind_eq_some_iff.mp hc; obtain ⟨p10, hp10, hc⟩ := Option.bind_eq_some_iff.mp hc; obtain ⟨p11, hp11, hc⟩ := Option.bind_eq_some_iff.mp hc; cases hc; exact (q_tBool (q_prim (q_o1 (q_ov (q_call (q_o1 (q_ov (q_call (q_o1 (q_ov (q_nmS)) q_o0) (ok_u_law_made v1 hp9))) (q_o1 (q_ov (q_call (q_o1 (q_ov (q_nmS)) q_o0) (ok_u_law_mate v7 hp10))) q_o0)) (ok_is_partner_for p9 p10 hp11))) (q_o1 (q_ov q_c) q_o0)) p_isnotB)))) (by exact Le.refl _)) (fun _ => y_ret q_c) (fun _ => y_ob fun p13 hp13 =>
  y_guard (q_tBool (q_prim (q_o1 (q_ov (q_call (q_o1 (q_ov (q_lst (q_o1 (q_ov q_c) (q_o1 (q_ov (q_lst (q_o1 (q_ov (q_tup (q_o1 (q_ov q_c) (q_o1 (q_ov q_c) (q_o1 (q_ov q_c) q_o0))))) q_o0))) (q_o1 (q_ov (q_lst q_o0)) q_o0))))) q_o0) (ok_u_law_partner_told (⟨(1 : Int), ([((0 : Int), ("!abcdefghi" : Str), (0 : Int))] : (List (Int × Str × Int))), ([] : (List Int))⟩ : Pt) hp13))) (q_o1 (q_ov q_c) q_o0)) (p_ne (e := (eP eS encPt)) (eq_P eq_S eq_Pt (by intro a b; exact ⟨rfl, rfl⟩))))) (fun _ => y_ret q_c) (fun _ => y_ob fun p14 hp14 =>
  y_guard (q_tBool (q_prim (q_o1 (q_ov (q_call (q_o1 (q_ov (q_lst (q_o1 (q_ov q_c) (q_o1 (q_ov q_c) (q_o1 (q_ov q_c) (q_o1 (q_ov q_c) q_o0)))))) q_o0) (ok_u_law_link_told (⟨(2 : Int), ("bag" : Str), (2 : Int), (2 : Int)⟩ : Lk) hp14))) (q_o1 (q_ov (q_lst (q_o1 (q_ov q_c) (q_o1 (q_ov q_c) (q_o1 (q_ov q_c) (q_o1 (q_ov q_c) q_o0)))))) q_o0)) (p_ne (e := (eP eS encLk)) (eq_P eq_S eq_Lk (by intro a b; exact ⟨rfl, rfl⟩))))) (fun _ => y_ret q_c) (fun _ => y_ob fun r15 hr15 =>
  y_seq (Γ1 := fun (v18 : (List (Int × Str × Int))) => [.S (encSv v1), .S (encPt v7), .O ((eL (eT3 eI eS eI)) v18), .U]) (y_asgN (q_compA (ei := eI) (en := (eT3 eI eS eI)) (fun (x16 : Int) => ((x16.fdiv (100 : Int)), ("!a" : Str), (x16.fmod (100 : Int)))) (q_range1 hr15 (q_o1 (q_ov q_c) q_o0)) trivial rfl rfl (fun (x16 : Int) => [.S (encSv v1), .S (encPt v7), .U, .S (eI x16)]) (fun (x16 : Int) => rfl) (fun (x16 : Int) => (q_ov (q_tup (q_o1 (q_ov (q_primD (q_o1 (q_ov (q_prim (q_o1 (q_on) (q_o1 (q_ov q_c) q_o0)) (pFdiv_int (j := 100) (by decide)))) q_o0) rfl rfl)) (q_o1 (q_ov q_c) (q_o1 (q_ov (q_prim (q_o1 (q_ov (q_primD (q_o1 (q_on) q_o0) rfl rfl)) (q_o1 (q_ov q_c) q_o0)) (pMod_int (j := 100) (by decide)))) q_o0)))))) (fun (x16 : Int) => (by exact Le.refl _)))) fun v18 =>
  y_ob fun p19 hp19 =>
  y_guard (q_tBool (q_prim (q_o1 (q_ov (q_call (q_o1 (q_ov (q_lst (q_o1 (q_ov q_c) (q_o1 (q_ov (q_slice (q_on) q_part0 (q_part1 (q_o1 (q_ov q_c) q_o0)) p_sl)) (q_o1 (q_ov (q_lst (q_o1 (q_ov q_c) q_o0))) q_o0))))) q_o0) (ok_u_law_partner_told (⟨(100 : Int), (slI v18 none (some (2000 : Int))), ([(99 : Int)] : (List Int))⟩ : Pt) hp19))) (q_o1 (q_ov (q_lst (q_o1 (q_ov q_c) (q_o1 (q_ov (q_slice (q_on) q_part0 (q_part1 (q_o1 (q_ov q_c) q_o0)) p_sl)) (q_o1 (q_ov (q_lst (q_o1 (q_ov q_c) q_o0))) q_o0))))) q_o0)) (p_ne (e := (eP eS encPt)) (eq_P eq_S eq_Pt (by intro a b; exact ⟨rfl, rfl⟩))))) (fun _ => y_ret q_c) (fun _ => y_ob fun p20 hp20 =>
  y_ret (q_prim (q_o1 (q_ov (q_call (q_o1 (q_ov (q_lst (q_o1 (q_ov q_c) (q_o1 (q_ov (q_nmO)) (q_o1 (q_ov (q_lst q_o0)) q_o0))))) q_o0) (ok_u_law_partner_told (⟨(100 : Int), v18, ([] : (List Int))⟩ : Pt) hp20))) (q_o1 (q_ov q_c) q_o0)) (p_eq (e := (eP eS encPt)) (eq_P eq_S eq_Pt (by intro a b; exact ⟨rfl, rfl⟩))))))))))
open Classical in
noncomputable def P_u_law_own_lists : Option Bool := if OwnC F_C_Service F_C_Partner t2_u_law_own_lists then some true else none
theorem ok_u_law_own_lists {q : Bool} (hq : P_u_law_own_lists = some q) : F_u_law_own_lists [] = .ok ((fun r => (⟨eB r, false⟩ : Vl)) q) := by
  unfold P_u_law_own_lists at hq
  by_cases h : OwnC F_C_Service F_C_Partner t2_u_law_own_lists
  · rw [if_pos h] at hq
    cases hq
    exact if_pos ⟨rfl, h⟩
  · rw [if_neg h] at hq
    cases hq
noncomputable def P_C_Links (a1 : Lk) (a2 : Lk) : Option Lks := St.fo (.nx (⟨a1, a2⟩ : Lks) : St Lks Lks) (fun q => some q)
theorem ok_C_Links (a1 : Lk) (a2 : Lk) {q : Lks} (hq : P_C_Links a1 a2 = some q) : F_C_Links (.obj "Links" []) [obLk a1, obLk a2] = .ok ((fun _ => fz .non) q) (obLks q) := by
  refine runB_ty (N := 3) (Γ := [.B (.obj "Links" []), .S (obLk a1), .S (obLk a2)]) (Γn := fun q => [.B (obLks q), .A, .A]) (V := (fun _ => fz .non)) (X := obLks) (tt := t_C_Links) (mm := 2) (n := 3) (d0 := .obj "Links" []) (ds := [obLk a1, obLk a2]) hq (P_C_Links.eq_1 a1 a2) ?_ (fun q => .inr ⟨q, rfl, rfl, rfl⟩)
  exact y_sq (Δ := [.B (.obj "Links" [("to_service", obLk a1)]), .S (obLk a1), .S (obLk a2)]) (y_setF (c := "Links") (fs := []) (q_nmS)) (
  y_setF (c := "Links") (fs := [("to_service", obLk a1)]) (q_nmS) rfl (by simp) rfl (by exact ⟨SP.le_rfl, SP.le_A, SP.le_A, trivial⟩))
noncomputable def P_u_law_links (a1 : (Lk × Lk)) : Option Lks := St.fo (St.ob ((P_C_Link a1.1.cap a1.1.ord a1.1.los a1.1.dou).o) fun p1 =>
  St.ob ((P_C_Link a1.2.cap a1.2.ord a1.2.los a1.2.dou).o) fun p2 =>
  St.ob (P_C_Links p1 p2) fun p3 =>
  .rt (p3) : St Unit Lks) (fun _ => none)
theorem ok_u_law_links (a1 : (Lk × Lk)) {q : Lks} (hq : P_u_law_links a1 = some q) : F_u_law_links [(eH2 encLk encLk) a1] = .ok ((fun r => (⟨obLks r, true⟩ : Vl)) q) := by
  refine runF_ty (N := 1) (Γ := [.S ((eH2 encLk encLk) a1)]) (Γn := fun _ => [.A]) (V := (fun r => (⟨obLks r, true⟩ : Vl))) hq (P_u_law_links.eq_1 a1) ?_ (fun _ => .inl rfl)
  exact y_ob fun p1 hp1 =>
  y_ob fun p2 hp2 =>
  y_ob fun p3 hp3 =>
  y_ret (q_make (q_o1 (q_ov (q_make (q_o1 (q_ov (q_prim (q_o1 (q_ov (q_prim (q_o1 (q_on) (q_o1 (q_ov q_c) q_o0)) (ixL rfl))) (q_o1 (q_ov q_c) q_o0)) (ixL rfl))) (q_o1 (q_ov (q_prim (q_o1 (q_ov (q_prim (q_o1 (q_on) (q_o1 (q_ov q_c) q_o0)) (ixL rfl))) (q_o1 (q_ov q_c) q_o0)) (ixL rfl))) (q_o1 (q_ov (q_prim (q_o1 (q_ov (q_prim (q_o1 (q_on) (q_o1 (q_ov q_c) q_o0)) (ixL rfl))) (q_o1 (q_ov q_c) q_o0)) (ixL rfl))) (q_o1 (q_ov (q_prim (q_o1 (q_ov (q_prim (q_o1 (q_on) (q_o1 (q_ov q_c) q_o0)) (ixL rfl))) (q_o1 (q_ov q_c) q_o0)) (ixL rfl))) q_o0)))) ((ok_C_Link a1.1.cap a1.1.ord a1.1.los a1.1.dou).1 _ (T.o_ok hp1)))) (q_o1 (q_ov (q_make (q_o1 (q_ov (q_prim (q_o1 (q_ov (q_prim (q_o1 (q_on) (q_o1 (q_ov q_c) q_o0)) (ixL rfl))) (q_o1 (q_ov q_c) q_o0)) (ixL rfl))) (q_o1 (q_ov (q_prim (q_o1 (q_ov (q_prim (q_o1 (q_on) (q_o1 (q_ov q_c) q_o0)) (ixL rfl))) (q_o1 (q_ov q_c) q_o0)) (ixL rfl))) (q_o1 (q_ov (q_prim (q_o1 (q_ov (q_prim (q_o1 (q_on) (q_o1 (q_ov q_c) q_o0)) (ixL rfl))) (q_o1 (q_ov q_c) q_o0)) (ixL rfl))) (q_o1 (q_ov (q_prim (q_o1 (q_ov (q_prim (q_o1 (q_on) (q_o1 (q_ov q_c) q_o0)) (ixL rfl))) (q_o1 (q_ov q_c) q_o0)) (ixL rfl))) q_o0)))) ((ok_C_Link a1.2.cap a1.2.ord a1.2.los a1.2.dou).1 _ (T.o_ok hp2)))) q_o0)) (ok_C_Links p1 p2 hp3))
noncomputable def P_law (a1 : (List Int)) : Option Bool := St.fo (St.ob (P_u_law_row a1 (0 : Int) (50 : Int)) fun p1 =>
  St.lt ((⟨p1, (0 : Int)⟩ : Bx) : Bx) fun v2 =>
  St.ob (rangeO 0 (4 : Int)) fun r3 =>
  ((forT (fun (s4 : Bx) (x5 : Int) => (St.ob (P_u_law_face s4) fun d6 =>
  St.lt (d6.1 : ((List Str) × (List Str))) fun v7 =>
  St.ob (P_u_law_service d6.2 v7 (4 : Int)) fun d8 =>
  St.lt (d8.1 : Sv) fun v9 =>
  St.ob (P_u_law_service_told (⟨v9.ins, v9.outs, v9.n, v9.rows.reverse, v9.fin⟩ : Sv)) fun p10 =>
  if (!decide (p10 = (Sum.inr v9 : (Str ⊕ Sv)))) = true then
  .rt (false)
else
  St.ob (P_u_law_spoiled d8.2 v9) fun d11 =>
  St.ob (P_u_law_service_told_1 d11.1) fun p12 =>
  if (!decide (p12 = ("no service" : Str))) = true then
  .rt (false)
else
  St.ob (P_u_law_made v9) fun p13 =>
  St.ob (P_labels_of p13) fun p14 =>
  St.ob (P_u_law_labels_1 v9) fun p15 =>
  if (!decide (p14 = p15)) = true then
  .rt (false)
else
  St.ob (P_u_law_partner d11.2 ([("!a" : Str), ("!b" : Str), ("?c" : Str), ("?d" : Str)] : (List Str)) (4 : Int)) fun d16 =>
  St.lt (d16.1 : Pt) fun v17 =>
  St.ob (P_u_law_partner_told (⟨v17.n, v17.rows.reverse, v17.fin⟩ : Pt)) fun p18 =>
  St.ob (if (!decide (p18 = (Sum.inr v17 : (Str ⊕ Pt)))) = true then some (true, d16.2) else ((P_u_law_bad_partner d16.2 v17).bind fun d21 => ((P_u_law_partner_told d21.1).bind fun p22 => some (((!decide (p22 = (Sum.inl ("no partner" : Str) : (Str ⊕ Pt)))) : Bool), (d21.2 : Bx))))) fun k23 =>
  if k23.1 = true then
  .rt (false)
else
  St.ob (compO (fun (x24 : (Int × Str × Int)) => ((P_u_law_labels_1 v9).bind fun p26 => (if (!decide (x24.2.1 ∈ p26)) = true then Option.map some (some (x24 : (Int × Str × Int))) else some none))) v17.rows) fun c27 =>
  St.lt ((decide ((c27.length : Int) = (0 : Int))) : Bool) fun v28 =>
  St.ob (P_u_law_made v9) fun p29 =>
  St.ob (P_u_law_mate v17) fun p30 =>
  St.ob (P_is_partner_for p29 p30) fun p31 =>
  St.lt (p31 : Bool) fun v32 =>
  if ((!true) || (!decide (v32 = v28))) = true then
  .rt (false)
else
  St.ob (P_u_law_link k23.2) fun d33 =>
  St.lt (d33.1 : Lk) fun v34 =>
  St.ob (P_u_law_link_told v34) fun p35 =>
  St.ob (if (!decide (p35 = (Sum.inr v34 : (Str ⊕ Lk)))) = true then some (true, d33.2) else ((P_u_law_bad_link d33.2).bind fun d36 => ((P_u_law_link_told_1 d36.1).bind fun p37 => some (((!decide (p37 = ("no link" : Str))) : Bool), (d36.2 : Bx))))) fun k38 =>
  if k38.1 = true then
  .rt (false)
else
  .nx k38.2 : St (Bx) Bool)) r3 v2).bind fun z39 =>
  St.ob P_u_law_at_bounds fun p40 =>
  St.ob (orO (!p40) (P_u_law_own_lists.bind fun p41 => some (!p41))) fun h42 =>
  if h42 = true then
  .rt (false)
else
  St.lt ([((0 : Int), ("tau" : Str), (0 : Int))] : (List (Int × Str × Int))) fun v43 =>
  St.ob ((P_C_Service ([] : (List Str)) ([] : (List Str)) (1 : Int) v43 ([] : (List Int))).o) fun p44 =>
  St.lt (p44 : Sv) fun v45 =>
  St.ob (pushO v43 ((0 : Int), ("tau" : Str), (0 : Int))) fun l46 =>
  St.ob (P_u_law_links ((⟨(1 : Int), ("row" : Str), (0 : Int), (0 : Int)⟩ : Lk), (⟨(0 : Int), ("bag" : Str), (0 : Int), (0 : Int)⟩ : Lk))) fun p47 =>
  St.lt (p47 : Lks) fun v48 =>
  .rt (((decide (v45.rows = ([((0 : Int), ("tau" : Str), (0 : Int))] : (List (Int × Str × Int))))) && ((decide (v48.ts.cap = (1 : Int))) && (decide (v48.tp.ord = ("bag" : Str))))))) : St Unit Bool) (fun _ => none)
theorem ok_law (a1 : (List Int)) {q : Bool} (hq : P_law a1 = some q) : F_law [eC a1] = .ok ((fun r => (⟨eB r, false⟩ : Vl)) q) := by
  refine runF_ty (N := 13) (Γ := [.S (eC a1), .U, .U, .U, .U, .U, .U, .U, .U, .U, .U, .U, .U]) (Γn := fun _ => [.A, .A, .A, .A, .A, .A, .A, .A, .A, .A, .A, .A, .A]) (V := (fun r => (⟨eB r, false⟩ : Vl))) hq (P_law.eq_1 a1) ?_ (fun _ => .inl rfl)
  exact y_ob fun p1 hp1 =>
  y_seq (Γ1 := fun (v2 : Bx) => [.S (eC a1), .O (encBx v2), .U, .U, .U, .U, .U, .U, .U, .U, .U, .U, .U]) (y_asgN (q_lst (q_o1 (q_ov (q_call (q_o1 (q_ov (q_nmS)) (q_o1 (q_ov q_c) (q_o1 (q_ov q_c) q_o0))) (ok_u_law_row a1 (0 : Int) (50 : Int) hp1))) (q_o1 (q_ov q_c) q_o0)))) fun v2 =>
  y_ob fun r3 hr3 =>
  y_then (Γ1 := fun (z39 : Bx) => [.S (eC a1), .O (encBx z39), .J, .U, .U, .U, .J, .J, .J, .J, .J, .J, .U]) (y_for (ei := eI) (Γn := fun (s4 : Bx) => [.S (eC a1), .O (encBx s4), .J, .U, .U, .U, .J, .J, .J, .J, .J, .J, .U]) (q_range1 hr3 (q_o1 (q_ov q_c) q_o0)) (by exact ⟨SP.le_rfl, SP.le_rfl, SP.le_UJ, SP.le_rfl, SP.le_rfl, SP.le_rfl, SP.le_UJ, SP.le_UJ, SP.le_UJ, SP.le_UJ, SP.le_UJ, SP.le_UJ, SP.le_rfl, trivial⟩) (fun (s4 : Bx) (x5 : Int) => [.S (eC a1), .O (encBx s4), .S (eI x5), .U, .U, .U, .J, .J, .J, .J, .J, .J, .U]) (fun (s4 : Bx) (x5 : Int) => rfl) (fun (s4 : Bx) (x5 : Int) => (by exact (
  y_ob fun d6 hd6 =>
  y_seq (Γ1 := fun (v7 : ((List Str) × (List Str))) => [.S (eC a1), .O (encBx d6.2), .S (eI x5), .U, .U, .U, .O ((eH2 (eL eS) (eL eS)) v7), .J, .J, .J, .J, .J, .U]) (y_asgN (q_callBO q_o0 (ok_u_law_face s4  hd6))) fun v7 =>
  y_ob fun d8 hd8 =>
  y_seq (Γ1 := fun (v9 : Sv) => [.S (eC a1), .O (encBx d8.2), .S (eI x5), .U, .U, .U, .S ((eH2 (eL eS) (eL eS)) v7), .O (encSv v9), .J, .J, .J, .J, .U]) (y_asgN (q_callBO (q_o1 (q_ov (q_nmO)) (q_o1 (q_ov q_c) q_o0)) (ok_u_law_service d6.2 v7 (4 : Int) hd8))) fun v9 =>
  y_ob fun p10 hp10 =>
  y_guard (q_tBool (q_prim (q_o1 (q_ov (q_call (q_o1 (q_ov (q_lst (q_o1 (q_ov (q_primD (q_o1 (q_ov (q_prim (q_o1 (q_on) (q_o1 (q_ov q_c) q_o0)) (ixL rfl))) q_o0) rfl rfl)) (q_o1 (q_ov (q_primD (q_o1 (q_ov (q_prim (q_o1 (q_on) (q_o1 (q_ov q_c) q_o0)) (ixL rfl))) q_o0) rfl rfl)) (q_o1 (q_ov (q_prim (q_o1 (q_on) (q_o1 (q_ov q_c) q_o0)) (ixL rfl))) (q_o1 (q_ov (q_prim (q_o1 (q_ov (q_prim (q_o1 (q_on) (q_o1 (q_ov q_c) q_o0)) (ixL rfl))) q_o0) p_rev)) (q_o1 (q_ov (q_primD (q_o1 (q_ov (q_prim (q_o1 (q_on) (q_o1 (q_ov q_c) q_o0)) (ixL rfl))) q_o0) rfl rfl)) q_o0))))))) q_o0) (ok_u_law_service_told (⟨v9.ins, v9.outs, v9.n, v9.rows.reverse, v9.fin⟩ : Sv) hp10))) (q_o1 (q_on) q_o0)) (p_ne (e := (eP eS encSv)) (eq_P eq_S eq_Sv (by intro a b; exact ⟨rfl, rfl⟩))))) (fun _ => y_ret q_c) (fun _ => y_ob fun d11 hd11 =>
  y_ob fun p12 hp12 =>
  y_guard (q_tBool (q_prim (q_o1 (q_ov (q_call (q_o1 (q_ov (q_callBO (q_o1 (q_ov (q_nmO)) q_o0) (ok_u_law_spoiled d8.2 v9 hd11))) q_o0) (ok_u_law_service_told_1 d11.1 hp12))) (q_o1 (q_ov q_c) q_o0)) (p_ne (e := eS) eq_S))) (fun _ => y_ret q_c) (fun _ => y_ob fun p13 hp13 =>
  y_ob fun p14 hp14 =>
  y_ob fun p15 hp15 =>
  y_guard (q_tBool (q_prim (q_o1 (q_ov (q_call (q_o1 (q_ov (q_call (q_o1 (q_ov (q_nmS)) q_o0) (ok_u_law_made v9 hp13))) q_o0) (ok_labels_of p13 hp14))) (q_o1 (q_ov (q_call (q_o1 (q_ov (q_nmS)) q_o0) (ok_u_law_labels_1 v9 hp15))) q_o0)) (p_ne (e := (eL eS)) (eq_L eq_S)))) (fun _ => y_ret q_c) (fun _ => y_ob fun d16 hd16 =>
  y_seq (Γ1 := fun (v17 : Pt) => [.S (eC a1), .O (encBx d16.2), .S (eI x5), .U, .U, .U, .S ((eH2 (eL eS) (eL eS)) v7), .S (encSv v9), .O (encPt v17), .J, .J, .J, .U]) (y_asgN (q_callBO (q_o1 (q_ov (q_lst (q_o1 (q_ov q_c) (q_o1 (q_ov q_c) (q_o1 (q_ov q_c) (q_o1 (q_ov q_c) q_o0)))))) (q_o1 (q_ov q_c) q_o0)) (ok_u_law_partner d11.2 ([("!a" : Str), ("!b" : Str), ("?c" : Str), ("?d" : Str)] : (List Str)) (4 : Int) hd16))) fun v17 =>
  y_ob fun p18 hp18 =>
  y_ob fun k23 hk23 =>
  y_guard (q_tOrS (fun (sb : Bx) => [.S (eC a1), .O (encBx sb), .S (eI x5), .U, .U, .U, .S ((eH2 (eL eS) (eL eS)) v7), .S (encSv v9), .L (encPt v17), .J, .J, .J, .U]) hk23 (XQ.le (Ε := [.S (eC a1), .O (encBx d16.2), .S (eI x5), .U, .U, .U, .S ((eH2 (eL eS) (eL eS)) v7), .S (encSv v9), .L (encPt v17), .J, .J, .J, .U]) (q_tBool (q_prim (q_o1 (q_ov (q_call (q_o1 (q_ov (q_lst (q_o1 (q_ov (q_prim (q_o1 (q_on) (q_o1 (q_ov q_c) q_o0)) (ixL rfl))) (q_o1 (q_ov (q_prim (q_o1 (q_ov (q_prim (q_o1 (q_on) (q_o1 (q_ov q_c) q_o0)) (ixL rfl))) q_o0) p_rev)) (q_o1 (q_ov (q_prim (q_o1 (q_on) (q_o1 (q_ov q_c) q_o0)) (ixL rfl))) q_o0))))) q_o0) (ok_u_law_partner_told (⟨v17.n, v17.rows.reverse, v17.fin⟩ : Pt) hp18))) (q_o1 (q_on) q_o0)) (p_ne (e := (eP eS encPt)) (eq_P eq_S eq_Pt (by intro a b; exact ⟨rfl, rfl⟩))))) (by exact ⟨SP.le_rfl, SP.le_rfl, SP.le_rfl, SP.le_rfl, SP.le_rfl, SP.le_rfl, SP.le_rfl, SP.le_rfl, SP.le_OL, SP.le_rfl, SP.le_rfl, SP.le_rfl, SP.le_rfl, trivial⟩)) (fun c hc => (by obtain ⟨d21, hd21, hc⟩ := Option.bind_eq_some_iff.mp hc; obtain ⟨p22, hp22, hc⟩ := Option.bind_eq_some_iff.mp hc; cases hc; exact (XQ.le (Ε := [.S (eC a1), .O (encBx d21.2), .S (eI x5), .U, .U, .U, .S ((eH2 (eL eS) (eL eS)) v7), .S (encSv v9), .L (encPt v17), .J, .J, .J, .U]) (q_tBool (q_prim (q_o1 (q_ov (q_call (q_o1 (q_ov (q_callBO (q_o1 (q_ov (q_nmL)) q_o0) (ok_u_law_bad_partner d16.2 v17 hd21))) q_o0) (ok_u_law_partner_told d21.1 hp22))) (q_o1 (q_ov q_c) q_o0)) (p_ne (e := (eP eS encPt)) (eq_P eq_S eq_Pt (by intro a b; exact ⟨rfl, rfl⟩))))) (by exact ⟨SP.le_rfl, SP.le_rfl, SP.le_rfl, SP.le_rfl, SP.le_rfl, SP.le_rfl, SP.le_rfl, SP.le_rfl, SP.le_SL, SP.le_rfl, SP.le_rfl, SP.le_rfl, SP.le_rfl, trivial⟩))))) (fun _ => y_ret q_c) (fun _ => y_ob fun c27 hc27 =>
  y_seq (Γ1 := fun (v28 : Bool) => [.S (eC a1), .O (encBx k23.2), .S (eI x5), .U, .U, .U, .S ((eH2 (eL eS) (eL eS)) v7), .S (encSv v9), .L (encPt v17), .S (eB v28), .J, .J, .U]) (y_asgF (q_prim (q_o1 (q_ov (q_prim (q_o1 (q_ov (q_compO (ei := (eT3 eI eS eI)) (en := (eT3 eI eS eI)) _ hc27 (q_seqL (q_ov (q_prim (q_o1 (q_on) (q_o1 (q_ov q_c) q_o0)) (ixL rfl)))) trivial rfl rfl (fun (x24 : (Int × Str × Int)) => [.S (eC a1), .O (encBx k23.2), .S (eI x5), .U, .U, .U, .S ((eH2 (eL eS) (eL eS)) v7), .S (encSv v9), .L (encPt v17), .J, .J, .J, .S ((eT3 eI eS eI) x24)]) (fun (x24 : (Int × Str × Int)) => rfl) (fun (x24 : (Int × Str × Int)) => (ej0_ob fun p26 hp26 => (ej0_test (q_tBool (q_prim (q_o1 (q_ov (q_prim (q_o1 (q_on) (q_o1 (q_ov q_c) q_o0)) (ixT rfl))) (q_o1 (q_ov (q_call (q_o1 (q_ov (q_nmS)) q_o0) (ok_u_law_labels_1 v9 hp26))) q_o0)) (p_notin (e := eS) eq_S))) (fun y hy => ⟨[.S (eC a1), .O (encBx k23.2), .S (eI x5), .U, .U, .U, .S ((eH2 (eL eS) (eL eS)) v7), .S (encSv v9), .L (encPt v17), .J, .J, .J, .S ((eT3 eI eS eI) x24)], (by cases hy; exact (q_ov (q_nmS))), (by exact Le.refl _)⟩) (by exact Le.refl _)))))) q_o0) p_len)) (q_o1 (q_ov q_c) q_o0)) (p_eq (e := eI) eq_I))) fun v28 =>
  y_ob fun p29 hp29 =>
  y_ob fun p30 hp30 =>
  y_ob fun p31 hp31 =>
  y_seq (Γ1 := fun (v32 : Bool) => [.S (eC a1), .O (encBx k23.2), .S (eI x5), .U, .U, .U, .S ((eH2 (eL eS) (eL eS)) v7), .S (encSv v9), .S (encPt v17), .S (eB v28), .S (eB v32), .J, .U]) (y_asgF (q_call (q_o1 (q_ov (q_call (q_o1 (q_ov (q_nmS)) q_o0) (ok_u_law_made v9 hp29))) (q_o1 (q_ov (q_call (q_o1 (q_ov (q_nmL)) q_o0) (ok_u_law_mate v17 hp30))) q_o0)) (ok_is_partner_for p29 p30 hp31))) fun v32 =>
  y_guard (q_tOr (q_tNot (q_tVal (q_o1 (q_ov (q_primD (q_o1 (q_on) q_o0) rfl rfl)) q_o0) rfl)) (q_tBool (q_prim (q_o1 (q_on) (q_o1 (q_on) q_o0)) (p_ne (e := eB) eq_B)))) (fun _ => y_ret q_c) (fun _ => y_ob fun d33 hd33 =>
  y_seq (Γ1 := fun (v34 : Lk) => [.S (eC a1), .O (encBx d33.2), .S (eI x5), .U, .U, .U, .S ((eH2 (eL eS) (eL eS)) v7), .S (encSv v9), .S (encPt v17), .S (eB v28), .S (eB v32), .O (encLk v34), .U]) (y_asgN (q_callBO q_o0 (ok_u_law_link k23.2  hd33))) fun v34 =>
  y_ob fun p35 hp35 =>
  y_ob fun k38 hk38 =>
  y_if (q_tOrS (fun (sb : Bx) => [.S (eC a1), .O (encBx sb), .S (eI x5), .U, .U, .U, .S ((eH2 (eL eS) (eL eS)) v7), .S (encSv v9), .S (encPt v17), .S (eB v28), .S (eB v32), .S (encLk v34), .U]) hk38 (q_tBool (q_prim (q_o1 (q_ov (q_call (q_o1 (q_ov (q_nmO)) q_o0) (ok_u_law_link_told v34 hp35))) (q_o1 (q_on) q_o0)) (p_ne (e := (eP eS encLk)) (eq_P eq_S eq_Lk (by intro a b; exact ⟨rfl, rfl⟩))))) (fun c hc => (by obtain ⟨d36, hd36, hc⟩ := Option.bind_eq_some_iff.mp hc; obtain ⟨p37, hp37, hc⟩ := Option.bind_eq_some_iff.mp hc; cases hc; exact (q_tBool (q_prim (q_o1 (q_ov (q_call (q_o1 (q_ov (q_callBO q_o0 (ok_u_law_bad_link d33.2  hd36))) q_o0) (ok_u_law_link_told_1 d36.1 hp37))) (q_o1 (q_ov q_c) q_o0)) (p_ne (e := eS) eq_S)))))) (fun _ => y_ret q_c) (fun _ => (y_skip (by exact ⟨SP.le_rfl, SP.le_rfl, SP.le_SJ, SP.le_rfl, SP.le_rfl, SP.le_rfl, SP.le_SJ, SP.le_SJ, SP.le_SJ, SP.le_SJ, SP.le_SJ, SP.le_SJ, SP.le_rfl, trivial⟩)))))))))))) fun z39 =>
  y_ob fun p40 hp40 =>
  y_ob fun h42 hh42 =>
  y_guard (q_tOrO (Ε := [.S (eC a1), .O (encBx z39), .J, .U, .U, .U, .J, .J, .J, .J, .J, .J, .U]) hh42 (q_tNot (q_tVal (q_o1 (q_ov (q_call q_o0 (ok_u_law_at_bounds  hp40))) q_o0) rfl)) (fun c hc => (by obtain ⟨p41, hp41, hc⟩ := Option.bind_eq_some_iff.mp hc; cases hc; exact (q_tNot (q_tVal (q_o1 (q_ov (q_call q_o0 (ok_u_law_own_lists  hp41))) q_o0) rfl)))) (by exact Le.refl _)) (fun _ => y_ret q_c) (fun _ => y_seq (Γ1 := fun (v43 : (List (Int × Str × Int))) => [.S (eC a1), .O (encBx z39), .J, .O ((eL (eT3 eI eS eI)) v43), .U, .U, .J, .J, .J, .J, .J, .J, .U]) (y_asgN (q_lst (q_o1 (q_ov (q_tup (q_o1 (q_ov q_c) (q_o1 (q_ov q_c) (q_o1 (q_ov q_c) q_o0))))) q_o0))) fun v43 =>
  y_ob fun p44 hp44 =>
  y_seq (Γ1 := fun (v45 : Sv) => [.S (eC a1), .O (encBx z39), .J, .O ((eL (eT3 eI eS eI)) v43), .O (obSv v45), .U, .J, .J, .J, .J, .J, .J, .U]) (y_asgN (q_make (q_o1 (q_ov (q_lst q_o0)) (q_o1 (q_ov (q_lst q_o0)) (q_o1 (q_ov q_c) (q_o1 (q_on) (q_o1 (q_ov (q_lst q_o0)) q_o0))))) ((ok_C_Service ([] : (List Str)) ([] : (List Str)) (1 : Int) v43 ([] : (List Int))).1 _ (T.o_ok hp44)))) fun v45 =>
  y_ob fun l46 hl46 =>
  y_sq (Δ := [.S (eC a1), .O (encBx z39), .J, .O ((eL (eT3 eI eS eI)) l46), .O (obSv v45), .U, .J, .J, .J, .J, .J, .J, .U]) (y_drop (q_methO (q_o1 (q_ov (q_tup (q_o1 (q_ov q_c) (q_o1 (q_ov q_c) (q_o1 (q_ov q_c) q_o0))))) q_o0) (p_push (e := (eT3 eI eS eI)) hl46))) (
  y_ob fun p47 hp47 =>
  y_seq (Γ1 := fun (v48 : Lks) => [.S (eC a1), .O (encBx z39), .J, .O ((eL (eT3 eI eS eI)) l46), .O (obSv v45), .O (obLks v48), .J, .J, .J, .J, .J, .J, .U]) (y_asgN (q_call (q_o1 (q_ov (q_lst (q_o1 (q_ov (q_lst (q_o1 (q_ov q_c) (q_o1 (q_ov q_c) (q_o1 (q_ov q_c) (q_o1 (q_ov q_c) q_o0)))))) (q_o1 (q_ov (q_lst (q_o1 (q_ov q_c) (q_o1 (q_ov q_c) (q_o1 (q_ov q_c) (q_o1 (q_ov q_c) q_o0)))))) q_o0)))) q_o0) (ok_u_law_links ((⟨(1 : Int), ("row" : Str), (0 : Int), (0 : Int)⟩ : Lk), (⟨(0 : Int), ("bag" : Str), (0 : Int), (0 : Int)⟩ : Lk)) hp47))) fun v48 =>
  y_ret (q_sAnd (q_prim (q_o1 (q_ov (q_prim (q_o1 (q_on) q_o0) (pFld_of rfl rfl))) (q_o1 (q_ov (q_lst (q_o1 (q_ov (q_tup (q_o1 (q_ov q_c) (q_o1 (q_ov q_c) (q_o1 (q_ov q_c) q_o0))))) q_o0))) q_o0)) (p_eq (e := (eL (eT3 eI eS eI))) (eq_L (eq_T3 eq_I eq_S eq_I)))) (q_sAnd (q_prim (q_o1 (q_ov (q_prim (q_o1 (q_ov (q_prim (q_o1 (q_on) q_o0) (pFld_of rfl rfl))) q_o0) (pFld_of rfl rfl))) (q_o1 (q_ov q_c) q_o0)) (p_eq (e := eI) eq_I)) (q_prim (q_o1 (q_ov (q_prim (q_o1 (q_ov (q_prim (q_o1 (q_on) q_o0) (pFld_of rfl rfl))) q_o0) (pFld_of rfl rfl))) (q_o1 (q_ov q_c) q_o0)) (p_eq (e := eS) eq_S))))))
end Lw
set_option Elab.async false
set_option linter.all false
set_option autoImplicit false
set_option maxRecDepth 100000
set_option maxHeartbeats 1000000
set_option synthInstance.maxSize 4000
set_option synthInstance.maxHeartbeats 400000
namespace Ev
open PySem
section
variable {α : Type} [DecidableEq α]
def dd1 (l : List α) : List α := l.foldl addN []
theorem dd1_mem {l : List α} {x : α} : x ∈ dd1 l ↔ x ∈ l := by unfold dd1; rw [foldN_mem]; simp
theorem foldN_len : ∀ (ys o : List α), (ys.foldl addN o).length ≤ o.length + ys.length
  | [], o => by simp
  | y :: ys, o => by
    rw [List.foldl_cons, List.length_cons]
    have h1 := foldN_len ys (addN o y)
    have h2 : (addN o y).length ≤ o.length + 1 := by
      unfold addN
      split
      · omega
      · simp
    omega
theorem dd1_len (l : List α) : (dd1 l).length ≤ l.length := by
  have := foldN_len l []
  simpa [dd1] using this
theorem dd1_snoc (l : List α) (x : α) : dd1 (l ++ [x]) = addN (dd1 l) x := by unfold dd1; rw [List.foldl_append]; rfl
theorem addN_keys {β : Type} (d : List (α × β)) (k : α) (v : β) : (tdput d k v).map (·.1) = addN (d.map (·.1)) k := by
  by_cases h : k ∈ d.map (·.1)
  · rw [addN_old h]
    have hs := tdget_some.mpr h
    unfold tdput
    rw [if_pos hs, List.map_map]
    refine List.map_congr_left fun q _ => ?_
    simp only [Function.comp]
    split <;> rfl
  · rw [addN_new h, tdput_new h, List.map_append]
    rfl
theorem dict_keys1 {β : Type} (ps : List (α × β)) : (dictOf ps).map (·.1) = dd1 (ps.map (·.1)) := by
  have : ∀ (ps d : List (α × β)), (ps.foldl (fun a q => tdput a q.1 q.2) d).map (·.1) = (ps.map (·.1)).foldl addN (d.map (·.1)) := by
    intro ps
    induction ps with
    | nil => intro d; rfl
    | cons p ps ih => intro d; rw [List.foldl_cons, ih, List.map_cons, List.foldl_cons, addN_keys]
  exact this ps []
theorem dcomp_dd {β : Type} {f : β → α} {xs : List β} (h : xs.length ≤ 1000000) : ∃ d, dcompO (fun _ : β => true) (fun x => some ((f x : α), (true : Bool))) xs = some d ∧ d.map (·.1) = dd1 (xs.map f) := by
  refine ⟨dictOf (xs.map fun x => (f x, true)), ?_, ?_⟩
  · unfold dcompO
    rw [if_pos (by show _ ≤ 16777216; omega)]
    have := compO_map (g := fun x : β => if (fun _ : β => true) x = true then Option.map some ((fun x => some (f x, true)) x) else some none) (f := fun x => (f x, true)) (xs := xs) fun x _ => rfl
    rw [this]
    rfl
  · rw [dict_keys1, List.map_map]
    rfl
end
structure EncE {α : Type} (e : α → D) : Prop where
  inj : ∀ a b, e a = e b → a = b
  pl : ∀ a, plainN 8 (e a) = true
  al : ∀ a b, PySem.W.alike (e a).py (e b).py = true
section
variable {α : Type} [DecidableEq α] {e : α → D}
theorem sort_eq (E : EncE e) {l m : List α} (nl : l.Nodup) (nm : m.Nodup) (h : ∀ x, x ∈ l ↔ x ∈ m) : sortE e l = sortE e m :=
  sortE_unique E.inj E.pl E.al (sortE_nodup.mpr nl) (sortE_nodup.mpr nm) (sortE_pw l) (sortE_pw m) fun x => by rw [sortE_mem, sortE_mem, h]
end
theorem enc_Rw : EncE eRw := ⟨fun a b h => (eq_T3 eq_I eq_S eq_I).inj h, fun a => by simp, fun a b => (so_T3 so_I so_S so_I).al a b⟩
end Ev
set_option Elab.async false
set_option linter.all false
set_option autoImplicit false
set_option maxRecDepth 100000
set_option maxHeartbeats 1000000
set_option synthInstance.maxSize 4000
set_option synthInstance.maxHeartbeats 400000
namespace Ev
open PySem
def labV (v : Sv) : List Str := v.ins.map (("!" : Str) ++ ·) ++ v.outs.map (("?" : Str) ++ ·)
structure LkOk (k : Lk) : Prop where
  cap : 0 ≤ k.cap ∧ k.cap ≤ 2
  ord : k.ord = "row" ∨ k.ord = "bag"
  los : 0 ≤ k.los ∧ k.los ≤ 2
  dou : 0 ≤ k.dou ∧ k.dou ≤ 2
  dir : k.cap = 0 → k.los = 0 ∧ k.dou = 0
structure LksOk (K : Lks) : Prop where
  ts : LkOk K.ts
  tp : LkOk K.tp
structure WOk (v : Sv) (K : Lks) (w : W) : Prop where
  a : ∀ m ∈ w.2.1, m ∈ v.ins
  b : ∀ m ∈ w.2.2.1, m ∈ v.outs
  al : (w.2.1.length : Int) ≤ K.ts.cap
  bl : (w.2.2.1.length : Int) ≤ K.tp.cap
end Ev
set_option Elab.async false
set_option linter.all false
set_option autoImplicit false
set_option maxRecDepth 100000
set_option maxHeartbeats 1000000
namespace Lw
open PySem Ev
def BxI (b : Bx) : Prop := 0 ≤ b.at'
theorem cell_ex (ns : List Int) (k : Int) (h : 0 ≤ k) : ∃ v, P_u_law_cell ns k = some v ∧ True := by
  refine fo_is (is_ite (fun q => ?_) fun _ => is_rt trivial)
  obtain ⟨a, h1, _⟩ := ixO_ex (xs := ns) (i := k) ⟨h, by simpa using q⟩
  exact is_ob h1 (is_rt trivial)
theorem row_ex (ns : List Int) (n : Nat) (hn : n ≤ 63) : ∃ r, P_u_law_row ns 0 (n : Int) = some r ∧ True := by
  refine fo_is (is_lt (is_ob (rangeO_nat (by omega)) (is_bind (N' := fun _ => True) (is_for (fun k (s : List Int) => s.length ≤ 60 * k) (by simp) (fun k x s hx hs => ?_) fun _ _ => trivial) fun s _ => is_rt trivial)))
  have hk : k < n := by
    have := (List.getElem?_eq_some_iff.mp hx).1
    simpa using this
  have hx0 : 0 ≤ x := by
    rw [List.getElem?_map, List.getElem?_range hk] at hx
    simp at hx
    omega
  obtain ⟨c, hc, _⟩ := cell_ex ns x hx0
  refine is_ob hc (is_lt (is_lt (is_ite (fun _ => ?_) fun _ => ?_)))
  · refine is_ob (rangeO_nat (n := 60) (by omega)) (is_bind (N' := fun z : List Int × Int => z.1.length ≤ s.length + 60) (is_for (fun j (z : List Int × Int) => z.1.length ≤ s.length + j) (by simp) (fun j y z hy hz => ?_) fun z hz => by simpa using hz) fun z hz => is_nx (show z.1.length ≤ 60 * (k + 1) by omega))
    have hj : j < 60 := by simpa using (List.getElem?_eq_some_iff.mp hy).1
    refine is_ite (fun _ => ?_) fun _ => is_nx (show z.1.length ≤ _ by omega)
    exact is_ob (pushO_some (by show _ < 16777216; omega)) (is_nx (by simp; omega))
  · refine is_ob (rangeO_nat (n := 10) (by omega)) (is_bind (N' := fun z : List Int × Int => z.1.length ≤ s.length + 10) (is_for (fun j (z : List Int × Int) => z.1.length ≤ s.length + j) (by simp) (fun j y z hy hz => ?_) fun z hz => by simpa using hz) fun z hz => is_nx (show z.1.length ≤ 60 * (k + 1) by omega))
    have hj : j < 10 := by simpa using (List.getElem?_eq_some_iff.mp hy).1
    exact is_lt (is_ob (pushO_some (by show _ < 16777216; omega)) (is_nx (by simp; omega)))
theorem draw_ex (b : Bx) (k : Int) (hb : BxI b) (hk : 0 < k) : ∃ r, P_u_law_draw b k = some r ∧ (0 ≤ r.1 ∧ r.1 < k) ∧ BxI r.2 := by
  have hb' : BxI ⟨b.row, b.at' + 1⟩ := by unfold BxI at hb ⊢; show 0 ≤ b.at' + 1; omega
  have fm : ∀ x : Int, modO x k = some (x.fmod k) := fun x => if_pos (by omega)
  have fr : ∀ x : Int, 0 ≤ x.fmod k ∧ x.fmod k < k := fun x => ⟨Int.fmod_nonneg_of_pos _ hk, Int.fmod_lt_of_pos _ hk⟩
  refine fo_is (is_lt (is_ite (fun q => ?_) fun _ => ?_))
  · obtain ⟨a, h1, _⟩ := ixO_ex (xs := b.row) (i := b.at') ⟨hb, by simpa using q⟩
    exact is_ob h1 (is_ob (fm a) (is_rt ⟨fr a, hb'⟩))
  · exact is_ob (fm _) (is_rt ⟨fr _, hb'⟩)
theorem addS_some {a b : Str} (h : a.length + b.length ≤ 1000) : addS a b = some (a ++ b) := if_pos (by show _ ≤ 16777216; omega)
theorem pre_map (p : Str) (hp : p.length ≤ 100) {l : List Str} (h : ∀ m ∈ l, m.length ≤ 8) : compO (fun (x1 : Str) => Option.map some ((addS p x1).bind fun h3 => some (h3 : Str))) l = some (l.map (p ++ ·)) :=
  compO_map fun x hx => by rw [addS_some (by have := h x hx; omega)]; rfl
def lab (f : List Str × List Str) : List Str := f.1.map (("!" : Str) ++ ·) ++ f.2.map (("?" : Str) ++ ·)
structure FcOk (f : List Str × List Str) : Prop where
  m1 : P_u_are_messages f.1 = some true
  m2 : P_u_are_messages f.2 = some true
  d : ∀ x ∈ f.1, x ∉ f.2
  s1 : ∀ x ∈ f.1, x.length ≤ 8
  s2 : ∀ x ∈ f.2, x.length ≤ 8
  l1 : f.1.length ≤ 3
  l2 : f.2.length ≤ 3
  asc : (lab f).Pairwise fun a b => a.cps.toList < b.cps.toList
  fin : ("final" : Str) ∉ lab f
theorem law_labels_eq {v : Sv} (h : FcOk (v.ins, v.outs)) : P_u_law_labels_1 v = some (lab (v.ins, v.outs)) := by
  refine fo_eq (is_ob (pre_map _ (by decide) h.s1) (is_ob (pre_map _ (by decide) h.s2) (is_ob (addL_some ?_) (is_rt rfl))))
  have h1 : v.ins.length ≤ 3 := h.l1
  have h2 : v.outs.length ≤ 3 := h.l2
  simp only [List.length_map]
  show _ ≤ 16777216
  omega
theorem labels_of_eq {v : Sv} (h : FcOk (v.ins, v.outs)) : P_labels_of v = some (lab (v.ins, v.outs)) := by
  refine fo_eq (is_ob (pre_map _ (by decide) h.s1) (is_ob (pre_map _ (by decide) h.s2) (is_ob (addL_some ?_) (is_rt rfl))))
  have h1 : v.ins.length ≤ 3 := h.l1
  have h2 : v.outs.length ≤ 3 := h.l2
  simp only [List.length_map]
  show _ ≤ 16777216
  omega
noncomputable def fcB (f : List Str × List Str) : Bool :=
  decide (P_u_are_messages f.1 = some true) && (decide (P_u_are_messages f.2 = some true) && (f.1.all (fun x => !decide (x ∈ f.2)) && (f.1.all (fun x => decide (x.length ≤ 8)) && (f.2.all (fun x => decide (x.length ≤ 8)) && (decide (f.1.length ≤ 3) && (decide (f.2.length ≤ 3) && (decide ((lab f).Pairwise fun a b => a.cps.toList < b.cps.toList) && (!decide (("final" : Str) ∈ lab f)))))))))
theorem FcOk.of {f : List Str × List Str} (h : fcB f = true) : FcOk f := by
  unfold fcB at h
  simp only [Bool.and_eq_true, decide_eq_true_eq, List.all_eq_true, Bool.not_eq_true', decide_eq_false_iff_not] at h
  obtain ⟨h1, h2, h3, h4, h5, h6, h7, h8, h9⟩ := h
  exact ⟨h1, h2, h3, h4, h5, h6, h7, h8, h9⟩
end Lw
set_option Elab.async false
set_option linter.all false
set_option autoImplicit false
set_option maxRecDepth 100000
set_option maxHeartbeats 1000000
namespace Lw
open PySem Ev
end Lw
set_option Elab.async false
set_option linter.all false
set_option autoImplicit false
set_option maxRecDepth 100000
set_option maxHeartbeats 1000000
set_option synthInstance.maxSize 4000
set_option synthInstance.maxHeartbeats 400000
namespace Lw
open PySem Ev
structure SvOk (v : Sv) : Prop where
  fc : FcOk (v.ins, v.outs)
  nb : 1 ≤ v.n ∧ v.n ≤ 12
  ln : v.rows.length ≤ 60
  nd : v.rows.Nodup
  rg : ∀ r ∈ v.rows, (0 ≤ r.1 ∧ r.1 < v.n) ∧ 0 ≤ r.2.2 ∧ r.2.2 < v.n
  lb : ∀ r ∈ v.rows, r.2.1 = "tau" ∨ (∃ m ∈ v.ins, r.2.1 = ("?" : Str) ++ m) ∨ ∃ m ∈ v.outs, r.2.1 = ("!" : Str) ++ m
  fr : ∀ f ∈ v.fin, 0 ≤ f ∧ f < v.n
  fa : v.fin.Pairwise fun a b => a < b
  st : v.rows.Pairwise fun a b => leD (eRw a) (eRw b) = true
theorem zipA {α : Type} {R : α → α → Prop} : ∀ {l : List α}, l.Pairwise R → ∀ p ∈ l.zip (l.drop 1), R p.1 p.2
  | [], _, p, hp => by simp at hp
  | [x], _, p, hp => by simp at hp
  | x :: y :: l, h, p, hp => by
    have e : (x :: y :: l).zip ((x :: y :: l).drop 1) = (x, y) :: (y :: l).zip ((y :: l).drop 1) := rfl
    rw [e] at hp
    rcases List.mem_cons.mp hp with rfl | hp
    · exact (List.pairwise_cons.mp h).1 y (.head _)
    · exact zipA (List.pairwise_cons.mp h).2 p hp
theorem ascA {l : List Int} (h : l.Pairwise fun a b => a < b) : P_is_ascending_1 l = some true := by
  refine fo_eq (is_rt ?_)
  rw [slI_drop1, List.all_eq_true]
  exact fun p hp => decide_eq_true (zipA h p hp)
theorem numA {i n : Int} (h : 0 ≤ i ∧ i ≤ n) : P_is_number i n = some true := by
  show some (decide (0 ≤ i) && decide (i ≤ n)) = _
  rw [decide_eq_true h.1, decide_eq_true h.2]; rfl
theorem finA {n : Int} {fin : List Int} (fr : ∀ f ∈ fin, 0 ≤ f ∧ f < n) (fa : fin.Pairwise fun a b => a < b) : P_u_are_final fin n = some true := by
  refine fo_eq (is_ob (v := false) ?_ (is_ite (fun q => by cases q) fun _ => is_ob (ascA fa) (is_rt rfl)))
  rw [compO_map (f := fun _ => true) fun x hx => by rw [numA (by have := fr x hx; omega)]; rfl]
  simp
theorem shapeA {n m k : Int} {rows : List Rw} {fin : List Int} (nb : 1 ≤ n ∧ n ≤ m) (ln : (rows.length : Int) ≤ k ∧ rows.length ≤ 100000) (nd : rows.Nodup) (rg : ∀ r ∈ rows, (0 ≤ r.1 ∧ r.1 < n) ∧ 0 ≤ r.2.2 ∧ r.2.2 < n) (fr : ∀ f ∈ fin, 0 ≤ f ∧ f < n) (fa : fin.Pairwise fun a b => a < b) :
    P_u_is_shape n m rows k fin = some true := by
  have e1 : P_u_are_transitions rows n k = some true := by
    refine fo_eq (is_ite (fun q => ?_) fun _ => is_bind (N' := fun _ => True) (is_for (fun _ _ => True) trivial (fun j r s hr _ => ?_) fun _ _ => trivial) fun s _ => ?_)
    · simp at q; omega
    · obtain ⟨h1, h2⟩ := rg r (List.mem_of_getElem? hr)
      refine is_ite (fun q => by simp at q) fun _ => is_ob (numA (by omega)) (is_ob (v := false) ?_ (is_ite (fun q => by cases q) fun _ => is_nx trivial))
      rw [numA (by omega)]; rfl
    · obtain ⟨d, d1, d2⟩ := dcomp_dd (f := fun x : Rw => x) (xs := rows) (by omega)
      refine is_ob d1 (is_rt ?_)
      have : d.length = rows.length := by
        have h := congrArg List.length d2
        rw [List.length_map, List.map_id'] at h
        rw [h]
        exact Nat.le_antisymm (dd1_len rows) (nodup_le nd fun x hx => dd1_mem.mpr hx)
      rw [this]
      simp
  refine fo_eq (is_ob (numA (by omega)) (is_ite (fun q => ?_) fun _ => is_ob e1 (is_ob (v := true) ?_ (is_rt rfl))))
  · simp at q
    omega
  · rw [finA fr fa]; rfl
theorem service_eq {v : Sv} (h : SvOk v) : P_C_Service v.ins v.outs v.n v.rows v.fin = .ok v := by
  have l1 : v.ins.length ≤ 3 := h.fc.l1
  have l2 : v.outs.length ≤ 3 := h.fc.l2
  have hany : (v.ins.any fun x => decide (x ∈ v.outs)) = false := by
    rw [List.any_eq_false]
    exact fun x hx q => h.fc.d x hx (of_decide_eq_true q)
  refine ft_eq (is_ob h.fc.m1 (is_ob (v := true) ?_ (is_lt (is_lt (is_ob (v := true) ?_ (is_lt (is_ite (fun q => by cases q) fun _ => is_ob (pre_map _ (by decide) h.fc.s1) (is_ob (addL_some ?_) (is_ob (pre_map _ (by decide) h.fc.s2) (is_ob (addL_some ?_) (is_lt (is_ite (fun q => ?_) fun _ => is_nx ?_))))))))))))
  · show ((P_u_are_messages v.outs).bind fun p2 => some p2) = _
    rw [show P_u_are_messages v.outs = some true from h.fc.m2]; rfl
  · show andO (true && !(v.ins.any fun x => decide (x ∈ v.outs))) _ = _
    rw [hany, shapeA ⟨h.nb.1, h.nb.2⟩ ⟨by have := h.ln; omega, by have := h.ln; omega⟩ h.nd h.rg h.fr h.fa]
    rfl
  · simp only [List.length_map, List.length_singleton]
    show _ ≤ 16777216
    omega
  · simp only [List.length_map, List.length_append, List.length_singleton]
    show _ ≤ 16777216
    omega
  · exfalso
    rw [Bool.not_eq_true', List.all_eq_false] at q
    obtain ⟨r, hr, q⟩ := q
    refine q (decide_eq_true ?_)
    rcases h.lb r hr with e | ⟨m, hm, e⟩ | ⟨m, hm, e⟩
    · simp [e]
    · rw [e]; exact List.mem_append_left _ (List.mem_append_right _ (List.mem_map.mpr ⟨m, hm, rfl⟩))
    · rw [e]; exact List.mem_append_right _ (List.mem_map.mpr ⟨m, hm, rfl⟩)
  · rw [sortE_of h.st]
theorem made_eq {v : Sv} (h : SvOk v) : P_u_law_made v = some v := fo_eq (is_ob (T.o_of (service_eq h)) (is_rt rfl))
theorem link_eq {k : Lk} (h : LkOk k) : P_C_Link k.cap k.ord k.los k.dou = .ok k := by
  refine ft_eq (is_ob (numA h.cap) (is_ob (v := true) ?_ (is_lt (is_ite (fun q => ?_) fun _ => is_nx rfl))))
  · have ho : decide (k.ord ∈ [("row" : Str), ("bag" : Str)]) = true := decide_eq_true (by rcases h.ord with e | e <;> simp [e])
    show andO true ((andO (decide (k.ord ∈ [("row" : Str), ("bag" : Str)])) _).bind _) = _
    rw [ho, numA h.los, numA h.dou]
    rfl
  · exfalso
    simp only [Bool.not_true, Bool.false_or, Bool.and_eq_true, decide_eq_true_eq] at q
    obtain ⟨h1, h2⟩ := h.dir q.1
    have := q.2
    omega
theorem links_eq {p : Lk × Lk} (h1 : LkOk p.1) (h2 : LkOk p.2) : P_u_law_links p = some ⟨p.1, p.2⟩ := fo_eq (is_ob (T.o_of (link_eq h1)) (is_ob (T.o_of (link_eq h2)) (is_ob (v := ⟨p.1, p.2⟩) rfl (is_rt rfl))))
theorem z02 : (0 : Int) ≤ 2 := by decide
theorem link_ex (b : Bx) (hb : BxI b) : ∃ r, P_u_law_link b = some r ∧ LkOk r.1 ∧ BxI r.2 := by
  obtain ⟨d, d1, d2, d3⟩ := draw_ex b 3 hb (by decide)
  obtain ⟨e, e1, e2, e3⟩ := draw_ex d.2 2 d3 (by decide)
  obtain ⟨o, o1, o2, _⟩ := ixO_ex (xs := [("row" : Str), ("bag" : Str)]) (i := e.1) ⟨e2.1, by simpa using e2.2⟩
  have ho : o = "row" ∨ o = "bag" := by simpa using o2
  refine fo_is (is_ob d1 (is_lt (is_ob e1 (is_ob o1 (is_lt (is_ite (fun q => is_rt ⟨⟨⟨Int.le_refl 0, z02⟩, ho, ⟨Int.le_refl 0, z02⟩, ⟨Int.le_refl 0, z02⟩, fun _ => ⟨rfl, rfl⟩⟩, e3⟩) fun q => ?_))))))
  have q0 : d.1 ≠ 0 := by simpa using q
  obtain ⟨f, f1, f2, f3⟩ := draw_ex e.2 3 e3 (by decide)
  obtain ⟨x, x1, x2, _⟩ := ixO_ex (xs := [(0 : Int), 0, 1]) (i := f.1) ⟨f2.1, by simpa using f2.2⟩
  obtain ⟨g, g1, g2, g3⟩ := draw_ex f.2 4 f3 (by decide)
  obtain ⟨y, y1, y2, _⟩ := ixO_ex (xs := [(0 : Int), 0, 1, 2]) (i := g.1) ⟨g2.1, by simpa using g2.2⟩
  refine is_ob f1 (is_ob x1 (is_ob g1 (is_ob y1 (is_rt ⟨⟨by show 0 ≤ d.1 ∧ d.1 ≤ 2; omega, ho, ?_, ?_, fun z => absurd z q0⟩, g3⟩))))
  · show 0 ≤ x ∧ x ≤ 2
    simp at x2
    omega
  · show 0 ≤ y ∧ y ≤ 2
    simp at y2
    omega
theorem range_ascA (n : Nat) : ((List.range n).map fun k : Nat => (k : Int)).Pairwise fun a b => a < b := by
  rw [List.pairwise_map]
  exact List.pairwise_lt_range.imp fun h => by omega
theorem service_ex2 (b : Bx) (f : List Str × List Str) (most : Int) (hb : BxI b) (hf : FcOk f) (hm : 0 < most ∧ most ≤ 4) : ∃ r, P_u_law_service b f most = some r ∧ (SvOk r.1 ∧ r.1.ins = f.1 ∧ r.1.outs = f.2 ∧ r.1.n ≤ 4 ∧ r.1.rows.length ≤ 12) ∧ BxI r.2 := by
  have l1 := hf.l1
  have l2 := hf.l2
  obtain ⟨d, d1, d2, d3⟩ := draw_ex b most hb hm.1
  have hw : ∀ x ∈ f.1.map (("?" : Str) ++ ·) ++ f.2.map (("!" : Str) ++ ·) ++ [("tau" : Str)], x = "tau" ∨ (∃ m ∈ f.1, x = ("?" : Str) ++ m) ∨ ∃ m ∈ f.2, x = ("!" : Str) ++ m := fun x hx => by
    rcases List.mem_append.mp hx with hx | hx
    · rcases List.mem_append.mp hx with hx | hx
      · obtain ⟨m, hm, rfl⟩ := List.mem_map.mp hx; exact .inr (.inl ⟨m, hm, rfl⟩)
      · obtain ⟨m, hm, rfl⟩ := List.mem_map.mp hx; exact .inr (.inr ⟨m, hm, rfl⟩)
    · exact .inl (by simpa using hx)
  refine fo_is (is_ob d1 (is_lt (is_ob (pre_map _ (by decide) hf.s1) (is_ob (pre_map _ (by decide) hf.s2) (is_ob (addL_some (by simp only [List.length_map]; show _ ≤ 16777216; omega)) (is_ob (addL_some (by simp only [List.length_map, List.length_append, List.length_singleton]; show _ ≤ 16777216; omega)) (is_lt (is_lt ?_))))))))
  obtain ⟨e, e1, e2, e3⟩ := draw_ex d.2 (3 * (1 + d.1) + 1) d3 (by omega)
  obtain ⟨m, hme⟩ := Int.eq_ofNat_of_zero_le e2.1
  have m12 : m ≤ 12 := by omega
  generalize hws : f.1.map (("?" : Str) ++ ·) ++ f.2.map (("!" : Str) ++ ·) ++ [("tau" : Str)] = ws at hw
  have wpos : 0 < ws.length := by rw [← hws]; simp; omega
  refine is_ob e1 (is_ob (by rw [hme]; exact rangeO_nat (by omega)) ?_)
  refine is_bind (N' := fun z : Bx × List Rw => BxI z.1 ∧ z.2.length ≤ 12 ∧ z.2.Nodup ∧ ∀ r ∈ z.2, (0 ≤ r.1 ∧ r.1 < 1 + d.1) ∧ (0 ≤ r.2.2 ∧ r.2.2 < 1 + d.1) ∧ (r.2.1 = "tau" ∨ (∃ m ∈ f.1, r.2.1 = ("?" : Str) ++ m) ∨ ∃ m ∈ f.2, r.2.1 = ("!" : Str) ++ m))
    (is_for (fun k (z : Bx × List Rw) => BxI z.1 ∧ z.2.length ≤ k ∧ z.2.Nodup ∧ ∀ r ∈ z.2, (0 ≤ r.1 ∧ r.1 < 1 + d.1) ∧ (0 ≤ r.2.2 ∧ r.2.2 < 1 + d.1) ∧ (r.2.1 = "tau" ∨ (∃ m ∈ f.1, r.2.1 = ("?" : Str) ++ m) ∨ ∃ m ∈ f.2, r.2.1 = ("!" : Str) ++ m)) ⟨e3, Nat.zero_le _, by simp, by simp⟩ (fun k x z hx hz => ?_) fun z hz => ⟨hz.1, by have := hz.2.1; simp at this; omega, hz.2.2⟩) fun z hz => ?_
  · obtain ⟨z1, z2, z3, z4⟩ := hz
    have hk : k < m := by simpa using (List.getElem?_eq_some_iff.mp hx).1
    obtain ⟨a, a1, a2, a3⟩ := draw_ex z.1 9 z1 (by decide)
    refine is_ob a1 (is_lt (is_lt (is_bind (N' := fun l : Str => l = "tau" ∨ (∃ m ∈ f.1, l = ("?" : Str) ++ m) ∨ ∃ m ∈ f.2, l = ("!" : Str) ++ m) (is_ite (fun q => ?_) fun _ => is_nx (.inl rfl)) fun l hl => ?_)))
    · have hr : 0 ≤ a.1.fmod (ws.length : Int) ∧ a.1.fmod (ws.length : Int) < (ws.length : Int) := ⟨Int.fmod_nonneg_of_pos _ (by omega), Int.fmod_lt_of_pos _ (by omega)⟩
      obtain ⟨l, h1, h2, _⟩ := ixO_ex hr
      exact is_ob (v := a.1.fmod (ws.length : Int)) (if_pos (by omega)) (is_ob h1 (is_nx (hw l h2)))
    · obtain ⟨g, g1, g2, g3⟩ := draw_ex a.2 (1 + d.1) a3 (by omega)
      obtain ⟨h, h1, h2, h3⟩ := draw_ex g.2 (1 + d.1) g3 (by omega)
      refine is_ob g1 (is_ob h1 (is_lt (is_ite (fun q => is_ob (pushO_some (by show _ < 16777216; omega)) (is_nx ⟨h3, by simp; omega, ?_, ?_⟩)) fun _ => is_nx ⟨h3, (by show z.2.length ≤ k + 1; omega), z3, z4⟩)))
      · have hn : (g.1, l, h.1) ∉ z.2 := by simpa using q
        exact List.nodup_append.mpr ⟨z3, by simp, fun a ha b hb e => by simp at hb; subst hb; subst e; exact hn ha⟩
      · intro r hr
        rcases List.mem_append.mp hr with hr | hr
        · exact z4 r hr
        · rw [List.mem_singleton] at hr
          subst hr
          exact ⟨g2, h2, hl⟩
  · obtain ⟨z1, z2, z3, z4⟩ := hz
    obtain ⟨n, hn⟩ : ∃ n : Nat, 1 + d.1 = n := ⟨(1 + d.1).toNat, by omega⟩
    refine is_ob (by rw [hn]; exact rangeO_nat (by omega)) ?_
    obtain ⟨ys, s', c1, c2, c3⟩ := compS_sub (g := fun (x16 : Int) (s17 : Bx) => ((P_u_law_draw s17 (2 : Int)).bind fun d18 => (if (decide (d18.1 = (0 : Int))) = true then Option.map (fun r => (some r.1, r.2)) (some ((x16 : Int), (d18.2 : Bx))) else some (none, d18.2)))) BxI ((List.range n).map fun k : Nat => (k : Int)) z.1 z1 (fun x _ s hs => by
      obtain ⟨e, e1, e2, e3⟩ := draw_ex s 2 hs (by decide)
      rw [e1]
      by_cases q : e.1 = 0
      · exact ⟨some x, e.2, by simp [q], .inl rfl, e3⟩
      · exact ⟨none, e.2, by simp [q], .inr rfl, e3⟩)
    refine is_ob c1 (is_lt (is_rt ⟨⟨⟨hf, by show 1 ≤ 1 + d.1 ∧ 1 + d.1 ≤ 12; omega, by show (sortE _ z.2).length ≤ 60; rw [sortE_len]; omega, sortE_nodup.mpr z3, fun r hr => ⟨(z4 r (sortE_mem.mp hr)).1, (z4 r (sortE_mem.mp hr)).2.1⟩, fun r hr => (z4 r (sortE_mem.mp hr)).2.2, fun g hg => ?_, List.Pairwise.sublist c2 (range_ascA n), sortE_pw _⟩, rfl, rfl, by show 1 + d.1 ≤ 4; omega, by show (sortE _ z.2).length ≤ 12; rw [sortE_len]; omega⟩, c3⟩))
    obtain ⟨k, hk, rfl⟩ := List.mem_map.mp (c2.subset hg)
    have := List.mem_range.mp hk
    show 0 ≤ (k : Int) ∧ (k : Int) < 1 + d.1
    omega
end Lw
set_option Elab.async false
set_option linter.all false
set_option autoImplicit false
set_option maxRecDepth 100000
set_option maxHeartbeats 1000000
set_option synthInstance.maxSize 4000
set_option synthInstance.maxHeartbeats 400000
namespace Lw
open PySem Ev
structure PtV (v : Sv) (p : Pt) : Prop where
  nb : 1 ≤ p.n ∧ p.n ≤ 100
  ln : p.rows.length ≤ 2000
  rg : ∀ r ∈ p.rows, (0 ≤ r.1 ∧ r.1 < p.n) ∧ 0 ≤ r.2.2 ∧ r.2.2 < p.n
  lb : ∀ r ∈ p.rows, r.2.1 ∈ labV v
structure PtD (ls : List Str) (p : Pt) : Prop where
  nb : 1 ≤ p.n ∧ p.n ≤ 5
  ln : p.rows.length ≤ 16
  nd : p.rows.Nodup
  rg : ∀ r ∈ p.rows, (0 ≤ r.1 ∧ r.1 < p.n) ∧ 0 ≤ r.2.2 ∧ r.2.2 < p.n
  lb : ∀ r ∈ p.rows, r.2.1 ∈ ls
  fr : ∀ f ∈ p.fin, 0 ≤ f ∧ f < p.n
  fa : p.fin.Pairwise fun a b => a < b
  st : p.rows.Pairwise fun a b => leD (eRw a) (eRw b) = true
theorem PtD.v {v : Sv} {p : Pt} (h : PtD (labV v) p) : PtV v p := ⟨by have := h.nb; omega, by have := h.ln; omega, h.rg, h.lb⟩
theorem partA_eq {n : Int} {rows : List Rw} {fin : List Int} (nb : 1 ≤ n ∧ n ≤ 300) (ln : rows.length ≤ 2000) (nd : rows.Nodup) (rg : ∀ r ∈ rows, (0 ≤ r.1 ∧ r.1 < n) ∧ 0 ≤ r.2.2 ∧ r.2.2 < n) (lb : ∀ r ∈ rows, P_is_label r.2.1 = some true) (fr : ∀ f ∈ fin, 0 ≤ f ∧ f < n) (fa : fin.Pairwise fun a b => a < b) :
    P_C_Partner n rows fin = .ok ⟨n, sortE eRw rows, fin⟩ := by
  refine ft_eq (is_ob (shapeA nb ⟨by omega, by omega⟩ nd rg fr fa) (is_lt (is_ob (v := false) ?_ (is_ite (fun q => by cases q) fun _ => is_nx rfl))))
  rw [compO_map (f := fun _ => true) fun x hx => by rw [lb x hx]; rfl]
  simp
theorem partnerA_ex (b : Bx) (ls : List Str) (most : Int) (hb : BxI b) (hm : 0 < most ∧ most ≤ 5) (h6 : ls.length ≤ 6) : ∃ r, P_u_law_partner b ls most = some r ∧ PtD ls r.1 ∧ BxI r.2 := by
  obtain ⟨d, d1, d2, d3⟩ := draw_ex b most hb hm.1
  refine fo_is (is_ob d1 (is_lt (is_lt ?_)))
  obtain ⟨e, e1, e2, e3⟩ := draw_ex d.2 (3 * (1 + d.1) + 1) d3 (by omega)
  obtain ⟨m, hme⟩ := Int.eq_ofNat_of_zero_le e2.1
  have m16 : m ≤ 16 := by omega
  refine is_ob e1 (is_ob (by rw [hme]; exact rangeO_nat (by omega)) ?_)
  refine is_bind (N' := fun z : Bx × List Rw => BxI z.1 ∧ z.2.length ≤ 16 ∧ z.2.Nodup ∧ ∀ r ∈ z.2, (0 ≤ r.1 ∧ r.1 < 1 + d.1) ∧ (0 ≤ r.2.2 ∧ r.2.2 < 1 + d.1) ∧ r.2.1 ∈ ls) (is_for (fun k (z : Bx × List Rw) => BxI z.1 ∧ z.2.length ≤ k ∧ z.2.Nodup ∧ ∀ r ∈ z.2, (0 ≤ r.1 ∧ r.1 < 1 + d.1) ∧ (0 ≤ r.2.2 ∧ r.2.2 < 1 + d.1) ∧ r.2.1 ∈ ls) ⟨e3, Nat.zero_le _, by simp, by simp⟩ (fun k x z hx hz => ?_) fun z hz => ⟨hz.1, by have := hz.2.1; simp at this; omega, hz.2.2⟩) fun z hz => ?_
  · obtain ⟨z1, z2, z3, z4⟩ := hz
    have hk : k < m := by simpa using (List.getElem?_eq_some_iff.mp hx).1
    refine is_ite (fun q => ?_) fun _ => is_nx ⟨z1, (by show z.2.length ≤ k + 1; omega), z3, z4⟩
    have hpos : (0 : Int) < (ls.length : Int) := of_decide_eq_true q
    obtain ⟨f, f1, f2, f3⟩ := draw_ex z.1 (1 + d.1) z1 (by omega)
    obtain ⟨g, g1, g2, g3⟩ := draw_ex f.2 (ls.length : Int) f3 hpos
    obtain ⟨l, l1, l2, _⟩ := ixO_ex (xs := ls) g2
    obtain ⟨w, w1, w2, w3⟩ := draw_ex g.2 (1 + d.1) g3 (by omega)
    refine is_ob f1 (is_ob g1 (is_ob l1 (is_ob w1 (is_lt (is_ite (fun q => is_ob (pushO_some (by show _ < 16777216; omega)) (is_nx ⟨w3, by simp; omega, ?_, ?_⟩)) fun _ => is_nx ⟨w3, (by show z.2.length ≤ k + 1; omega), z3, z4⟩)))))
    · have hn : (f.1, l, w.1) ∉ z.2 := by simpa using q
      exact List.nodup_append.mpr ⟨z3, by simp, fun a ha b hb e => by simp at hb; subst hb; subst e; exact hn ha⟩
    · intro r hr
      rcases List.mem_append.mp hr with hr | hr
      · exact z4 r hr
      · rw [List.mem_singleton] at hr
        subst hr
        exact ⟨f2, w2, l2⟩
  · obtain ⟨z1, z2, z3, z4⟩ := hz
    obtain ⟨n, hn⟩ : ∃ n : Nat, 1 + d.1 = n := ⟨(1 + d.1).toNat, by omega⟩
    refine is_ob (by rw [hn]; exact rangeO_nat (by omega)) ?_
    obtain ⟨ys, s', c1, c2, c3⟩ := compS_sub (g := fun (x16 : Int) (s17 : Bx) => ((P_u_law_draw s17 (2 : Int)).bind fun d18 => (if (decide (d18.1 = (0 : Int))) = true then Option.map (fun r => (some r.1, r.2)) (some ((x16 : Int), (d18.2 : Bx))) else some (none, d18.2)))) BxI ((List.range n).map fun k : Nat => (k : Int)) z.1 z1 (fun x _ s hs => by
      obtain ⟨e, e1, e2, e3⟩ := draw_ex s 2 hs (by decide)
      rw [e1]
      by_cases q : e.1 = 0
      · exact ⟨some x, e.2, by simp [q], .inl rfl, e3⟩
      · exact ⟨none, e.2, by simp [q], .inr rfl, e3⟩)
    refine is_ob c1 (is_rt ⟨⟨by show 1 ≤ 1 + d.1 ∧ 1 + d.1 ≤ 5; omega, by show (sortE _ z.2).length ≤ 16; rw [sortE_len]; omega, sortE_nodup.mpr z3, fun r hr => ⟨(z4 r (sortE_mem.mp hr)).1, (z4 r (sortE_mem.mp hr)).2.1⟩, fun r hr => (z4 r (sortE_mem.mp hr)).2.2, fun f hf => ?_, List.Pairwise.sublist c2 (range_ascA n), sortE_pw _⟩, c3⟩)
    obtain ⟨k, hk, rfl⟩ := List.mem_map.mp (c2.subset hf)
    have := List.mem_range.mp hk
    show 0 ≤ (k : Int) ∧ (k : Int) < 1 + d.1
    omega
end Lw
set_option Elab.async false
set_option linter.all false
set_option autoImplicit false
set_option maxRecDepth 100000
set_option maxHeartbeats 1000000
set_option synthInstance.maxSize 4000
set_option synthInstance.maxHeartbeats 400000
namespace Lw
open PySem Ev
theorem raw_num1 (m : Int) : F_is_number [.bl true, .int m] = .ok (fz (.bl false)) := rfl
theorem raw_num2 (m : Int) : F_is_number [.non, .int m] = .ok (fz (.bl false)) := rfl
theorem raw_msg : F_is_message [.int 5] = .ok (fz (.bl false)) := rfl
theorem raw_msgs : F_u_are_messages [.lst [.int 5]] = .ok (fz (.bl false)) := by
  refine runF_ty (N := 2) (Γ := [.R (.lst [.int 5]), .U]) (Γn := fun _ : Unit => [.A, .A]) (V := (fun r : Bool => (⟨eB r, false⟩ : Vl))) (q := false) (pp := some false) (t := (if ((!true) || false) = true then .rt false else .rt false : St Unit Bool)) (df := fun _ => none) rfl rfl ?_ (fun _ => .inl rfl)
  exact y_guard (q_tOr (q_tNot (q_tVal (q_o1 (q_ov (q_primD (q_o1 (q_on) q_o0) rfl rfl)) q_o0) rfl)) (q_tBool (q_primD (q_o1 (q_ov (q_primD (q_o1 (q_on) q_o0) rfl rfl)) (q_o1 (q_ov q_c) q_o0)) rfl rfl))) (fun _ => y_ret q_c) (fun _ =>
    y_ret (q_sAndO (z := none) (Ε := [.R (.lst [.int 5]), .U]) (a := false) rfl (q_prim (q_o1 (q_ov (q_compO (ei := fun _ : Unit => D.int 5) (en := eB) (xs := [()]) (fun _ => Option.map some (some false)) rfl (q_seqL (q_on)) ⟨rfl, rfl⟩ rfl rfl (fun _ => [.R (.lst [.int 5]), .S (.int 5)]) (fun _ => rfl) (fun _ => (ej0_el (fun y hy => ⟨[.R (.lst [.int 5]), .S (.int 5)], (by cases hy; exact (q_ov (q_call (q_o1 (q_ov (q_nmS)) q_o0) raw_msg))), (by exact Le.refl _)⟩))))) q_o0) p_all) (fun c hc => by cases hc) (by exact Le.refl _)))
theorem raw_final (n : Int) : F_u_are_final [.lst [.non], .int n] = .ok (fz (.bl false)) := by
  refine runF_ty (N := 3) (Γ := [.R (.lst [.non]), .S (.int n), .U]) (Γn := fun _ : Unit => [.A, .A, .A]) (V := (fun r : Bool => (⟨eB r, false⟩ : Vl))) (q := false) (pp := some false) (t := (St.ob (orO (!true) (some (!([false].all id)))) fun h5 => if h5 = true then .rt false else .no : St Unit Bool)) (df := fun _ => none) rfl rfl ?_ (fun _ => .inl rfl)
  exact y_ob fun h5 hh5 => y_guard (q_tOrO (Ε := [.R (.lst [.non]), .S (.int n), .U]) hh5 (q_tNot (q_tVal (q_o1 (q_ov (q_primD (q_o1 (q_on) q_o0) rfl rfl)) q_o0) rfl)) (fun c hc => (by cases hc; exact (q_tNot (q_tVal (q_o1 (q_ov (q_prim (q_o1 (q_ov (q_compO (ei := fun _ : Unit => D.non) (en := eB) (xs := [()]) (fun _ => Option.map some (some false)) rfl (q_seqL (q_on)) ⟨rfl, rfl⟩ rfl rfl (fun _ => [.R (.lst [.non]), .S (.int n), .S .non]) (fun _ => rfl) (fun _ => (ej0_el (fun y hy => ⟨[.R (.lst [.non]), .S (.int n), .S .non], (by cases hy; exact (q_ov (q_call (q_o1 (q_ov (q_nmS)) (q_o1 (q_ov (q_primD (q_o1 (q_on) (q_o1 (q_ov q_c) q_o0)) rfl rfl)) q_o0)) (raw_num2 (n - 1))))), (by exact Le.refl _)⟩))))) q_o0) p_all)) q_o0) rfl)))) (by exact Le.refl _)) (fun _ => y_ret q_c) (fun _ => y_no)
def BadRow (x : D) : Prop := x = .tup [.int 0, .str "tau"] ∨ x = .lst [.int 0, .str "tau", .int 0] ∨ x = .tup [.int 0, .str "tau", .int 0, .int 0]
theorem fits4 {a b c d : D} {e : En} (h : Fits [.R a, .S b, .S c, .S d] e) : e = [.ro a, .sh b, .sh c, .sh d] := by
  match e, h with
  | [w, x, y, z], h =>
    obtain ⟨h1, h2, h3, h4, _⟩ := h
    cases (show w = .ro a from h1)
    cases (show x = .sh b from h2)
    cases (show y = .sh c from h3)
    cases (show z = .sh d from h4)
    rfl
theorem raw_trans (rows : List Rw) {x : D} (hx : BadRow x) (n m : Int) (hl : ((rows.length : Int) + 1 ≤ m)) : F_u_are_transitions [.lst (rows.map eRw ++ [x]), .int n, .int m] = .ok (fz (.bl false)) := by
  have hmap : rows.map eRw ++ [x] = (rows.map some ++ [none]).map fun o : Option Rw => match o with | some r => eRw r | none => x := by simp
  rw [hmap]
  generalize hL : rows.map some ++ [none] = L
  have hlen : (L.length : Int) ≤ m := by rw [← hL]; simp; omega
  have hmem : none ∈ L := by rw [← hL]; simp
  clear hmap hL
  let f : Unit → Option Rw → St Unit Bool := fun _ o => match o with
    | some r => if ((!true) || ((!decide ((3 : Int) = (3 : Int))) || (!true))) = true then .rt (false) else St.ob (P_is_number r.1 (n - (1 : Int))) fun p3 => St.ob (orO (!p3) ((P_is_number r.2.2 (n - (1 : Int))).bind fun p4 => some (!p4))) fun h5 => if h5 = true then .rt (false) else .nx ()
    | none => .rt false
  have hf : forT f L () = .rt false := by
    induction L with
    | nil => simp at hmem
    | cons o L ih =>
      show (f () o).bind (forT f L) = _
      cases o with
      | none => rfl
      | some r =>
        have hm' : none ∈ L := by simpa using hmem
        have ih' := ih (by simp at hlen; omega) hm'
        have hb : f () (some r) = .rt false ∨ f () (some r) = .nx () := by
          have e0 : f () (some r) = (if ((!true) || ((!decide ((3 : Int) = (3 : Int))) || (!true))) = true then .rt (false) else St.ob (P_is_number r.1 (n - (1 : Int))) fun p3 => St.ob (orO (!p3) ((P_is_number r.2.2 (n - (1 : Int))).bind fun p4 => some (!p4))) fun h5 => if h5 = true then .rt (false) else .nx () : St Unit Bool) := rfl
          rw [e0]
          rw [show P_is_number r.1 (n - 1) = some (decide (0 ≤ r.1) && decide (r.1 ≤ n - 1)) from rfl, show P_is_number r.2.2 (n - 1) = some (decide (0 ≤ r.2.2) && decide (r.2.2 ≤ n - 1)) from rfl]
          cases (decide (0 ≤ r.1) && decide (r.1 ≤ n - 1)) with
          | false => exact .inl rfl
          | true =>
            cases (decide (0 ≤ r.2.2) && decide (r.2.2 ≤ n - 1)) with
            | false => exact .inl rfl
            | true => exact .inr rfl
        rcases hb with e | e
        · rw [e]; rfl
        · rw [e]; exact ih'
  refine runF_ty (N := 4) (Γ := [.R (.lst (L.map fun o : Option Rw => match o with | some r => eRw r | none => x)), .S (.int n), .S (.int m), .U]) (Γn := fun _ : Unit => [.A, .A, .A, .A]) (V := (fun r : Bool => (⟨eB r, false⟩ : Vl))) (q := false) (pp := some false)
    (t := (if ((!true) || (decide (m < (L.length : Int)))) = true then .rt (false) else ((forT f L ()).bind fun z6 => .no) : St Unit Bool)) (df := fun _ => none) rfl ?_ ?_ (fun _ => .inl rfl)
  · have : decide (m < (L.length : Int)) = false := by simp; omega
    rw [this, hf]
    rfl
  exact y_guard (q_tOr (q_tNot (q_tVal (q_o1 (q_ov (q_primD (q_o1 (q_on) q_o0) rfl rfl)) q_o0) rfl)) (q_tBool (q_primD (q_o1 (q_ov (q_prim (q_o1 (q_on) q_o0) p_len)) (q_o1 (q_on) q_o0)) rfl rfl))) (fun _ => y_ret q_c) (fun _ => y_then (Γ1 := fun (z6 : Unit) => [.R (.lst (L.map fun o : Option Rw => match o with | some r => eRw r | none => x)), .S (eI n), .S (eI m), .J]) (y_forR (ei := fun o : Option Rw => match o with | some r => eRw r | none => x) (Γn := fun (s1 : Unit) => [.R (.lst (L.map fun o : Option Rw => match o with | some r => eRw r | none => x)), .S (eI n), .S (eI m), .J]) rfl (by exact ⟨SP.le_rfl, SP.le_rfl, SP.le_rfl, SP.le_UJ, trivial⟩) (fun (s1 : Unit) (o : Option Rw) => [.R (.lst (L.map fun o : Option Rw => match o with | some r => eRw r | none => x)), .S (eI n), .S (eI m), .S (match o with | some r => eRw r | none => x)]) (fun _ _ => rfl) (fun s1 o => by
    cases o with
    | none =>
      intro e he
      rw [fits4 he]
      rcases hx with rfl | rfl | rfl
      · exact ⟨_, _, rfl, rfl⟩
      · exact ⟨_, _, rfl, rfl⟩
      · exact ⟨_, _, rfl, rfl⟩
    | some x2 =>
      exact y_guard (q_tOr (q_tNot (q_tVal (q_o1 (q_ov (q_primD (q_o1 (q_on) q_o0) rfl rfl)) q_o0) rfl)) (q_tOr (q_tBool (q_prim (q_o1 (q_ov (q_primD (q_o1 (q_on) q_o0) rfl rfl)) (q_o1 (q_ov q_c) q_o0)) (p_ne (e := eI) eq_I))) (q_tNot (q_tVal (q_o1 (q_ov (q_primD (q_o1 (q_ov (q_prim (q_o1 (q_on) (q_o1 (q_ov q_c) q_o0)) (ixT rfl))) q_o0) rfl rfl)) q_o0) rfl)))) (fun _ => y_ret q_c) (fun _ => y_ob fun p3 hp3 =>
        y_ob fun h5 hh5 =>
        y_if (q_tOrO (Ε := [.R (.lst (L.map fun o : Option Rw => match o with | some r => eRw r | none => x)), .S (eI n), .S (eI m), .S ((eT3 eI eS eI) x2)]) hh5 (q_tNot (q_tVal (q_o1 (q_ov (q_call (q_o1 (q_ov (q_prim (q_o1 (q_on) (q_o1 (q_ov q_c) q_o0)) (ixT rfl))) (q_o1 (q_ov (q_primD (q_o1 (q_on) (q_o1 (q_ov q_c) q_o0)) rfl rfl)) q_o0)) (ok_is_number x2.1 (n - (1 : Int)) hp3))) q_o0) rfl)) (fun c hc => (by obtain ⟨p4, hp4, hc⟩ := Option.bind_eq_some_iff.mp hc; cases hc; exact (q_tNot (q_tVal (q_o1 (q_ov (q_call (q_o1 (q_ov (q_prim (q_o1 (q_on) (q_o1 (q_ov q_c) q_o0)) (ixT rfl))) (q_o1 (q_ov (q_primD (q_o1 (q_on) (q_o1 (q_ov q_c) q_o0)) rfl rfl)) q_o0)) (ok_is_number x2.2.2 (n - (1 : Int)) hp4))) q_o0) rfl)))) (by exact Le.refl _)) (fun _ => y_ret q_c) (fun _ => (y_skip (by exact ⟨SP.le_rfl, SP.le_rfl, SP.le_rfl, SP.le_SJ, trivial⟩))))))
    fun z6 => y_no)
end Lw
set_option Elab.async false
set_option linter.all false
set_option autoImplicit false
set_option maxRecDepth 100000
set_option maxHeartbeats 1000000
set_option synthInstance.maxSize 4000
set_option synthInstance.maxHeartbeats 400000
namespace Lw
open PySem Ev
theorem raw_shape1 {x : D} {d e : D} {m k : Int} (h : F_is_number [x, .int m] = .ok (fz (.bl false))) (hx : x.isObj = false) : F_u_is_shape [x, .int m, d, .int k, e] = .ok (fz (.bl false)) := by
  refine runF_ty (N := 5) (Γ := [.S x, .S (eI m), .R d, .S (eI k), .R e]) (Γn := fun _ : Unit => [.A, .A, .A, .A, .A]) (V := (fun r : Bool => (⟨eB r, false⟩ : Vl))) (q := false) (pp := some false) (t := (St.ob (orO (!false) none) fun h5 => if h5 = true then .rt false else .no : St Unit Bool)) (df := fun _ => none) rfl rfl ?_ (fun _ => .inl rfl)
  exact y_ob fun h5 hh5 => y_guard (q_tOrO (Ε := [.S x, .S (eI m), .R d, .S (eI k), .R e]) hh5 (q_tNot (q_tVal (q_o1 (q_ov (q_call (q_o1 (q_ov (q_nmS)) (q_o1 (q_ov (q_nmS)) q_o0)) h)) q_o0) rfl)) (fun c hc => by cases hc) (by exact Le.refl _)) (fun _ => y_ret q_c) (fun _ => y_no)
theorem raw_shape2 {n : Int} {d e : D} {m k : Int} {t f : Bool} (ht : F_u_are_transitions [d, .int n, .int k] = .ok (fz (.bl t))) (hf : t = true → F_u_are_final [e, .int n] = .ok (fz (.bl f))) (hn : 0 ≤ n ∧ n ≤ m ∧ 1 ≤ n) (hb : (t && f) = false) : F_u_is_shape [.int n, .int m, d, .int k, e] = .ok (fz (.bl false)) := by
  have hp : P_is_number n m = some true := numA ⟨hn.1, hn.2.1⟩
  refine runF_ty (N := 5) (Γ := [.S (eI n), .S (eI m), .R d, .S (eI k), .R e]) (Γn := fun _ : Unit => [.A, .A, .A, .A, .A]) (V := (fun r : Bool => (⟨eB r, false⟩ : Vl))) (q := false) (pp := some false)
    (t := (if ((!true) || (decide (n < (1 : Int)))) = true then .rt false else St.ob (andO t (if t = true then some f else none)) fun h4 => .rt h4 : St Unit Bool)) (df := fun _ => none) rfl ?_ ?_ (fun _ => .inl rfl)
  · have : decide (n < 1) = false := by simp; omega
    rw [this]
    cases t with
    | false => rfl
    | true =>
      have : f = false := hb
      rw [this]
      rfl
  exact y_guard (q_tOr (q_tNot (q_tVal (q_o1 (q_ov (q_call (q_o1 (q_ov (q_nmS)) (q_o1 (q_ov (q_nmS)) q_o0)) (ok_is_number n m hp))) q_o0) rfl)) (q_tBool (q_primD (q_o1 (q_on) (q_o1 (q_ov q_c) q_o0)) rfl rfl))) (fun _ => y_ret q_c) (fun _ =>
    y_ob fun h4 hh4 => y_ret (q_sAndO (Ε := [.S (eI n), .S (eI m), .R d, .S (eI k), .R e]) hh4 (q_call (q_o1 (q_on) (q_o1 (q_ov (q_nmS)) (q_o1 (q_ov (q_nmS)) q_o0))) ht) (fun c hc => (by
      cases t with
      | false => cases hc
      | true => cases hc; exact (q_call (q_o1 (q_on) (q_o1 (q_ov (q_nmS)) q_o0)) (hf rfl)))) (by exact Le.refl _)))
abbrev gSv (a b c d e : D) : Ga := [.B (.obj "Service" []), .R a, .R b, .S c, .R d, .R e, .U, .U, .U, .U, .U, .U]
abbrev gSv2 (a b c d e : D) (v : Bool) : Ga := [.B (.obj "Service" []), .R a, .R b, .S c, .R d, .R e, .S (eB v), .U, .U, .U, .U, .U]
theorem raw_sv1 {a b c d e : D} (h : F_u_are_messages [a] = .ok (fz (.bl false))) (hk : lentOk [true, true, false, true, true] [a, b, c, d, e] = true) : F_C_Service (.obj "Service" []) [a, b, c, d, e] = .exc (talkE "no service") := by
  refine (runBM_ty (σ := Sv) (ρ := Sv) (N := 12) (Γ := gSv a b c d e) (Γn := fun q => [.B (obSv q), .A, .A, .A, .A, .A, .A, .A, .A, .A, .A, .A]) (V := (fun _ => fz .non)) (X := obSv) (tt := t_C_Service) (modes := [true, true, false, true, true]) (n := 12) (d0 := .obj "Service" []) (ds := [a, b, c, d, e]) (pp := .exc "no service")
    (t := St.ob (andO false none) fun h3 => St.lt (h3 : Bool) fun v4 => St.ob (andO v4 none) fun h6 => St.lt (h6 : Bool) fun v7 => St.ob (andO v7 none) fun h9 => St.lt (h9 : Bool) fun v10 => if (!v10) = true then .exc "no service" else .no) (dt := fun q => .ok q) rfl ?_ (fun q => .inr ⟨q, rfl, rfl, rfl⟩) rfl ⟨rfl, rfl, hk⟩).2 _ rfl
  exact y_ob fun h3 hh3 =>
    y_seq (Γ1 := fun v => gSv2 a b c d e v) (y_asgF (q_sAndO (Ε := gSv a b c d e) hh3 (q_call (q_o1 (q_on) q_o0) h) (fun c hc => (by cases hc)) (by exact Le.refl _))) fun v4 =>
    y_ob fun h6 hh6 =>
    y_seq (Γ1 := fun v => gSv2 a b c d e v) (y_asgF (q_sAndO (Ε := gSv2 a b c d e v4) hh6 (q_nmS) (fun c hc => (by cases hc)) (by exact Le.refl _))) fun v7 =>
    y_ob fun h9 hh9 =>
    y_seq (Γ1 := fun v => gSv2 a b c d e v) (y_asgF (q_sAndO (Ε := gSv2 a b c d e v7) hh9 (q_nmS) (fun c hc => (by cases hc)) (by exact Le.refl _))) fun v10 =>
    y_guard (q_tNot (q_tVal (q_o1 (q_on) q_o0) rfl)) (fun _ => y_raise) (fun _ => y_no)
theorem raw_sv2 {a1 a2 : List Str} {c d e : D} (h1 : P_u_are_messages a1 = some true) (h2 : P_u_are_messages a2 = some true) (h3 : F_u_is_shape [c, .int 12, d, .int 60, e] = .ok (fz (.bl false))) (hk : lentOk [true, true, false, true, true] [eL eS a1, eL eS a2, c, d, e] = true) : F_C_Service (.obj "Service" []) [eL eS a1, eL eS a2, c, d, e] = .exc (talkE "no service") := by
  have hpp : ∀ w : Bool, (St.ob (andO true (some true)) fun h3 => St.lt (h3 : Bool) fun v4 => St.lt ((v4 && (!w)) : Bool) fun v7 => St.ob (andO v7 (some false)) fun h9 => St.lt (h9 : Bool) fun v10 => if (!v10) = true then .exc "no service" else .no : St Sv Sv) = .exc "no service" := fun w => by cases w <;> rfl
  refine (runBM_ty (σ := Sv) (ρ := Sv) (N := 12) (Γ := gSv (eL eS a1) (eL eS a2) c d e) (Γn := fun q => [.B (obSv q), .A, .A, .A, .A, .A, .A, .A, .A, .A, .A, .A]) (V := (fun _ => fz .non)) (X := obSv) (tt := t_C_Service) (modes := [true, true, false, true, true]) (n := 12) (d0 := .obj "Service" []) (ds := [eL eS a1, eL eS a2, c, d, e]) (pp := .exc "no service")
    (t := St.ob (andO true (some true)) fun h3 => St.lt (h3 : Bool) fun v4 => St.lt ((v4 && (!(a1.any fun (x5 : Str) => (decide (x5 ∈ a2))))) : Bool) fun v7 => St.ob (andO v7 (some false)) fun h9 => St.lt (h9 : Bool) fun v10 => if (!v10) = true then .exc "no service" else .no) (dt := fun q => .ok q) ?_ ?_ (fun q => .inr ⟨q, rfl, rfl, rfl⟩) rfl ⟨rfl, rfl, hk⟩).2 _ rfl
  · rw [hpp]; rfl
  exact y_ob fun h3' hh3 =>
    y_seq (Γ1 := fun v => gSv2 (eL eS a1) (eL eS a2) c d e v) (y_asgF (q_sAndO (Ε := gSv (eL eS a1) (eL eS a2) c d e) hh3 (q_call (q_o1 (q_on) q_o0) (ok_u_are_messages a1 h1)) (fun c hc => (by cases hc; exact (q_call (q_o1 (q_on) q_o0) (ok_u_are_messages a2 h2)))) (by exact Le.refl _))) fun v4 =>
    y_seq (Γ1 := fun v => gSv2 (eL eS a1) (eL eS a2) c d e v) (y_asgF (q_sAnd (q_nmS) (q_sNot (q_tVal (q_o1 (q_ov (q_prim (q_o1 (q_ov (q_compA (ei := eS) (en := eB) (fun (x5 : Str) => (decide (x5 ∈ a2))) (q_seqL (q_on)) ⟨rfl, rfl⟩ rfl rfl (fun (x5 : Str) => [.B (.obj "Service" []), .R ((eL eS) a1), .R ((eL eS) a2), .S c, .R d, .R e, .S (eB v4), .U, .S (eS x5), .U, .U, .U]) (fun (x5 : Str) => rfl) (fun (x5 : Str) => (q_ov (q_prim (q_o1 (q_on) (q_o1 (q_on) q_o0)) (p_in (e := eS) eq_S)))) (fun (x5 : Str) => (by exact Le.refl _)))) q_o0) p_anyA)) q_o0) rfl)))) fun v7 =>
    y_ob fun h9 hh9 =>
    y_seq (Γ1 := fun v => gSv2 (eL eS a1) (eL eS a2) c d e v) (y_asgF (q_sAndO (Ε := gSv2 (eL eS a1) (eL eS a2) c d e v7) hh9 (q_nmS) (fun c hc => (by cases hc; exact (q_call (q_o1 (q_ov (q_nmS)) (q_o1 (q_ov q_c) (q_o1 (q_on) (q_o1 (q_ov q_c) (q_o1 (q_on) q_o0))))) h3))) (by exact Le.refl _))) fun v10 =>
    y_guard (q_tNot (q_tVal (q_o1 (q_on) q_o0) rfl)) (fun _ => y_raise) (fun _ => y_no)
theorem raw_told {x : Xv} (h : F_C_Service (.obj "Service" []) [x.a, x.b, x.c, x.d, x.e] = .exc (talkE "no service")) : P_u_law_service_told_1 x = some ("no service" : Str) := by
  have e : F_u_law_service_told [encXv x] = .ok (fz (.str "no service")) := by
    refine runF_ty (N := 3) (σ := Unit) (ρ := Str) (Γ := [.S (encXv x), .U, .U]) (Γn := fun _ => [.A, .A, .A]) (V := (fun r => (⟨eS r, false⟩ : Vl))) (q := "no service") (pp := some "no service")
      (t := ((St.tr (St.tb (.exc "no service" : T Unit) fun p2 => .no : St Unit Str) (fun r => .rt r)).bind fun z1 => .no)) (df := fun _ => none) rfl rfl ?_ (fun _ => .inl rfl)
    exact y_then (Γ1 := fun (z1 : Unit) => [.A, .A, .A]) (y_try (y_tb (fun p2 hp2 => y_no) (fun r hr => (by
      have : r = "no service" := by cases hr; rfl
      subst this
      exact (ye_asg (x_make (q_o1 (q_ov (q_prim (q_o1 (q_on) (q_o1 (q_ov q_c) q_o0)) (ixL rfl))) (q_o1 (q_ov (q_prim (q_o1 (q_on) (q_o1 (q_ov q_c) q_o0)) (ixL rfl))) (q_o1 (q_ov (q_prim (q_o1 (q_on) (q_o1 (q_ov q_c) q_o0)) (ixL rfl))) (q_o1 (q_ov (q_prim (q_o1 (q_on) (q_o1 (q_ov q_c) q_o0)) (ixL rfl))) (q_o1 (q_ov (q_prim (q_o1 (q_on) (q_o1 (q_ov q_c) q_o0)) (ixL rfl))) q_o0))))) h))))) (fun r => y_reason)) fun z1 => y_no
  unfold P_u_law_service_told_1 rawS
  rw [e]
theorem typed_told {x : Xv} {v : Sv} (e : encXv x = encSv v) (h : P_C_Service v.ins v.outs v.n v.rows v.fin = .exc "no service") : P_u_law_service_told_1 x = some ("no service" : Str) := by
  have h1 : P_u_law_service_told v = some (.inl "no service") := by
    unfold P_u_law_service_told
    rw [h]
    rfl
  have h2 := ok_u_law_service_told v h1
  unfold P_u_law_service_told_1 rawS
  rw [e, h2]
  rfl
theorem raw_link : P_u_law_link_told_1 ⟨.bl true, .str "row", .int 0, .int 0⟩ = some ("no link" : Str) := by
  have h : F_C_Link (.obj "Link" []) [.bl true, .str "row", .int 0, .int 0] = .exc (talkE "no link") := by
    refine (runBX_ty (σ := Lk) (ρ := Lk) (N := 6) (Γ := [.B (.obj "Link" []), .S (.bl true), .S (.str "row"), .S (.int 0), .S (.int 0), .U]) (Γn := fun q => [.B (obLk q), .A, .A, .A, .A, .A]) (V := (fun _ => fz .non)) (X := obLk) (tt := t_C_Link) (mm := 4) (n := 6) (d0 := .obj "Link" []) (ds := [.bl true, .str "row", .int 0, .int 0]) (pp := .exc "no link")
      (t := St.ob (andO false none) fun h3 => St.lt (h3 : Bool) fun v4 => St.ob (orO (!v4) none) fun h6 => if h6 = true then .exc "no link" else .no) (dt := fun q => .ok q) rfl ?_ (fun q => .inr ⟨q, rfl, rfl, rfl⟩)).2 _ rfl
    exact y_ob fun h3 hh3 =>
      y_seq (Γ1 := fun (v : Bool) => [.B (.obj "Link" []), .S (.bl true), .S (.str "row"), .S (.int 0), .S (.int 0), .S (eB v)]) (y_asgF (q_sAndO (Ε := [.B (.obj "Link" []), .S (.bl true), .S (.str "row"), .S (.int 0), .S (.int 0), .U]) hh3 (q_call (q_o1 (q_ov (q_nmS)) (q_o1 (q_ov q_c) q_o0)) (raw_num1 2)) (fun c hc => by cases hc) (by exact Le.refl _))) fun v4 =>
      y_ob fun h6 hh6 =>
      y_guard (q_tOrO (Ε := [.B (.obj "Link" []), .S (.bl true), .S (.str "row"), .S (.int 0), .S (.int 0), .S (eB v4)]) hh6 (q_tNot (q_tVal (q_o1 (q_on) q_o0) rfl)) (fun c hc => by cases hc) (by exact Le.refl _)) (fun _ => y_raise) (fun _ => y_no)
  have e : F_u_law_link_told [encXl ⟨.bl true, .str "row", .int 0, .int 0⟩] = .ok (fz (.str "no link")) := by
    refine runF_ty (N := 3) (σ := Unit) (ρ := Str) (Γ := [.S (encXl ⟨.bl true, .str "row", .int 0, .int 0⟩), .U, .U]) (Γn := fun _ => [.A, .A, .A]) (V := (fun r => (⟨eS r, false⟩ : Vl))) (q := "no link") (pp := some "no link")
      (t := ((St.tr (St.tb (.exc "no link" : T Unit) fun p2 => .no : St Unit Str) (fun r => .rt r)).bind fun z1 => .no)) (df := fun _ => none) rfl rfl ?_ (fun _ => .inl rfl)
    exact y_then (Γ1 := fun (z1 : Unit) => [.A, .A, .A]) (y_try (y_tb (fun p2 hp2 => y_no) (fun r hr => (by
      have : r = "no link" := by cases hr; rfl
      subst this
      exact (ye_asg (x_make (q_o1 (q_ov (q_prim (q_o1 (q_on) (q_o1 (q_ov q_c) q_o0)) (ixL rfl))) (q_o1 (q_ov (q_prim (q_o1 (q_on) (q_o1 (q_ov q_c) q_o0)) (ixL rfl))) (q_o1 (q_ov (q_prim (q_o1 (q_on) (q_o1 (q_ov q_c) q_o0)) (ixL rfl))) (q_o1 (q_ov (q_prim (q_o1 (q_on) (q_o1 (q_ov q_c) q_o0)) (ixL rfl))) q_o0)))) h))))) (fun r => y_reason)) fun z1 => y_no
  unfold P_u_law_link_told_1 rawS
  rw [e]
theorem typed_link {x : Xl} {k : Lk} (e : encXl x = encLk k) (h : P_C_Link k.cap k.ord k.los k.dou = .exc "no link") : P_u_law_link_told_1 x = some ("no link" : Str) := by
  have h1 : P_u_law_link_told k = some (.inl "no link") := by
    unfold P_u_law_link_told
    rw [h]
    rfl
  have h2 := ok_u_law_link_told k h1
  unfold P_u_law_link_told_1 rawS
  rw [e, h2]
  rfl
end Lw
set_option Elab.async false
set_option linter.all false
set_option autoImplicit false
set_option maxRecDepth 100000
set_option maxHeartbeats 1000000
set_option synthInstance.maxSize 4000
set_option synthInstance.maxHeartbeats 400000
namespace Lw
open PySem Ev
theorem num_f {i n : Int} (h : ¬ (0 ≤ i ∧ i ≤ n)) : P_is_number i n = some false := by
  show some (decide (0 ≤ i) && decide (i ≤ n)) = _
  by_cases a : 0 ≤ i
  · have : decide (i ≤ n) = false := by simp; omega
    rw [this]; simp
  · have : decide (0 ≤ i) = false := by simp; omega
    rw [this]; rfl
theorem trans_tot (rows : List Rw) (n m : Int) (hl : rows.length ≤ 100000) : ∃ t, P_u_are_transitions rows n m = some t ∧ (t = true → rows.Nodup ∧ ∀ r ∈ rows, (0 ≤ r.1 ∧ r.1 < n) ∧ 0 ≤ r.2.2 ∧ r.2.2 < n) ∧ (t = true → (rows.length : Int) ≤ m) := by
  refine fo_is (is_ite (fun q => is_rt ⟨fun z => (by cases z), fun z => (by cases z)⟩) fun q0 => is_bind (N' := fun _ => ∀ r ∈ rows, (0 ≤ r.1 ∧ r.1 < n) ∧ 0 ≤ r.2.2 ∧ r.2.2 < n) (is_for (fun k _ => ∀ j, j < k → ∀ r, rows[j]? = some r → (0 ≤ r.1 ∧ r.1 < n) ∧ 0 ≤ r.2.2 ∧ r.2.2 < n) (fun j hj => absurd hj (Nat.not_lt_zero j)) (fun k x s hx hs => ?_) fun s hs r hr => ?_) fun s hs => ?_)
  · refine is_ite (fun q => by simp at q) fun _ => is_ob (v := decide (0 ≤ x.1) && decide (x.1 ≤ n - 1)) rfl ?_
    by_cases h1 : 0 ≤ x.1 ∧ x.1 ≤ n - 1
    · have e1 : (decide (0 ≤ x.1) && decide (x.1 ≤ n - 1)) = true := by simp [h1]
      rw [e1]
      by_cases h2 : 0 ≤ x.2.2 ∧ x.2.2 ≤ n - 1
      · rw [numA h2]
        refine is_ob (v := false) rfl (is_ite (fun z => by cases z) fun _ => is_nx fun j hj r hr => ?_)
        rcases Nat.lt_succ_iff_lt_or_eq.mp hj with hj | rfl
        · exact hs j hj r hr
        · rw [hx] at hr; cases hr
          exact ⟨⟨h1.1, by omega⟩, h2.1, by omega⟩
      · rw [num_f h2]
        exact is_ob (v := true) rfl (is_ite (fun _ => is_rt ⟨fun z => (by cases z), fun z => (by cases z)⟩) fun z => by cases z)
    · have e1 : (decide (0 ≤ x.1) && decide (x.1 ≤ n - 1)) = false := by
        have := num_f h1
        exact Option.some.inj this
      rw [e1]
      exact is_ob (v := true) rfl (is_ite (fun _ => is_rt ⟨fun z => (by cases z), fun z => (by cases z)⟩) fun z => by cases z)
  · obtain ⟨j, hj⟩ := List.mem_iff_getElem?.mp hr
    exact hs j (List.getElem?_eq_some_iff.mp hj).1 r hj
  · obtain ⟨d, d1, d2⟩ := dcomp_dd (f := fun x : Rw => x) (xs := rows) (by omega)
    refine is_ob d1 (is_rt ⟨fun z => ⟨?_, hs⟩, fun _ => by simp at q0; omega⟩)
    have hl2 : d.length = (dd1 rows).length := by
      have h := congrArg List.length d2
      rw [List.length_map, List.map_id'] at h
      exact h
    have e : (dd1 rows).length = rows.length := by
      have := of_decide_eq_true z
      omega
    have key : ∀ (n : Nat) (l : List Rw), l.length = n → (dd1 l).length = l.length → l.Nodup := by
      intro n
      induction n with
      | zero => intro l h _; rw [List.length_eq_zero_iff.mp h]; simp
      | succ n ih =>
        intro l hn h
        rcases List.eq_nil_or_concat l with rfl | ⟨l', x, rfl⟩
        · simp
        rw [List.concat_eq_append] at h hn ⊢
        rw [dd1_snoc] at h
        have hle := dd1_len l'
        have hn' : l'.length = n := by simp at hn; exact hn
        unfold addN at h
        split at h
        · simp at h; omega
        · rename_i hn2
          have hx : x ∉ l' := fun z => hn2 (by simpa using dd1_mem.mpr z)
          refine List.nodup_append.mpr ⟨ih l' hn' (by simp at h; omega), by simp, fun a ha b hb e => ?_⟩
          simp at hb
          subst hb; subst e
          exact hx ha
    exact key _ rows rfl e
theorem fin_tot (fin : List Int) (n : Int) : ∃ t, P_u_are_final fin n = some t ∧ (t = true → (∀ f ∈ fin, 0 ≤ f ∧ f < n) ∧ fin.Pairwise fun a b => a < b) := by
  have hc : compO (fun (x1 : Int) => Option.map some ((P_is_number x1 (n - (1 : Int))).bind fun p3 => some (p3 : Bool))) fin = some (fin.map fun x => decide (0 ≤ x) && decide (x ≤ n - 1)) := compO_map fun x _ => rfl
  have asc : ∀ l : List Int, ((l.zip (slI l (some (1 : Int)) none)).all fun (x1 : (Int × Int)) => (decide (x1.1 < x1.2))) = true → l.Pairwise fun a b => a < b := by
    intro l h
    rw [slI_drop1, List.all_eq_true] at h
    induction l with
    | nil => simp
    | cons a l ih =>
      cases l with
      | nil => simp
      | cons b l =>
        have e : (a :: b :: l).zip ((a :: b :: l).drop 1) = (a, b) :: (b :: l).zip ((b :: l).drop 1) := rfl
        rw [e] at h
        have hab : a < b := of_decide_eq_true (h (a, b) (.head _))
        have ih' := ih fun p hp => h p (.tail _ hp)
        refine List.pairwise_cons.mpr ⟨fun c hc => ?_, ih'⟩
        rcases List.mem_cons.mp hc with rfl | hc
        · exact hab
        · have := (List.pairwise_cons.mp ih').1 c hc
          omega
  refine fo_is (is_ob (v := !((fin.map fun x => decide (0 ≤ x) && decide (x ≤ n - 1)).all id)) (by rw [hc]; rfl) (is_ite (fun q => is_rt fun z => by cases z) fun q => is_ob (v := (fin.zip (slI fin (some (1 : Int)) none)).all fun (x1 : (Int × Int)) => (decide (x1.1 < x1.2))) rfl (is_rt fun z => ⟨fun f hf => ?_, asc fin z⟩)))
  rw [Bool.not_eq_false', List.all_map, List.all_eq_true] at q
  have := q f hf
  simp at this
  omega
theorem shape_tot (n m : Int) (rows : List Rw) (k : Int) (fin : List Int) (hl : rows.length ≤ 100000) : ∃ t, P_u_is_shape n m rows k fin = some t ∧ (t = true → (1 ≤ n ∧ n ≤ m) ∧ (rows.Nodup ∧ ∀ r ∈ rows, (0 ≤ r.1 ∧ r.1 < n) ∧ 0 ≤ r.2.2 ∧ r.2.2 < n) ∧ (rows.length : Int) ≤ k ∧ (∀ f ∈ fin, 0 ≤ f ∧ f < n) ∧ fin.Pairwise fun a b => a < b) := by
  obtain ⟨t, t1, t2, t3⟩ := trans_tot rows n k hl
  obtain ⟨f, f1, f2⟩ := fin_tot fin n
  refine fo_is (is_ob (v := decide (0 ≤ n) && decide (n ≤ m)) rfl (is_ite (fun q => is_rt fun z => by cases z) fun q => is_ob t1 (is_ob (v := t && f) (by rw [f1]; cases t <;> rfl) (is_rt fun z => ?_))))
  rw [Bool.and_eq_true] at z
  simp at q
  exact ⟨⟨q.2, q.1.2⟩, t2 z.1, t3 z.1, f2 z.2⟩
def labs (i o : List Str) : List Str := ("tau" : Str) :: (i.map (("?" : Str) ++ ·) ++ o.map (("!" : Str) ++ ·))
theorem svc_bad {v : Sv} {m1 m2 : Bool} (h1 : P_u_are_messages v.ins = some m1) (h2 : P_u_are_messages v.outs = some m2) (s1 : ∀ x ∈ v.ins, x.length ≤ 8) (s2 : ∀ x ∈ v.outs, x.length ≤ 8) (l1 : v.ins.length ≤ 100) (l2 : v.outs.length ≤ 100) (lr : v.rows.length ≤ 100000)
    (hb : m1 = true → m2 = true → (∀ x ∈ v.ins, x ∉ v.outs) → ((1 ≤ v.n ∧ v.n ≤ 12) ∧ (v.rows.Nodup ∧ ∀ r ∈ v.rows, (0 ≤ r.1 ∧ r.1 < v.n) ∧ 0 ≤ r.2.2 ∧ r.2.2 < v.n) ∧ (v.rows.length : Int) ≤ 60 ∧ (∀ f ∈ v.fin, 0 ≤ f ∧ f < v.n) ∧ v.fin.Pairwise fun a b => a < b) → ∃ r ∈ v.rows, r.2.1 ∉ labs v.ins v.outs) :
    P_C_Service v.ins v.outs v.n v.rows v.fin = .exc "no service" := by
  obtain ⟨t, t1, t2⟩ := shape_tot v.n 12 v.rows 60 v.fin lr
  refine ft_exc (is_ob h1 (is_ob (v := m1 && m2) (by rw [h2]; cases m1 <;> rfl) (is_lt (is_lt (is_ob (v := ((m1 && m2) && !(v.ins.any fun x => decide (x ∈ v.outs))) && t) (by rw [t1]; cases ((m1 && m2) && !(v.ins.any fun x => decide (x ∈ v.outs))) <;> rfl) (is_lt (is_ite (fun _ => is_exc rfl) fun q => ?_)))))))
  have q' : (((m1 && m2) && !(v.ins.any fun x => decide (x ∈ v.outs))) && t) = true := by simpa using q
  rw [Bool.and_eq_true, Bool.and_eq_true, Bool.and_eq_true, Bool.not_eq_true', List.any_eq_false] at q'
  obtain ⟨⟨⟨q1, q2⟩, q3⟩, q4⟩ := q'
  obtain ⟨r, hr, hn⟩ := hb q1 q2 (fun x hx z => q3 x hx (decide_eq_true z)) (t2 q4)
  refine is_ob (pre_map _ (by decide) s1) (is_ob (addL_some (by simp only [List.length_map, List.length_singleton]; show _ ≤ 16777216; omega)) (is_ob (pre_map _ (by decide) s2) (is_ob (addL_some (by simp only [List.length_map, List.length_append, List.length_singleton]; show _ ≤ 16777216; omega)) (is_lt (is_ite (fun _ => is_exc rfl) fun z => ?_)))))
  exfalso
  rw [Bool.not_eq_false', List.all_eq_true] at z
  have := of_decide_eq_true (z r hr)
  exact hn this
end Lw
set_option Elab.async false
set_option linter.all false
set_option autoImplicit false
set_option maxRecDepth 100000
set_option maxHeartbeats 1000000
set_option synthInstance.maxSize 4000
set_option synthInstance.maxHeartbeats 400000
namespace Lw
open PySem Ev
theorem strLen (a b : Str) : (a ++ b).length = a.length + b.length := by
  show (a.cps ++ b.cps).size = _
  rw [Array.size_append]
  rfl
theorem rawAdd_ex {rows : List Rw} {l : List D} (h : rows.length ≤ 1000) (h2 : l.length ≤ 1000) : rawAdd ((eL eRw) rows) ((eL eX) l) = some (.lst (rows.map eRw ++ l)) := by
  have e : pAdd [(eL eRw) rows, (eL eX) l] = some (nw (.lst (rows.map eRw ++ l))) := by
    have hid : l.map eX = l := List.map_id' l
    show (if (rows.map eRw).length + (l.map eX).length ≤ sizeLine then _ else none) = _
    rw [hid, if_pos (by rw [List.length_map, sizeLine_eq]; omega)]
  unfold rawAdd
  rw [e]
theorem labs_not {i o : List Str} (hm : ∀ m ∈ i ++ o, m.length = 1) {l : Str} (h1 : l ≠ "tau") (h2 : l.length ≠ 2) : l ∉ labs i o := by
  intro h
  unfold labs at h
  rcases List.mem_cons.mp h with h | h
  · exact h1 h
  rcases List.mem_append.mp h with h | h
  · obtain ⟨m, hm1, rfl⟩ := List.mem_map.mp h
    rw [strLen, hm m (List.mem_append_left _ hm1)] at h2
    exact h2 rfl
  · obtain ⟨m, hm1, rfl⟩ := List.mem_map.mp h
    rw [strLen, hm m (List.mem_append_right _ hm1)] at h2
    exact h2 rfl
abbrev Bad (x : Xv) : Prop := P_u_law_service_told_1 x = some ("no service" : Str)
theorem bad_m1 {x : Xv} {v : Sv} (e : encXv x = encSv v) (h : P_u_are_messages v.ins = some false) : Bad x := by
  refine typed_told e (ft_exc (is_ob h (is_ob (v := false) rfl (is_lt (is_lt (is_ob (v := false) rfl (is_lt (is_ite (fun _ => is_exc rfl) fun z => by cases z))))))))
theorem bad_of {x : Xv} {v : Sv} (e : encXv x = encSv v) {m1 m2 : Bool} (h1 : P_u_are_messages v.ins = some m1) (h2 : P_u_are_messages v.outs = some m2) (s1 : ∀ x ∈ v.ins, x.length ≤ 8) (s2 : ∀ x ∈ v.outs, x.length ≤ 8) (l1 : v.ins.length ≤ 100) (l2 : v.outs.length ≤ 100) (lr : v.rows.length ≤ 100000)
    (hb : m1 = true → m2 = true → (∀ x ∈ v.ins, x ∉ v.outs) → ((1 ≤ v.n ∧ v.n ≤ 12) ∧ (v.rows.Nodup ∧ ∀ r ∈ v.rows, (0 ≤ r.1 ∧ r.1 < v.n) ∧ 0 ≤ r.2.2 ∧ r.2.2 < v.n) ∧ (v.rows.length : Int) ≤ 60 ∧ (∀ f ∈ v.fin, 0 ≤ f ∧ f < v.n) ∧ v.fin.Pairwise fun a b => a < b) → ∃ r ∈ v.rows, r.2.1 ∉ labs v.ins v.outs) : Bad x :=
  typed_told e (svc_bad h1 h2 s1 s2 l1 l2 lr hb)
theorem eLapp {rows : List Rw} {l : List Rw} : D.lst (rows.map eRw ++ l.map eRw) = eL eRw (rows ++ l) := by simp
section
variable {v : Sv} (h : SvOk v) (hm : ∀ m ∈ v.ins ++ v.outs, m.length = 1) (hr : v.rows.length ≤ 12)
include h hm hr
theorem bad_rows {l : List Rw} (hl : l.length ≤ 10) (hb : (v.rows ++ l).Nodup → (∀ r ∈ l, (0 ≤ r.1 ∧ r.1 < v.n) ∧ 0 ≤ r.2.2 ∧ r.2.2 < v.n) → ∃ r ∈ l, r.2.1 ∉ labs v.ins v.outs) : Bad ⟨(eL eS) v.ins, (eL eS) v.outs, eI v.n, .lst (v.rows.map eRw ++ l.map eRw), (eL eI) v.fin⟩ := by
  have l1 : v.ins.length ≤ 3 := h.fc.l1
  have l2 : v.outs.length ≤ 3 := h.fc.l2
  refine bad_of (v := ⟨v.ins, v.outs, v.n, v.rows ++ l, v.fin⟩) ?_ h.fc.m1 h.fc.m2 h.fc.s1 h.fc.s2 (by show v.ins.length ≤ 100; omega) (by show v.outs.length ≤ 100; omega) (by simp; omega) fun _ _ _ z => ?_
  · rw [eLapp]
  · obtain ⟨r, r1, r2⟩ := hb z.2.1.1 fun r hr => z.2.1.2 r (List.mem_append_right _ hr)
    exact ⟨r, List.mem_append_right _ r1, r2⟩
theorem bad_fin {fin : List Int} (hb : (∀ f ∈ fin, 0 ≤ f ∧ f < v.n) → (fin.Pairwise fun a b => a < b) → False) : Bad ⟨(eL eS) v.ins, (eL eS) v.outs, eI v.n, (eL eRw) v.rows, (eL eI) fin⟩ := by
  have l1 : v.ins.length ≤ 3 := h.fc.l1
  have l2 : v.outs.length ≤ 3 := h.fc.l2
  exact bad_of (v := ⟨v.ins, v.outs, v.n, v.rows, fin⟩) rfl h.fc.m1 h.fc.m2 h.fc.s1 h.fc.s2 (by show v.ins.length ≤ 100; omega) (by show v.outs.length ≤ 100; omega) (by show v.rows.length ≤ _; omega) fun _ _ _ z => (hb z.2.2.2.1 z.2.2.2.2).elim
theorem bad_num {n : Int} (hb : ¬ (1 ≤ n ∧ n ≤ 12)) : Bad ⟨(eL eS) v.ins, (eL eS) v.outs, eI n, (eL eRw) v.rows, (eL eI) v.fin⟩ := by
  have l1 : v.ins.length ≤ 3 := h.fc.l1
  have l2 : v.outs.length ≤ 3 := h.fc.l2
  exact bad_of (v := ⟨v.ins, v.outs, n, v.rows, v.fin⟩) rfl h.fc.m1 h.fc.m2 h.fc.s1 h.fc.s2 (by show v.ins.length ≤ 100; omega) (by show v.outs.length ≤ 100; omega) (by show v.rows.length ≤ _; omega) fun _ _ _ z => (hb z.1).elim
theorem bad_row {x : D} (hx : BadRow x) : Bad ⟨(eL eS) v.ins, (eL eS) v.outs, eI v.n, .lst (v.rows.map eRw ++ [x]), (eL eI) v.fin⟩ :=
  raw_told (raw_sv2 h.fc.m1 h.fc.m2 (raw_shape2 (t := false) (f := false) (raw_trans v.rows hx v.n 60 (by omega)) (fun z => by cases z) ⟨by have := h.nb; omega, h.nb.2, h.nb.1⟩ rfl) rfl)
theorem spoiled_ex (b : Bx) (hb : BxI b) : ∃ r, P_u_law_spoiled b v = some r ∧ Bad r.1 ∧ BxI r.2 := by
  have l1 : v.ins.length ≤ 3 := h.fc.l1
  have l2 : v.outs.length ≤ 3 := h.fc.l2
  have nb := h.nb
  obtain ⟨d, d1, d2, d3⟩ := draw_ex b 12 hb (by decide)
  refine fo_is (is_lt (is_ob d1 (is_lt (is_bind (N' := fun z : Xv × Bx => Bad z.1 ∧ BxI z.2) ?_ fun z hz => is_rt ⟨hz.1, hz.2⟩))))
  refine is_ite (fun _ => ?_) fun _ => is_ite (fun _ => ?_) fun _ => is_ite (fun _ => ?_) fun _ => is_ite (fun _ => ?_) fun _ => is_ite (fun _ => ?_) fun _ => is_ite (fun _ => ?_) fun _ => is_ite (fun _ => ?_) fun _ => is_ite (fun _ => ?_) fun _ => is_ite (fun _ => ?_) fun _ => is_ite (fun _ => ?_) fun _ => is_ite (fun _ => ?_) fun _ => ?_
  · obtain ⟨e, e1, e2, e3⟩ := draw_ex d.2 7 d3 (by decide)
    obtain ⟨x, x1, x2, _⟩ := ixO_ex (xs := ([((eL eS) [("b" : Str), ("a" : Str)]), ((eL eS) [("a" : Str), ("a" : Str)]), ((eL eS) [("A" : Str)]), ((eL eS) [("" : Str)]), ((eL eS) [("a" : Str), ("b" : Str), ("c" : Str), ("d" : Str)]), ((eL eS) [("abcdefghi" : Str)]), ((eL eI) [(5 : Int)])] : List D)) (i := e.1) ⟨e2.1, by simpa using e2.2⟩
    refine is_ob e1 (is_ob x1 (is_nx ⟨?_, e3⟩))
    simp only [List.mem_cons, List.not_mem_nil, or_false] at x2
    rcases x2 with rfl | rfl | rfl | rfl | rfl | rfl | rfl
    · exact bad_m1 (v := ⟨[("b" : Str), ("a" : Str)], v.outs, v.n, v.rows, v.fin⟩) rfl (by dsimp only; decide +kernel)
    · exact bad_m1 (v := ⟨[("a" : Str), ("a" : Str)], v.outs, v.n, v.rows, v.fin⟩) rfl (by dsimp only; decide +kernel)
    · exact bad_m1 (v := ⟨[("A" : Str)], v.outs, v.n, v.rows, v.fin⟩) rfl (by dsimp only; decide +kernel)
    · exact bad_m1 (v := ⟨[("" : Str)], v.outs, v.n, v.rows, v.fin⟩) rfl (by dsimp only; decide +kernel)
    · exact bad_m1 (v := ⟨[("a" : Str), ("b" : Str), ("c" : Str), ("d" : Str)], v.outs, v.n, v.rows, v.fin⟩) rfl (by dsimp only; decide +kernel)
    · exact bad_m1 (v := ⟨[("abcdefghi" : Str)], v.outs, v.n, v.rows, v.fin⟩) rfl (by dsimp only; decide +kernel)
    · exact raw_told (raw_sv1 raw_msgs rfl)
  · refine is_nx ⟨?_, d3⟩
    exact bad_of (v := ⟨[("b" : Str)], [("a" : Str), ("b" : Str), ("z" : Str)], v.n, v.rows, v.fin⟩) (m1 := true) (m2 := true) rfl (by dsimp only; decide +kernel) (by dsimp only; decide +kernel) (by dsimp only; decide) (by dsimp only; decide) (by dsimp only; decide) (by dsimp only; decide) (by show v.rows.length ≤ _; omega) fun _ _ z _ => (z "b" (by simp) (by simp)).elim
  · obtain ⟨e, e1, e2, e3⟩ := draw_ex d.2 4 d3 (by decide)
    obtain ⟨x, x1, x2, _⟩ := ixO_ex (xs := ([(eI (0 : Int)), (eI (13 : Int)), (eB true), (eI (-(1 : Int)))] : List D)) (i := e.1) ⟨e2.1, by simpa using e2.2⟩
    refine is_ob e1 (is_ob x1 (is_nx ⟨?_, e3⟩))
    simp only [List.mem_cons, List.not_mem_nil, or_false] at x2
    rcases x2 with rfl | rfl | rfl | rfl
    · exact bad_num h hm hr (by decide)
    · exact bad_num h hm hr (by decide)
    · exact raw_told (raw_sv2 h.fc.m1 h.fc.m2 (raw_shape1 (raw_num1 12) rfl) rfl)
    · exact bad_num h hm hr (by decide)
  · refine is_ob (rawAdd_ex (by omega) (by simp)) (is_nx ⟨?_, d3⟩)
    exact bad_rows h hm hr (l := [((0 : Int), ("tau" : Str), v.n)]) (by simp) fun _ z => by
      have := z _ (List.mem_singleton.mpr rfl)
      exact absurd this.2.2 (Int.lt_irrefl _)
  · refine is_ob (rawAdd_ex (by omega) (by simp)) (is_nx ⟨?_, d3⟩)
    exact bad_rows h hm hr (l := [((0 : Int), ("!zz" : Str), (0 : Int))]) (by decide) fun _ z => ⟨_, List.mem_singleton.mpr rfl, labs_not hm (by decide) (by decide)⟩
  · refine is_ob (rawAdd_ex (by omega) (by simp)) (is_nx ⟨?_, d3⟩)
    exact bad_rows h hm hr (l := [((0 : Int), ("tau" : Str), (0 : Int)), ((0 : Int), ("tau" : Str), (0 : Int))]) (by decide) fun z _ => by
      have := (List.nodup_append.mp z).2.1
      simp at this
  · obtain ⟨e, e1, e2, e3⟩ := draw_ex d.2 5 d3 (by decide)
    obtain ⟨x, x1, x2, _⟩ := ixO_ex (xs := ([((eT2 eI eS) ((0 : Int), ("tau" : Str))), ((eT3 eI eS eI) ((-(1 : Int)), ("tau" : Str), (0 : Int))), ((eT3 eI eS eI) ((0 : Int), ("?" : Str), (0 : Int))), ((eH3 eI eS eI) ((0 : Int), ("tau" : Str), (0 : Int))), ((eT4 eI eS eI eI) ((0 : Int), ("tau" : Str), (0 : Int), (0 : Int)))] : List D)) (i := e.1) ⟨e2.1, by simpa using e2.2⟩
    refine is_ob e1 (is_ob x1 (is_ob (rawAdd_ex (by omega) (by simp)) (is_nx ⟨?_, e3⟩)))
    simp only [List.mem_cons, List.not_mem_nil, or_false] at x2
    rcases x2 with rfl | rfl | rfl | rfl | rfl
    · exact bad_row h hm hr (.inl rfl)
    · exact bad_rows h hm hr (l := [((-(1 : Int)), ("tau" : Str), (0 : Int))]) (by decide) fun _ z => by
        have := (z _ (List.mem_singleton.mpr rfl)).1.1
        exact absurd this (by decide)
    · exact bad_rows h hm hr (l := [((0 : Int), ("?" : Str), (0 : Int))]) (by decide) fun _ z => ⟨_, List.mem_singleton.mpr rfl, labs_not hm (by decide) (by decide)⟩
    · exact bad_row h hm hr (.inr (.inl rfl))
    · exact bad_row h hm hr (.inr (.inr rfl))
  · obtain ⟨e, e1, e2, e3⟩ := draw_ex d.2 4 d3 (by decide)
    obtain ⟨x, x1, x2, _⟩ := ixO_ex (xs := ([((eL eI) [v.n]), ((eL eI) [(0 : Int), (0 : Int)]), ((eL eI) [(-(1 : Int))]), ((eL eU) [()])] : List D)) (i := e.1) ⟨e2.1, by simpa using e2.2⟩
    refine is_ob e1 (is_ob x1 (is_nx ⟨?_, e3⟩))
    simp only [List.mem_cons, List.not_mem_nil, or_false] at x2
    rcases x2 with rfl | rfl | rfl | rfl
    · exact bad_fin h hm hr (fin := [v.n]) fun z _ => absurd (z v.n (by simp)).2 (Int.lt_irrefl _)
    · exact bad_fin h hm hr (fin := [0, 0]) fun _ z => by simp at z
    · exact bad_fin h hm hr (fin := [-1]) fun z _ => absurd (z (-1) (by simp)).1 (by decide)
    · obtain ⟨t, t1, t2, t3⟩ := trans_tot v.rows v.n 60 (by omega)
      exact raw_told (raw_sv2 h.fc.m1 h.fc.m2 (raw_shape2 (t := t) (f := false) (ok_u_are_transitions v.rows v.n 60 t1) (fun z => raw_final v.n) ⟨by omega, nb.2, nb.1⟩ (by cases t <;> rfl)) rfl)
  · refine is_ob (rangeO_nat (n := 60) (by decide)) (is_ob (addL_some (by simp; decide)) (is_nx ⟨?_, d3⟩))
    exact bad_of (v := ⟨v.ins, v.outs, 12, _, v.fin⟩) rfl h.fc.m1 h.fc.m2 h.fc.s1 h.fc.s2 (by show v.ins.length ≤ 100; omega) (by show v.outs.length ≤ 100; omega) (by simp) fun _ _ _ z => by
      have := z.2.2.1
      simp at this
  · refine is_nx ⟨?_, d3⟩
    exact bad_of (v := ⟨[("a" : Str), ("b" : Str)], [], v.n, [((0 : Int), ("!a" : Str), (0 : Int))], v.fin⟩) (m1 := true) (m2 := true) rfl (by dsimp only; decide +kernel) (by dsimp only; decide +kernel) (by dsimp only; decide) (by dsimp only; decide) (by dsimp only; decide) (by dsimp only; decide) (by dsimp only; decide) fun _ _ _ _ => ⟨_, List.mem_singleton.mpr rfl, by dsimp only; decide⟩
  · refine is_nx ⟨?_, d3⟩
    exact bad_of (v := ⟨v.ins, v.outs, 2, [], [1, 0]⟩) rfl h.fc.m1 h.fc.m2 h.fc.s1 h.fc.s2 (by show v.ins.length ≤ 100; omega) (by show v.outs.length ≤ 100; omega) (by simp) fun _ _ _ z => by
      have := z.2.2.2.2
      simp at this
  · refine is_nx ⟨?_, d3⟩
    exact bad_of (v := ⟨v.ins, [("d" : Str), ("c" : Str)], v.n, v.rows, v.fin⟩) (m2 := false) rfl h.fc.m1 (by dsimp only; decide +kernel) h.fc.s1 (by dsimp only; decide) (by show v.ins.length ≤ 100; omega) (by dsimp only; decide) (by show v.rows.length ≤ _; omega) fun _ z => by cases z
end
end Lw
set_option Elab.async false
set_option linter.all false
set_option autoImplicit false
set_option maxRecDepth 100000
set_option maxHeartbeats 1000000
set_option synthInstance.maxSize 4000
set_option synthInstance.maxHeartbeats 400000
namespace Lw
open PySem Ev
theorem msg_tot (s : Str) : ∃ t, P_is_message s = some t ∧ True := by
  refine fo_is (is_ite (fun _ => is_rt trivial) fun _ => is_ob (v := (signsT s).map fun x => (inS x "abcdefghijklmnopqrstuvwxyz").getD false) (compO_map fun x hx => ?_) (is_rt trivial))
  unfold signsT at hx
  obtain ⟨c, hc, rfl⟩ := List.mem_map.mp hx
  rfl
theorem label_tot (s : Str) : ∃ t, P_is_label s = some t ∧ True := by
  obtain ⟨t, ht, _⟩ := msg_tot (L2.cutS s (some (1 : Int)) none)
  refine fo_is (is_ob (v := decide ((L2.cutS s none (some (1 : Int))) ∈ [("!" : Str), ("?" : Str)]) && t) ?_ (is_rt trivial))
  rw [ht]
  show andO true ((andO (decide ((L2.cutS s none (some (1 : Int))) ∈ [("!" : Str), ("?" : Str)])) (some t)).bind fun h2 => some h2) = _
  cases decide ((L2.cutS s none (some (1 : Int))) ∈ [("!" : Str), ("?" : Str)]) <;> rfl
theorem part_bad {n : Int} {rows : List Rw} {fin : List Int} (lr : rows.length ≤ 100000)
    (hb : ((1 ≤ n ∧ n ≤ 300) ∧ (rows.Nodup ∧ ∀ r ∈ rows, (0 ≤ r.1 ∧ r.1 < n) ∧ 0 ≤ r.2.2 ∧ r.2.2 < n) ∧ (rows.length : Int) ≤ 2000 ∧ (∀ f ∈ fin, 0 ≤ f ∧ f < n) ∧ fin.Pairwise fun a b => a < b) → ∃ r ∈ rows, P_is_label r.2.1 = some false) :
    P_u_law_partner_told ⟨n, rows, fin⟩ = some (.inl "no partner") := by
  have h : P_C_Partner n rows fin = .exc "no partner" := by
    obtain ⟨t, t1, t2⟩ := shape_tot n 300 rows 2000 fin lr
    have hc : compO (fun (x3 : (Int × Str × Int)) => Option.map some ((P_is_label x3.2.1).bind fun p5 => some (p5 : Bool))) rows = some (rows.map fun x => (P_is_label x.2.1).getD false) := compO_map fun x _ => by
      obtain ⟨t, ht, _⟩ := label_tot x.2.1
      rw [ht]; rfl
    refine ft_exc (is_ob t1 (is_lt (is_ob (v := (!t) || !((rows.map fun x => (P_is_label x.2.1).getD false).all id)) (by rw [hc]; cases t <;> rfl) (is_ite (fun _ => is_exc rfl) fun q => ?_))))
    exfalso
    rw [Bool.or_eq_false_iff, Bool.not_eq_false', Bool.not_eq_false', List.all_map, List.all_eq_true] at q
    obtain ⟨r, hr, hl⟩ := hb (t2 q.1)
    have := q.2 r hr
    simp only [Function.comp, hl, Option.getD_some, id] at this
    cases this
  show P_u_law_partner_told ⟨n, rows, fin⟩ = _
  unfold P_u_law_partner_told
  simp only [h]
  rfl
theorem part_ok {n : Int} {rows : List Rw} {fin : List Int} {rows' : List Rw} (h : P_C_Partner n rows fin = .ok ⟨n, rows', fin⟩) : P_u_law_partner_told ⟨n, rows, fin⟩ = some (.inr ⟨n, rows', fin⟩) := by
  unfold P_u_law_partner_told
  simp only [h]
  rfl
theorem sort_rev {rows : List Rw} (nd : rows.Nodup) (st : rows.Pairwise fun a b => leD (eRw a) (eRw b) = true) : sortE eRw rows.reverse = rows := by
  rw [sort_eq enc_Rw ((List.reverse_perm rows).nodup_iff.mpr nd) nd fun x => List.mem_reverse]
  exact sortE_of st
abbrev pls : List Str := [("!a" : Str), ("!b" : Str), ("?c" : Str), ("?d" : Str)]
theorem pls_ok : ∀ l ∈ pls, P_is_label l = some true := by decide +kernel
theorem bad_partner_ex {b : Bx} {p : Pt} (hb : BxI b) (h : PtD pls p) : ∃ r, P_u_law_bad_partner b p = some r ∧ P_u_law_partner_told r.1 = some (.inl "no partner") ∧ BxI r.2 := by
  have ln := h.ln
  have nb := h.nb
  obtain ⟨d, d1, d2, d3⟩ := draw_ex b 9 hb (by decide)
  refine fo_is (is_ob (addL_some (by simp; show _ ≤ 16777216; omega)) (is_ob (addL_some (by simp; show _ ≤ 16777216; omega)) (is_ob d1 ?_)))
  obtain ⟨x, x1, x2, _⟩ := ixO_ex (xs := ([(⟨(0 : Int), ([] : (List (Int × Str × Int))), ([] : (List Int))⟩ : Pt), (⟨(301 : Int), ([] : (List (Int × Str × Int))), ([] : (List Int))⟩ : Pt), (⟨p.n, p.rows ++ [((0 : Int), ("tau" : Str), (0 : Int))], p.fin⟩ : Pt), (⟨p.n, p.rows ++ [((0 : Int), ("!a" : Str), p.n)], p.fin⟩ : Pt), (⟨p.n, p.rows, ([p.n] : (List Int))⟩ : Pt), (⟨p.n, ([((0 : Int), ("!a" : Str), (0 : Int)), ((0 : Int), ("!a" : Str), (0 : Int))] : (List (Int × Str × Int))), ([] : (List Int))⟩ : Pt), (⟨(2 : Int), ([] : (List (Int × Str × Int))), ([(1 : Int), (0 : Int)] : (List Int))⟩ : Pt), (⟨(1 : Int), ([((0 : Int), ("a" : Str), (0 : Int))] : (List (Int × Str × Int))), ([] : (List Int))⟩ : Pt), (⟨(1 : Int), ([((0 : Int), ("!A" : Str), (0 : Int))] : (List (Int × Str × Int))), ([] : (List Int))⟩ : Pt)] : (List Pt))) (i := d.1) ⟨d2.1, by simpa using d2.2⟩
  refine is_ob x1 (is_rt ⟨?_, d3⟩)
  simp only [List.mem_cons, List.not_mem_nil, or_false] at x2
  rcases x2 with rfl | rfl | rfl | rfl | rfl | rfl | rfl | rfl | rfl
  · exact part_bad (by simp) fun z => absurd z.1.1 (by decide)
  · exact part_bad (by simp) fun z => absurd z.1.2 (by decide)
  · exact part_bad (by simp; omega) fun z => ⟨_, List.mem_append_right _ (List.mem_singleton.mpr rfl), by decide +kernel⟩
  · exact part_bad (by simp; omega) fun z => by
      have := (z.2.1.2 _ (List.mem_append_right _ (List.mem_singleton.mpr rfl))).2.2
      exact absurd this (Int.lt_irrefl _)
  · exact part_bad (by omega) fun z => absurd (z.2.2.2.1 p.n (by simp)).2 (Int.lt_irrefl _)
  · exact part_bad (by simp) fun z => by
      have := z.2.1.1
      simp at this
  · exact part_bad (by simp) fun z => by
      have := z.2.2.2.2
      simp at this
  · exact part_bad (by simp) fun z => ⟨_, List.mem_singleton.mpr rfl, by decide +kernel⟩
  · exact part_bad (by simp) fun z => ⟨_, List.mem_singleton.mpr rfl, by decide +kernel⟩
theorem bad_link_ex {b : Bx} (hb : BxI b) : ∃ r, P_u_law_bad_link b = some r ∧ P_u_law_link_told_1 r.1 = some ("no link" : Str) ∧ BxI r.2 := by
  obtain ⟨d, d1, d2, d3⟩ := draw_ex b 9 hb (by decide)
  obtain ⟨x, x1, x2, _⟩ := ixO_ex (xs := ([(⟨(eI (3 : Int)), (eS ("row" : Str)), (eI (0 : Int)), (eI (0 : Int))⟩ : Xl), (⟨(eI (-(1 : Int))), (eS ("row" : Str)), (eI (0 : Int)), (eI (0 : Int))⟩ : Xl), (⟨(eI (1 : Int)), (eS ("heap" : Str)), (eI (0 : Int)), (eI (0 : Int))⟩ : Xl), (⟨(eI (1 : Int)), (eS ("row" : Str)), (eI (3 : Int)), (eI (0 : Int))⟩ : Xl), (⟨(eI (1 : Int)), (eS ("bag" : Str)), (eI (0 : Int)), (eI (3 : Int))⟩ : Xl), (⟨(eI (0 : Int)), (eS ("row" : Str)), (eI (1 : Int)), (eI (0 : Int))⟩ : Xl), (⟨(eI (0 : Int)), (eS ("bag" : Str)), (eI (0 : Int)), (eI (1 : Int))⟩ : Xl), (⟨(eB true), (eS ("row" : Str)), (eI (0 : Int)), (eI (0 : Int))⟩ : Xl), (⟨(eI (1 : Int)), (eS ("row" : Str)), (eI (-(1 : Int))), (eI (0 : Int))⟩ : Xl)] : (List Xl))) (i := d.1) ⟨d2.1, by simpa using d2.2⟩
  refine fo_is (is_ob d1 (is_ob x1 (is_rt ⟨?_, d3⟩)))
  simp only [List.mem_cons, List.not_mem_nil, or_false] at x2
  rcases x2 with rfl | rfl | rfl | rfl | rfl | rfl | rfl | rfl | rfl
  · exact typed_link (k := ⟨3, "row", 0, 0⟩) rfl rfl
  · exact typed_link (k := ⟨-1, "row", 0, 0⟩) rfl rfl
  · exact typed_link (k := ⟨1, "heap", 0, 0⟩) rfl rfl
  · exact typed_link (k := ⟨1, "row", 3, 0⟩) rfl rfl
  · exact typed_link (k := ⟨1, "bag", 0, 3⟩) rfl rfl
  · exact typed_link (k := ⟨0, "row", 1, 0⟩) rfl rfl
  · exact typed_link (k := ⟨0, "bag", 0, 1⟩) rfl rfl
  · exact raw_link
  · exact typed_link (k := ⟨1, "row", -1, 0⟩) rfl rfl
theorem link_ok {k : Lk} (h : LkOk k) : P_u_law_link_told k = some (.inr k) := by
  unfold P_u_law_link_told
  rw [link_eq h]
  rfl
theorem service_eqR {v : Sv} (h : SvOk v) : P_u_law_service_told ⟨v.ins, v.outs, v.n, v.rows.reverse, v.fin⟩ = some (.inr v) := by
  have l1 : v.ins.length ≤ 3 := h.fc.l1
  have l2 : v.outs.length ≤ 3 := h.fc.l2
  have hany : (v.ins.any fun x => decide (x ∈ v.outs)) = false := by
    rw [List.any_eq_false]
    exact fun x hx q => h.fc.d x hx (of_decide_eq_true q)
  have key : P_C_Service v.ins v.outs v.n v.rows.reverse v.fin = .ok v := by
    refine ft_eq (is_ob h.fc.m1 (is_ob (v := true) ?_ (is_lt (is_lt (is_ob (v := true) ?_ (is_lt (is_ite (fun q => by cases q) fun _ => is_ob (pre_map _ (by decide) h.fc.s1) (is_ob (addL_some ?_) (is_ob (pre_map _ (by decide) h.fc.s2) (is_ob (addL_some ?_) (is_lt (is_ite (fun q => ?_) fun _ => is_nx ?_))))))))))))
    · show ((P_u_are_messages v.outs).bind fun p2 => some p2) = _
      rw [show P_u_are_messages v.outs = some true from h.fc.m2]; rfl
    · show andO (true && !(v.ins.any fun x => decide (x ∈ v.outs))) _ = _
      rw [hany, shapeA ⟨h.nb.1, h.nb.2⟩ ⟨by have := h.ln; simp; omega, by have := h.ln; simp; omega⟩ ((List.reverse_perm v.rows).nodup_iff.mpr h.nd) (fun r hr => h.rg r (List.mem_reverse.mp hr)) h.fr h.fa]
      rfl
    · simp only [List.length_map, List.length_singleton]
      show _ ≤ 16777216
      omega
    · simp only [List.length_map, List.length_append, List.length_singleton]
      show _ ≤ 16777216
      omega
    · exfalso
      rw [Bool.not_eq_true', List.all_eq_false] at q
      obtain ⟨r, hr, q⟩ := q
      refine q (decide_eq_true ?_)
      rcases h.lb r (List.mem_reverse.mp hr) with e | ⟨m, hm, e⟩ | ⟨m, hm, e⟩
      · simp [e]
      · rw [e]; exact List.mem_append_left _ (List.mem_append_right _ (List.mem_map.mpr ⟨m, hm, rfl⟩))
      · rw [e]; exact List.mem_append_right _ (List.mem_map.mpr ⟨m, hm, rfl⟩)
    · rw [sort_rev h.nd h.st]
  unfold P_u_law_service_told
  simp only [key]
  rfl
theorem service_ok {v : Sv} (h : SvOk v) : P_u_law_service_told v = some (.inr v) := by
  unfold P_u_law_service_told
  rw [service_eq h]
  rfl
theorem leD_rw {i j i' j' : Int} {l : Str} (h : i < i' ∨ (i = i' ∧ j ≤ j')) : leD (eRw (i, l, j)) (eRw (i', l, j')) = true := by
  show (!(PyProof.Rows.lexLt PyProof.Rows.itemOrd [.inl 1, .inl i', .inl 1, .inr l.cps.toList, .inl 1, .inl j', .inl 0] [.inl 1, .inl i, .inl 1, .inr l.cps.toList, .inl 1, .inl j, .inl 0])) = true
  simp [PyProof.Rows.lexLt, PyProof.Rows.itemOrd, PyProof.Rows.itemLt]
  omega
end Lw
set_option Elab.async false
set_option linter.all false
set_option autoImplicit false
set_option maxRecDepth 100000
set_option maxHeartbeats 1000000
set_option synthInstance.maxSize 4000
set_option synthInstance.maxHeartbeats 400000
namespace Lw
open PySem Ev
def rowAt (k : Nat) : Rw := ((k : Int) / 100, "!a", (k : Int) % 100)
theorem rowsAt (n : Nat) : (((List.range n).map fun k : Nat => (k : Int)).map fun (x16 : Int) => (((x16.fdiv (100 : Int)), ("!a" : Str), (x16.fmod (100 : Int))) : Rw)) = (List.range n).map rowAt := by
  rw [List.map_map]
  refine List.map_congr_left fun k _ => ?_
  show (((k : Int).fdiv 100, ("!a" : Str), (k : Int).fmod 100) : Rw) = _
  rw [Int.fdiv_eq_ediv_of_nonneg _ (by decide), Int.fmod_eq_emod_of_nonneg _ (by decide)]
  rfl
theorem rowAt_nd (n : Nat) : ((List.range n).map rowAt).Nodup := by
  unfold List.Nodup
  rw [List.pairwise_map]
  refine List.pairwise_lt_range.imp fun {a b} h e => ?_
  have e1 : (a : Int) / 100 = (b : Int) / 100 := congrArg (·.1) e
  have e2 : (a : Int) % 100 = (b : Int) % 100 := congrArg (·.2.2) e
  omega
theorem rowAt_pw (n : Nat) : ((List.range n).map rowAt).Pairwise fun a b => leD (eRw a) (eRw b) = true := by
  rw [List.pairwise_map]
  refine List.pairwise_lt_range.imp fun {a b} h => leD_rw ?_
  omega
theorem slI_take {α : Type} (xs : List α) (k : Nat) (h : k ≤ xs.length) : slI xs none (some (k : Int)) = xs.take k := by
  unfold slI
  rw [HT.sIx_nat, HT.sIx_none, Nat.min_eq_left h, List.drop_zero, Nat.sub_zero]
theorem many_ok : P_u_law_partner_told ⟨100, (List.range 2000).map rowAt, [99]⟩ = some (.inr ⟨100, (List.range 2000).map rowAt, [99]⟩) := by
  refine part_ok ?_
  have := partA_eq (n := 100) (rows := (List.range 2000).map rowAt) (fin := [99]) (by decide) (by simp) (rowAt_nd _) (fun r hr => ?_) (fun r hr => ?_) (by decide) (by simp)
  · rw [this, sortE_of (rowAt_pw _)]
  · obtain ⟨k, hk, rfl⟩ := List.mem_map.mp hr
    have := List.mem_range.mp hk
    show (0 ≤ (k : Int) / 100 ∧ (k : Int) / 100 < 100) ∧ 0 ≤ (k : Int) % 100 ∧ (k : Int) % 100 < 100
    omega
  · obtain ⟨k, hk, rfl⟩ := List.mem_map.mp hr
    exact (by decide +kernel : P_is_label ("!a" : Str) = some true)
theorem svAt : SvOk ⟨["abcdefgh", "b"], ["a", "c", "zzzzzzzz"], 12, [(0, "!zzzzzzzz", 11), (0, "?abcdefgh", 0)], [0, 11]⟩ where
  fc := .of (by dsimp only; decide +kernel)
  nb := by decide
  ln := by decide
  nd := by decide
  rg := by decide
  lb := fun r hr => by
    simp only [List.mem_cons, List.not_mem_nil, or_false] at hr
    rcases hr with rfl | rfl
    · exact .inr (.inr ⟨"zzzzzzzz", by simp, rfl⟩)
    · exact .inr (.inl ⟨"abcdefgh", by simp, rfl⟩)
  fr := by decide
  fa := by decide
  st := List.pairwise_pair.mpr rfl
theorem at_bounds_ok : P_u_law_at_bounds = some true := by
  have e0 := service_ok svAt
  have e1 : P_labels_of ⟨["abcdefgh", "b"], ["a", "c", "zzzzzzzz"], 12, [(0, "!zzzzzzzz", 11), (0, "?abcdefgh", 0)], [0, 11]⟩ = some [("!abcdefgh" : Str), ("!b" : Str), ("?a" : Str), ("?c" : Str), ("?zzzzzzzz" : Str)] := by
    rw [labels_of_eq svAt.fc]
    rfl
  have e2 : P_u_law_partner_told ⟨2, [(0, "!abcdefgh", 1), (1, "?zzzzzzzz", 0)], [1]⟩ = some (.inr ⟨2, [(0, "!abcdefgh", 1), (1, "?zzzzzzzz", 0)], [1]⟩) ∧ P_u_law_mate ⟨2, [(0, "!abcdefgh", 1), (1, "?zzzzzzzz", 0)], [1]⟩ = some ⟨2, [(0, "!abcdefgh", 1), (1, "?zzzzzzzz", 0)], [1]⟩ := by
    have h := partA_eq (n := 2) (rows := [(0, "!abcdefgh", 1), (1, "?zzzzzzzz", 0)]) (fin := [1]) (by decide) (by decide) (by decide) (by decide) (by decide +kernel) (by decide) (by decide)
    rw [sortE_of (List.pairwise_pair.mpr rfl)] at h
    exact ⟨part_ok h, fo_eq (is_ob (T.o_of h) (is_rt rfl))⟩
  refine fo_eq (is_lt (is_ob e0 (is_ob (v := false) ?_ (is_ite (fun z => by cases z) fun _ => is_ob (v := .inl "no service") ?_ (is_ite (fun z => by simp at z) fun _ => is_lt (is_ob e2.1 (is_ob (v := false) ?_ (is_ite (fun z => by cases z) fun _ => is_ob (v := .inl "no partner") ?_ (is_ite (fun z => by simp at z) fun _ => is_ob (link_ok (k := ⟨2, "bag", 2, 2⟩) ⟨by decide, .inr rfl, by decide, by decide, by decide⟩) (is_ite (fun z => by simp at z) fun _ => is_ob (rangeO_nat (n := 2001) (by decide)) (is_lt (is_ob (v := .inr ⟨100, (List.range 2000).map rowAt, [99]⟩) ?_ (is_ite (fun z => ?_) fun _ => is_ob (v := .inl "no partner") ?_ (is_rt (by simp)))))))))))))))
  · simp only [decide_true, Bool.not_true]
    rw [made_eq svAt, Option.bind_some, e1, Option.bind_some]
    simp
  · have h := svc_bad (v := ⟨["b"], ["a", "c", "d", "e"], 1, [], []⟩) (m1 := true) (m2 := false) (by decide +kernel) (by decide +kernel) (by decide) (by decide) (by decide) (by decide) (by decide) fun _ z => by cases z
    unfold P_u_law_service_told
    rw [h]
    rfl
  · simp only [decide_true, Bool.not_true]
    rw [made_eq svAt, Option.bind_some, e2.2, Option.bind_some]
    have : P_is_partner_for ⟨["abcdefgh", "b"], ["a", "c", "zzzzzzzz"], 12, [(0, "!zzzzzzzz", 11), (0, "?abcdefgh", 0)], [0, 11]⟩ ⟨2, [(0, "!abcdefgh", 1), (1, "?zzzzzzzz", 0)], [1]⟩ = some true := fo_eq (is_ob e1 (is_lt (is_rt (by decide))))
    rw [this]
    rfl
  · exact part_bad (by decide) fun _ => ⟨_, List.mem_singleton.mpr rfl, by decide +kernel⟩
  · rw [rowsAt, show (2000 : Int) = ((2000 : Nat) : Int) from rfl, slI_take _ 2000 (by simp), ← List.map_take, List.take_range]
    exact many_ok
  · exfalso
    rw [rowsAt, show (2000 : Int) = ((2000 : Nat) : Int) from rfl, slI_take _ 2000 (by simp), ← List.map_take, List.take_range] at z
    simp at z
  · rw [rowsAt]
    refine part_bad (by simp) fun z => ?_
    have := z.2.2.1
    simp at this
theorem svOwn : SvOk ⟨["a"], ["c"], 1, [(0, "tau", 0)], [0]⟩ where
  fc := .of (by dsimp only; decide +kernel)
  nb := by decide
  ln := by decide
  nd := by decide
  rg := by decide
  lb := fun r hr => by
    simp only [List.mem_cons, List.not_mem_nil, or_false] at hr
    rcases hr with rfl
    exact .inl rfl
  fr := by decide
  fa := by decide
  st := by simp
theorem own_ok2 : P_u_law_own_lists = some true := by
  have h : OwnC F_C_Service F_C_Partner t2_u_law_own_lists := by
    refine ⟨obSv ⟨["a"], ["c"], 1, [(0, "tau", 0)], [0]⟩, obPt ⟨1, [(0, "!a", 0)], [0]⟩, (ok_C_Service ["a"] ["c"] 1 [(0, "tau", 0)] [0]).1 _ (service_eq svOwn), (ok_C_Partner 1 [(0, "!a", 0)] [0]).1 _ ?_, fun a c x => ⟨_, rfl⟩⟩
    rw [partA_eq (n := 1) (rows := [(0, "!a", 0)]) (fin := [0]) (by decide) (by decide) (by decide) (by decide) (by decide +kernel) (by decide) (by decide), sortE_of (by simp)]
  exact if_pos h
theorem svKept : SvOk ⟨[], [], 1, [(0, "tau", 0)], []⟩ where
  fc := .of (by dsimp only; decide +kernel)
  nb := by decide
  ln := by decide
  nd := by decide
  rg := by decide
  lb := fun r hr => by
    simp only [List.mem_cons, List.not_mem_nil, or_false] at hr
    rcases hr with rfl
    exact .inl rfl
  fr := by decide
  fa := by decide
  st := by simp
theorem face_ex1 (b : Bx) (hb : BxI b) : ∃ r, P_u_law_face b = some r ∧ (FcOk r.1 ∧ ∀ m ∈ r.1.1 ++ r.1.2, m.length = 1) ∧ BxI r.2 := by
  obtain ⟨⟨v, b1⟩, e1, v1, i1⟩ := draw_ex b 5 hb (by decide)
  obtain ⟨⟨w, b2⟩, e2, v2, i2⟩ := draw_ex b1 5 i1 (by decide)
  refine fo_is (is_ob e1 ?_)
  refine is_ob' (fun x => x ∈ [[("a" : Str)], [("a" : Str), ("b" : Str)], [], [("b" : Str)], [("a" : Str), ("b" : Str)]]) ?_ fun x hx => is_lt (is_ob e2 ?_)
  · obtain ⟨a, h1, h2, _⟩ := ixO_ex (xs := [[("a" : Str)], [("a" : Str), ("b" : Str)], [], [("b" : Str)], [("a" : Str), ("b" : Str)]]) (i := v) ⟨v1.1, by simpa using v1.2⟩
    exact ⟨a, h1, h2⟩
  refine is_ob' (fun x => x ∈ [[("c" : Str)], [("c" : Str), ("d" : Str)], [("c" : Str)], [], [("d" : Str)]]) ?_ fun y hy => is_lt (is_rt ⟨⟨?_, ?_⟩, i2⟩)
  · obtain ⟨a, h1, h2, _⟩ := ixO_ex (xs := [[("c" : Str)], [("c" : Str), ("d" : Str)], [("c" : Str)], [], [("d" : Str)]]) (i := w) ⟨v2.1, by simpa using v2.2⟩
    exact ⟨a, h1, h2⟩
  · have all : ∀ x ∈ [[("a" : Str)], [("a" : Str), ("b" : Str)], [], [("b" : Str)], [("a" : Str), ("b" : Str)]], ∀ y ∈ [[("c" : Str)], [("c" : Str), ("d" : Str)], [("c" : Str)], [], [("d" : Str)]], fcB (x, y) = true := by decide +kernel
    exact .of (all x hx y hy)
  · have all : ∀ x ∈ [[("a" : Str)], [("a" : Str), ("b" : Str)], [], [("b" : Str)], [("a" : Str), ("b" : Str)]], ∀ y ∈ [[("c" : Str)], [("c" : Str), ("d" : Str)], [("c" : Str)], [], [("d" : Str)]], ∀ m ∈ x ++ y, m.length = 1 := by decide
    exact all x hx y hy
theorem law_ok (ns : List Int) : P_law ns = some true := by
  obtain ⟨row, hrow, _⟩ := row_ex ns 50 (by decide)
  refine fo_eq (is_ob hrow (is_lt (is_ob (rangeO_nat (n := 4) (by decide)) (is_bind (N' := fun s : Bx => BxI s) (is_for (fun _ s => BxI s) (show (0 : Int) ≤ 0 by decide) (fun k x s hx hs => ?_) fun s hs => hs) fun s hs => ?_))))
  · obtain ⟨f, f1, ⟨f2, f4⟩, f3⟩ := face_ex1 s hs
    refine is_ob f1 (is_lt ?_)
    obtain ⟨⟨v, b2⟩, v1, ⟨v2, v4, v5, v6, v7⟩, v3⟩ := service_ex2 f.2 f.1 4 f3 f2 (by decide)
    refine is_ob v1 (is_lt (is_ob (service_eqR v2) (is_ite (fun z => by simp at z) fun _ => ?_)))
    have hm : ∀ m ∈ v.ins ++ v.outs, m.length = 1 := by
      rw [show v.ins = f.1.1 from v4, show v.outs = f.1.2 from v5]
      exact f4
    obtain ⟨⟨x, b3⟩, s1, s2, s3⟩ := spoiled_ex v2 hm v7 b2 v3
    refine is_ob s1 (is_ob s2 (is_ite (fun z => by simp at z) fun _ => is_ob (made_eq v2) (is_ob (labels_of_eq v2.fc) (is_ob (law_labels_eq v2.fc) (is_ite (fun z => by simp at z) fun _ => ?_)))))
    obtain ⟨⟨p, b4⟩, p1, p2, p3⟩ := partnerA_ex b3 pls 4 s3 (by decide) (by decide)
    refine is_ob p1 (is_lt ?_)
    have pl : ∀ r ∈ p.rows, P_is_label r.2.1 = some true := fun r hr => pls_ok _ (p2.lb r hr)
    have pnb : 1 ≤ p.n ∧ p.n ≤ 5 := p2.nb
    have pln : p.rows.length ≤ 16 := p2.ln
    have told : P_u_law_partner_told ⟨p.n, p.rows.reverse, p.fin⟩ = some (.inr p) := by
      refine part_ok (rows' := p.rows) ?_
      rw [partA_eq (n := p.n) (rows := p.rows.reverse) (by omega) (by simp; omega) ((List.reverse_perm p.rows).nodup_iff.mpr p2.nd) (fun r hr => p2.rg r (List.mem_reverse.mp hr)) (fun r hr => pl r (List.mem_reverse.mp hr)) p2.fr p2.fa, sort_rev p2.nd p2.st]
    have mate : P_u_law_mate p = some p := by
      refine fo_eq (is_ob (T.o_of (partA_eq (n := p.n) (by omega) (by omega) p2.nd p2.rg pl p2.fr p2.fa)) (is_rt ?_))
      rw [sortE_of p2.st]
    obtain ⟨⟨q, b5⟩, q1, q2, q3⟩ := bad_partner_ex p3 p2
    refine is_ob told (is_ob (v := (false, b5)) ?_ (is_ite (fun z => by cases z) fun _ => ?_))
    · simp only [decide_true, Bool.not_true]
      show ((P_u_law_bad_partner b4 p).bind _) = _
      rw [q1]
      show ((P_u_law_partner_told q).bind _) = _
      rw [q2]
      simp
    refine is_ob (compO_filt (p := fun x : Rw => !decide (x.2.1 ∈ lab (v.ins, v.outs))) (f := fun x => x) fun x _ => ?_) (is_lt (is_ob (made_eq v2) (is_ob mate (is_ob (v := p.rows.all fun x => decide (x.2.1 ∈ lab (v.ins, v.outs))) (fo_eq (is_ob (labels_of_eq v2.fc) (is_lt (is_rt rfl)))) (is_lt (is_ite (fun z => ?_) fun _ => ?_))))))
    · rw [law_labels_eq v2.fc]
      show (if (!decide (x.2.1 ∈ lab (v.ins, v.outs))) = true then Option.map some (some x) else some none) = _
      exact ite_som
    · exfalso
      rw [Bool.not_true, Bool.false_or, Bool.not_eq_true', decide_eq_false_iff_not] at z
      refine z ?_
      rw [List.map_id']
      cases hall : (p.rows.all fun x => decide (x.2.1 ∈ lab (v.ins, v.outs))) with
      | true =>
        symm
        rw [decide_eq_true_eq]
        have : (p.rows.filter fun x => !decide (x.2.1 ∈ lab (v.ins, v.outs))) = [] := by
          rw [List.filter_eq_nil_iff]
          intro a ha
          have := List.all_eq_true.mp hall a ha
          simp at this ⊢
          exact this
        rw [this]
        rfl
      | false =>
        symm
        rw [decide_eq_false_iff_not]
        intro e
        have e0 : (p.rows.filter fun x => !decide (x.2.1 ∈ lab (v.ins, v.outs))) = [] := List.length_eq_zero_iff.mp (Int.ofNat.inj e)
        rw [List.filter_eq_nil_iff] at e0
        obtain ⟨a, ha, h2⟩ := List.all_eq_false.mp hall
        have := e0 a ha
        simp at this h2
        exact h2 this
    obtain ⟨⟨k, b6⟩, k1, k2, k3⟩ := link_ex b5 q3
    obtain ⟨⟨y, b7⟩, y1, y2, y3⟩ := bad_link_ex k3
    refine is_ob k1 (is_lt (is_ob (link_ok k2) (is_ob (v := (false, b7)) ?_ (is_ite (fun z => by cases z) fun _ => is_nx y3))))
    simp only [decide_true, Bool.not_true]
    show ((P_u_law_bad_link b6).bind _) = _
    rw [y1]
    show ((P_u_law_link_told_1 y).bind _) = _
    rw [y2]
    simp
  · refine is_ob at_bounds_ok (is_ob (v := false) ?_ (is_ite (fun z => by cases z) fun _ => is_lt (is_ob (T.o_of (service_eq svKept)) (is_lt (is_ob (pushO_some (by decide)) (is_ob (links_eq (p := (⟨1, "row", 0, 0⟩, ⟨0, "bag", 0, 0⟩)) ⟨by decide, .inl rfl, by decide, by decide, by decide⟩ ⟨by decide, .inr rfl, by decide, by decide, by decide⟩) (is_lt (is_rt (by simp)))))))))
    rw [own_ok2]
    rfl
end Lw
namespace Lw
open PySem Ev
theorem law_true (ns : List Int) (h : ns.length ≤ 63) : F_law [.scr ns] = .ok (fz (.bl true)) := ok_law ns (law_ok ns)
end Lw
set_option maxHeartbeats 0
open PySem PySem.W PySem.Calls PyProof.Rows
theorem PySem.Challenge.cw_allwhotalk_k01_machines_are_checked_holds : PySem.Challenge.rw_allwhotalk_k01_machines_are_checked.Holds := by
  w_on; o_law
  refine HandSHeadRun.head_any (r := OpenLaw.row PySem.Challenge.rw_allwhotalk_k01_machines_are_checked) (q := view (OpenLaw.row PySem.Challenge.rw_allwhotalk_k01_machines_are_checked).prog [44]) (H := Lw.hk) (ob := Lw.ob) (M := 4000) (loose := Lw.names) (d := HandSHeadRun.topDef (OpenLaw.row PySem.Challenge.rw_allwhotalk_k01_machines_are_checked).prog 44) (kwd := []) Lw.ob_eq
    (by kernel_rfl) (fun s => by kernel_rfl) Lw.run (by kernel_rfl) (by kernel_rfl) (by kernel_rfl) (by rfl) (by first | assumption | decide +kernel) (by decide +kernel) ⟨rfl, rfl, rfl, rfl, rfl, by decide +kernel⟩ ?hw ?hc
  case hw => w_witness2
  case hc =>
    refine L2.walk_ofE (l := PySem.Challenge.rw_allwhotalk_k01_machines_are_checked) (n := 63) (k := 8) (x := "_law_script") (CX := Ev.CX0') rfl (by decide) (by kernel_rfl) ⟨rfl, by decide, by decide⟩ ?F (fun _ _ _ _ z => z)
    intro w mg fa h Y G hmg0
    obtain ⟨K, KX, c⟩ := Y
    have hmg : mg ("law" : PySem.Str) = some (.ref fa) := by
      have e : (HandSHeadRun.topDef (OpenLaw.row PySem.Challenge.rw_allwhotalk_k01_machines_are_checked).prog 44).name = ("law" : PySem.Str) := by kernel_rfl
      rw [← e]
      exact hmg0
    obtain ⟨fd, hb, hF⟩ := Lw.facts (P := (PySem.Challenge.rw_allwhotalk_k01_machines_are_checked).prog) (w := w) KX G hmg c (by kernel_rfl) (by kernel_rfl)
    refine ⟨K, fd, _, KX, hb, fun H a ns hl _ hS => ?_, hF⟩
    refine ⟨H, [.scr ns], Ev.Sub.refl, .held (.scr hS) .nil, ?_⟩
    rw [Lw.law_true ns hl]
    intro z M' H' _ px _
    cases px
    rfl
