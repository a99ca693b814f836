import PyProof.Rows.All
import Wide.All
import OpenK.AllK
import Wide.FinOn
import HandS.ForMost
import HandS.ForExc
import HandS.Lambda
import KE.KDictKeyed
import KE.KeyNested
import HandS.Flow
import HandS.TupAny
import HandS.Defaults
import HandS.IsInst
import HandS.Deep
import HandS.Zip
import HandS.Walk
import HandS.TupMul
import HandS.Style
import HandS.Strs
import HandS.CallSlots
import HandS.ExcInit
import HandS.ExcField
import KE.GoesNew
import HandS.TryOnly
import HandS.Head0
import HandS.Head1
import HandS.Head2
import HandS.HeadEnd
import HandS.HeadHook1
import HandS.HeadHook2
import HandS.HeadHook3
import HandS.HeadHook4
import HandS.OwnEq
import KE.KDictDisplayH
import KE.KDictOf
import KE.KDictCopyH
import KE.KEqDict
import HandS.TupLe
import KE.KExcIs
import HandS.Conv
import HandS.ExcValue
import HandS.FltList
import HandS.SetKeys
import HandS.SetTxt0
import HandS.SetFor
import PyProof.Rows.SortShellAny
import PyProof.Rows.StrInSeq3
import HandS.TupLen
import HandS.EndTab
import HandS.MakeKwOnly
import KE.KSortTupG
import HandS.TupSets
import KE.KUnpackStar
import HandS.RaiseMore
import HandS.StrMore
import PyProof.EqKinds
import KE.DataCmp
import KE.SortData
import KE.SortKeyHeap
import HandS.DictComp
import HandS.DictTup
import HandS.SortKw
import HandS.HotCalls
import KE.DataMinMax
import KE.KDictWalk
import KE.DataMinKey
import PyProof.Rows.TupTab
import HandS.CallLocal
import HandS.More
import KE.KDictZip
import KE.KDictList
import HandS.Nested
import HandS.ListItems
import KE.KSortTup
import HandS.Sort
import HandS.SetBool
import HandS.ExcBuiltin
import PySem.Challenge.RW_barredbox_k49_words_refused
set_option Elab.async false
set_option linter.all false
set_option maxRecDepth 100000
set_option maxHeartbeats 2000000
namespace BB
open L2 PySem PySem.Spec PyProof.Rows
inductive D where
  | non | bl (b : Bool) | int (i : Int) | str (x : Str)
  | tup (xs : List D) | lst (xs : List D) | frz (xs : List D)
  /-- a tuple that tuple(..) laid: its object has no dict of its own -/
  | ntup (xs : List D)
  /-- a tuple that is tracked as one: a key of a dict -/
  | htup (xs : List D)
  | dK (kvs : List (Key × D)) | dT (kvs : List (List Key × D))
  | ins (C : Addr) (fs : List (Str × D))
  | ref (a : Addr) | ty (n : String)
  /-- a caught exception: its class, its fields -/
  | exc (c : Value) (fs : List (Str × D))
  deriving Inhabited
inductive MO where
  | lst (xs : List D)
  | dK (kvs : List (Key × D))
  | dT (kvs : List (List Key × D))
  /-- a dict whose keys are whole numbers in tuples, nested -/
  | dN (kvs : List (NestedKey × D))
  /-- .. and texts: of the world w's hashes -/
  | dW (w : World) (kvs : List (NestedKey × D))
  | ins (C : Addr) (fs : List (Str × D))
  | own (x : Addr)
  /-- the state of the draws: a list of a list (at c) and two ints -/
  | gen (c : Addr)
  /-- a def's table of code objects: each bears the name q -/
  | tab (q : Str)
  /-- any other thing: what its object is, by what stands in it; what is fixed beside it; the data in it -/
  | xt (T : Addr → List V → Heap → Prop) (fx : List (Addr × (Heap → Prop))) (ds : List D)
abbrev Mem := Addr → Option MO
def mset (M : Mem) (a : Addr) (o : MO) : Mem := fun b => if b = a then some o else M b
def mdel (M : Mem) (a : Addr) : Mem := fun b => if b = a then none else M b
theorem mset_same {M : Mem} {a : Addr} {o : MO} : mset M a o a = some o := if_pos rfl
theorem mset_ne {M : Mem} {a b : Addr} {o : MO} (h : b ≠ a) : mset M a o b = M b := if_neg h
theorem mdel_same {M : Mem} {a : Addr} : mdel M a a = none := if_pos rfl
theorem mdel_ne {M : Mem} {a b : Addr} (h : b ≠ a) : mdel M a b = M b := if_neg h
theorem mset_mset {M : Mem} {a : Addr} {o u : MO} : mset (mset M a o) a u = mset M a u := by
  funext b; unfold mset; split <;> rfl
theorem mdel_mset {M : Mem} {a : Addr} {o : MO} (h : M a = none) : mdel (mset M a o) a = M := by
  funext b
  by_cases e : b = a
  · subst e; simp [mset, mdel, h]
  · simp [mset, mdel, e]
theorem mdel_mset_ne {M : Mem} {a b : Addr} {o : MO} (h : a ≠ b) : mdel (mset M a o) b = mset (mdel M b) a o := by
  funext c
  by_cases e : c = b
  · subst e; simp [mset, mdel, h.symm]
  · simp [mset, mdel, e]
theorem mset_comm {M : Mem} {a b : Addr} {o u : MO} (h : a ≠ b) : mset (mset M a o) b u = mset (mset M b u) a o := by
  funext c
  by_cases e : c = b
  · subst e; simp [mset, h.symm]
  · simp [mset, e]
theorem mem_ne {M : Mem} {a b : Addr} {o : MO} (h : M a = some o) (h' : M b = none) : a ≠ b := by
  rintro rfl
  rw [h] at h'
  cases h'
theorem mem_ne2 {M : Mem} {a b : Addr} {o u : MO} (h : M a = some o) (h' : M b = some u) (d : o ≠ u) : a ≠ b := by
  rintro rfl
  exact d (Option.some.inj (h.symm.trans h'))
def ExV (cls : Value) (d : Option Addr) (a : Addr) : HO := .ext fun h => ∃ (o : Obj) (vs : Array Value), h.get? a = some o ∧ Zc cls d o ∧ o.data = .fields vs
def strip : HO → HO
  | .frz _ (.dK k) => .dK k
  | .frz _ (.dT k) => .dT k
  | o => o
theorem strip_lst {o : HO} {xs} (h : strip o = .lst xs) : o = .lst xs := by
  unfold strip at h; split at h <;> first | exact h | cases h
theorem strip_tup {o : HO} {xs} (h : strip o = .tup xs) : o = .tup xs := by
  unfold strip at h; split at h <;> first | exact h | cases h
theorem strip_ins {o : HO} {C dx fs} (h : strip o = .ins C dx fs) : o = .ins C dx fs := by
  unfold strip at h; split at h <;> first | exact h | cases h
theorem strip_own {o : HO} {x} (h : strip o = .own x) : o = .own x := by
  unfold strip at h; split at h <;> first | exact h | cases h
theorem strip_frzL {o : HO} {ob xs} (h : strip o = .frz ob (.lst xs)) : o = .frz ob (.lst xs) := by
  unfold strip at h; split at h <;> first | exact h | cases h
theorem strip_frzT {o : HO} {ob xs} (h : strip o = .frz ob (.tup xs)) : o = .frz ob (.tup xs) := by
  unfold strip at h; split at h <;> first | exact h | cases h
def Ext (I I' : Hp) : Prop := (∀ a o, I a = some o → ∃ o', I' a = some o' ∧ strip o' = strip o) ∧ ∀ a ob u, I a = some (.frz ob u) → I' a = some (.frz ob u)
theorem Ext.refl (I : Hp) : Ext I I := ⟨fun a o h => ⟨o, h, rfl⟩, fun _ _ _ h => h⟩
theorem Ext.trans {I J L : Hp} (x : Ext I J) (y : Ext J L) : Ext I L := ⟨fun a o h => by
  obtain ⟨o1, h1, e1⟩ := x.1 a o h
  obtain ⟨o2, h2, e2⟩ := y.1 a o1 h1
  exact ⟨o2, h2, e2.trans e1⟩, fun a ob u h => y.2 a ob u (x.2 a ob u h)⟩
theorem Ext.new {I : Hp} {p : Addr} {o : HO} (h : I p = none) : Ext I (upd I p o) := ⟨fun a u e => ⟨u, by rw [upd_ne (ne_of_none e h)]; exact e, rfl⟩, fun a ob u e => by rw [upd_ne (ne_of_none e h)]; exact e⟩
theorem Ext.tup {I J : Hp} (x : Ext I J) {a : Addr} {xs} (h : I a = some (.tup xs)) : J a = some (.tup xs) := by
  obtain ⟨o, h1, e⟩ := x.1 a _ h
  rw [h1, strip_tup e]
theorem Ext.lst {I J : Hp} (x : Ext I J) {a : Addr} {xs} (h : I a = some (.lst xs)) : J a = some (.lst xs) := by
  obtain ⟨o, h1, e⟩ := x.1 a _ h
  rw [h1, strip_lst e]
theorem Ext.ins {I J : Hp} (x : Ext I J) {a : Addr} {C dx fs} (h : I a = some (.ins C dx fs)) : J a = some (.ins C dx fs) := by
  obtain ⟨o, h1, e⟩ := x.1 a _ h
  rw [h1, strip_ins e]
theorem strip_ext {o : HO} {φ} (h : strip o = .ext φ) : o = .ext φ := by
  unfold strip at h; split at h <;> first | exact h | cases h
theorem Ext.exv {I J : Hp} (x : Ext I J) {a : Addr} {c d} (h : I a = some (ExV c d a)) : J a = some (ExV c d a) := by
  obtain ⟨o, h1, e⟩ := x.1 a _ h
  rw [h1]
  exact congrArg some (strip_ext e)
theorem strip_xd {o : HO} {fs} (h : strip o = .xd fs) : o = .xd fs := by
  unfold strip at h; split at h <;> first | exact h | cases h
theorem Ext.xd {I J : Hp} (x : Ext I J) {a : Addr} {fs} (h : I a = some (.xd fs)) : J a = some (.xd fs) := by
  obtain ⟨o, h1, e⟩ := x.1 a _ h
  rw [h1, strip_xd e]
theorem Ext.frzT {I J : Hp} (x : Ext I J) {a : Addr} {ob xs} (h : I a = some (.frz ob (.tup xs))) : J a = some (.frz ob (.tup xs)) := by
  obtain ⟨o, h1, e⟩ := x.1 a _ h
  rw [h1, strip_frzT e]
theorem Ext.own {I J : Hp} (x : Ext I J) {a : Addr} {y} (h : I a = some (.own y)) : J a = some (.own y) := by
  obtain ⟨o, h1, e⟩ := x.1 a _ h
  rw [h1, strip_own e]
theorem Ext.sqT {I J : Hp} (x : Ext I J) {K : PySem.W.Frag} {a : Addr} {xs} (h : SqT K I a xs) : SqT K J a xs := by
  rcases h with (h | fz) | h
  · exact .inl (.inl (x.tup h))
  · obtain ⟨o, h⟩ := fz
    obtain ⟨u, h1, e⟩ := x.1 a _ h
    refine .inl (.inr ⟨o, ?_⟩)
    rw [h1, strip_frzT e]
  · exact .inr h
theorem Ext.sqL {I J : Hp} (x : Ext I J) {K : PySem.W.Frag} {a : Addr} {xs} (h : SqL K I a xs) : SqL K J a xs := by
  rcases h with (h | fz) | h
  · exact .inl (.inl (x.lst h))
  · obtain ⟨o, h⟩ := fz
    obtain ⟨u, h1, e⟩ := x.1 a _ h
    refine .inl (.inr ⟨o, ?_⟩)
    rw [h1, strip_frzL e]
  · exact .inr h
mutual
inductive Rp (K : PySem.W.Frag) (I : Hp) : V → D → Prop
  | non : Rp K I .non .non
  | bl (b) : Rp K I (.bl b) (.bl b)
  | int (i) : Rp K I (.int i) (.int i)
  | str (x) : Rp K I (.str x) (.str x)
  | ty (n) : Rp K I (.ty n) (.ty n)
  | ref (a) : Rp K I (.ref a) (.ref a)
  | tup {a vs ds} : SqT K I a vs → Rps K I vs ds → Rp K I (.ref a) (.tup ds)
  | htup {a vs ds} : I a = some (.tup vs) → Rps K I vs ds → Rp K I (.ref a) (.htup ds)
  | ntup {a ob vs ds} : I a = some (.frz ob (.tup vs)) → ob.cls = .type "tuple" → ob.dict = none → Rps K I vs ds → Rp K I (.ref a) (.ntup ds)
  | lst {a vs ds} : I a = some (.lst vs) → Rps K I vs ds → Rp K I (.ref a) (.lst ds)
  | frz {a vs ds} : SqL K I a vs → Rps K I vs ds → Rp K I (.ref a) (.frz ds)
  | dK {a o kvs ds} : I a = some o → strip o = .dK kvs → RpK K I kvs ds → Rp K I (.ref a) (.dK ds)
  | dT {a o kvs ds} : I a = some o → strip o = .dT kvs → RpT K I kvs ds → Rp K I (.ref a) (.dT ds)
  | ins {a C dx fvs fs} : I a = some (.ins C dx fvs) → I dx = some (.own a) → RpF K I fvs fs → Rp K I (.ref a) (.ins C fs)
  | exc0 {a c} : I a = some (ExV c none a) → Rp K I (.ref a) (.exc c [])
  | excD {a c d fvs fs} : I a = some (ExV c (some d) a) → I d = some (.xd fvs) → RpF K I fvs fs → Rp K I (.ref a) (.exc c fs)
inductive Rps (K : PySem.W.Frag) (I : Hp) : List V → List D → Prop
  | nil : Rps K I [] []
  | cons {v vs d ds} : Rp K I v d → Rps K I vs ds → Rps K I (v :: vs) (d :: ds)
inductive RpK (K : PySem.W.Frag) (I : Hp) : List (Key × V) → List (Key × D) → Prop
  | nil : RpK K I [] []
  | cons {k v vs d ds} : Rp K I v d → RpK K I vs ds → RpK K I ((k, v) :: vs) ((k, d) :: ds)
inductive RpT (K : PySem.W.Frag) (I : Hp) : List (List Key × V) → List (List Key × D) → Prop
  | nil : RpT K I [] []
  | cons {k v vs d ds} : Rp K I v d → RpT K I vs ds → RpT K I ((k, v) :: vs) ((k, d) :: ds)
inductive RpF (K : PySem.W.Frag) (I : Hp) : List (Str × V) → List (Str × D) → Prop
  | nil : RpF K I [] []
  | cons {k v vs d ds} : Rp K I v d → RpF K I vs ds → RpF K I ((k, v) :: vs) ((k, d) :: ds)
end
section
variable {K : PySem.W.Frag} {I J : Hp}
mutual
theorem Rp.ext (x : Ext I J) : ∀ {v d}, Rp K I v d → Rp K J v d
  | _, _, .non => .non
  | _, _, .bl b => .bl b
  | _, _, .int i => .int i
  | _, _, .str i => .str i
  | _, _, .ty i => .ty i
  | _, _, .ref i => .ref i
  | _, _, .tup h r => .tup (x.sqT h) (Rps.ext x r)
  | _, _, .htup h r => .htup (x.tup h) (Rps.ext x r)
  | _, _, .ntup h c d r => .ntup (x.frzT h) c d (Rps.ext x r)
  | _, _, .lst h r => .lst (x.lst h) (Rps.ext x r)
  | _, _, .frz h r => .frz (x.sqL h) (Rps.ext x r)
  | _, _, .dK h e r => let ⟨_, h1, e1⟩ := x.1 _ _ h; .dK h1 (e1.trans e) (RpK.ext x r)
  | _, _, .dT h e r => let ⟨_, h1, e1⟩ := x.1 _ _ h; .dT h1 (e1.trans e) (RpT.ext x r)
  | _, _, .ins h e r => .ins (x.ins h) (x.own e) (RpF.ext x r)
  | _, _, .exc0 h => .exc0 (x.exv h)
  | _, _, .excD h e r => .excD (x.exv h) (x.xd e) (RpF.ext x r)
theorem Rps.ext (x : Ext I J) : ∀ {v d}, Rps K I v d → Rps K J v d
  | _, _, .nil => .nil
  | _, _, .cons a b => .cons (Rp.ext x a) (Rps.ext x b)
theorem RpK.ext (x : Ext I J) : ∀ {v d}, RpK K I v d → RpK K J v d
  | _, _, .nil => .nil
  | _, _, .cons a b => .cons (Rp.ext x a) (RpK.ext x b)
theorem RpT.ext (x : Ext I J) : ∀ {v d}, RpT K I v d → RpT K J v d
  | _, _, .nil => .nil
  | _, _, .cons a b => .cons (Rp.ext x a) (RpT.ext x b)
theorem RpF.ext (x : Ext I J) : ∀ {v d}, RpF K I v d → RpF K J v d
  | _, _, .nil => .nil
  | _, _, .cons a b => .cons (Rp.ext x a) (RpF.ext x b)
end
theorem Rp.tup_inv {v : V} {ds : List D} (h : Rp K I v (.tup ds)) : ∃ a vs, v = .ref a ∧ SqT K I a vs ∧ Rps K I vs ds := by cases h with | tup a b => exact ⟨_, _, rfl, a, b⟩
theorem Rp.htup_inv {v : V} {ds : List D} (h : Rp K I v (.htup ds)) : ∃ a vs, v = .ref a ∧ I a = some (.tup vs) ∧ Rps K I vs ds := by cases h with | htup a b => exact ⟨_, _, rfl, a, b⟩
theorem Rp.ntup_inv {v : V} {ds : List D} (h : Rp K I v (.ntup ds)) : ∃ a ob vs, v = .ref a ∧ I a = some (.frz ob (.tup vs)) ∧ ob.cls = .type "tuple" ∧ ob.dict = none ∧ Rps K I vs ds := by cases h with | ntup a b c d => exact ⟨_, _, _, rfl, a, b, c, d⟩
def nrm : D → D
  | .ntup xs => .tup xs
  | .htup xs => .tup xs
  | d => d
theorem Rp.nrm {v : V} {d : D} (h : Rp K I v d) : Rp K I v (nrm d) := by
  cases d with
  | ntup xs => obtain ⟨a, ob, vs, rfl, h1, _, _, r⟩ := h.ntup_inv; exact .tup (.inl (.inr ⟨ob, h1⟩)) r
  | htup xs => obtain ⟨a, vs, rfl, h1, r⟩ := h.htup_inv; exact .tup (.inl (.inl h1)) r
  | _ => exact h
theorem Rp.lst_inv {v : V} {ds : List D} (h : Rp K I v (.lst ds)) : ∃ a vs, v = .ref a ∧ I a = some (.lst vs) ∧ Rps K I vs ds := by cases h with | lst a b => exact ⟨_, _, rfl, a, b⟩
theorem Rp.frz_inv {v : V} {ds : List D} (h : Rp K I v (.frz ds)) : ∃ a vs, v = .ref a ∧ SqL K I a vs ∧ Rps K I vs ds := by cases h with | frz a b => exact ⟨_, _, rfl, a, b⟩
theorem Rp.ins_inv {v : V} {C fs} (h : Rp K I v (.ins C fs)) : ∃ a dx fvs, v = .ref a ∧ I a = some (.ins C dx fvs) ∧ I dx = some (.own a) ∧ RpF K I fvs fs := by cases h with | ins a b c => exact ⟨_, _, _, rfl, a, b, c⟩
theorem Rp.non_inv {v : V} (h : Rp K I v .non) : v = .non := by cases h; rfl
theorem Rp.bl_inv {v : V} {b} (h : Rp K I v (.bl b)) : v = .bl b := by cases h; rfl
theorem Rp.int_inv {v : V} {b} (h : Rp K I v (.int b)) : v = .int b := by cases h; rfl
theorem Rp.str_inv {v : V} {b} (h : Rp K I v (.str b)) : v = .str b := by cases h; rfl
theorem Rp.ty_inv {v : V} {b} (h : Rp K I v (.ty b)) : v = .ty b := by cases h; rfl
theorem Rp.ref_inv {v : V} {b} (h : Rp K I v (.ref b)) : v = .ref b := by cases h; rfl
theorem Rps.length : ∀ {vs : List V} {ds : List D}, Rps K I vs ds → vs.length = ds.length
  | _, _, .nil => rfl
  | _, _, .cons _ r => congrArg (· + 1) (Rps.length r)
theorem Rps.nil_inv {vs : List V} (h : Rps K I vs []) : vs = [] := by cases h; rfl
theorem Rps.cons_inv {vs : List V} {d ds} (h : Rps K I vs (d :: ds)) : ∃ v r, vs = v :: r ∧ Rp K I v d ∧ Rps K I r ds := by cases h with | cons a b => exact ⟨_, _, rfl, a, b⟩
theorem Rps.one_inv {vs : List V} {d} (h : Rps K I vs [d]) : ∃ v, vs = [v] ∧ Rp K I v d := by
  obtain ⟨v, r, rfl, a, b⟩ := h.cons_inv
  exact ⟨v, by rw [b.nil_inv], a⟩
theorem Rps.two_inv {vs : List V} {d e} (h : Rps K I vs [d, e]) : ∃ v u, vs = [v, u] ∧ Rp K I v d ∧ Rp K I u e := by
  obtain ⟨v, r, rfl, a, b⟩ := h.cons_inv
  obtain ⟨u, rfl, c⟩ := b.one_inv
  exact ⟨v, u, rfl, a, c⟩
theorem Rps.append : ∀ {vs us : List V} {ds es : List D}, Rps K I vs ds → Rps K I us es → Rps K I (vs ++ us) (ds ++ es)
  | _, _, _, _, .nil, s => s
  | _, _, _, _, .cons a r, s => .cons a (Rps.append r s)
theorem Rps.get : ∀ {vs : List V} {ds : List D} {i : Nat} {d : D}, Rps K I vs ds → ds[i]? = some d → ∃ v, vs[i]? = some v ∧ Rp K I v d
  | _, _, _, _, .nil, e => absurd e (by simp)
  | _, _, 0, _, .cons a _, e => by simp at e; subst e; exact ⟨_, rfl, a⟩
  | _, _, i + 1, d, .cons _ r, e => by
    obtain ⟨v, h1, h2⟩ := Rps.get (i := i) (d := d) r (by simpa using e)
    exact ⟨v, by simpa using h1, h2⟩
theorem Rps.get' : ∀ {vs : List V} {ds : List D} {i : Nat} {v : V}, Rps K I vs ds → vs[i]? = some v → ∃ d, ds[i]? = some d ∧ Rp K I v d
  | _, _, _, _, .nil, e => absurd e (by simp)
  | _, _, 0, _, .cons a _, e => by simp at e; subst e; exact ⟨_, rfl, a⟩
  | _, _, i + 1, d, .cons _ r, e => by
    obtain ⟨v, h1, h2⟩ := Rps.get' (i := i) (v := d) r (by simpa using e)
    exact ⟨v, by simpa using h1, h2⟩
theorem Rps.set : ∀ {vs : List V} {ds : List D} (i : Nat) {v d}, Rp K I v d → Rps K I vs ds → Rps K I (vs.set i v) (ds.set i d)
  | _, _, _, _, _, _, .nil => .nil
  | _, _, 0, _, _, h, .cons _ r => .cons h r
  | _, _, i + 1, _, _, h, .cons a r => .cons a (Rps.set i h r)
theorem Rps.take : ∀ {vs : List V} {ds : List D} (n : Nat), Rps K I vs ds → Rps K I (vs.take n) (ds.take n)
  | _, _, 0, _ => .nil
  | _, _, _ + 1, .nil => .nil
  | _, _, n + 1, .cons a r => .cons a (Rps.take n r)
theorem Rps.drop : ∀ {vs : List V} {ds : List D} (n : Nat), Rps K I vs ds → Rps K I (vs.drop n) (ds.drop n)
  | _, _, 0, r => r
  | _, _, _ + 1, .nil => .nil
  | _, _, n + 1, .cons _ r => Rps.drop n r
theorem RpF.look : ∀ {vs : List (Str × V)} {ds : List (Str × D)} {f : Str} {d : D}, RpF K I vs ds → ds.lookup f = some d → ∃ v, vs.lookup f = some v ∧ Rp K I v d
  | _, _, _, _, .nil, e => by cases e
  | (k, v) :: vs, _, f, d, .cons a r, e => by
    by_cases h : (f == k) = true
    · simp only [List.lookup, h, Option.some.injEq] at e ⊢
      subst e
      exact ⟨_, rfl, a⟩
    · have h' : (f == k) = false := by simpa using h
      simp only [List.lookup, h'] at e ⊢
      exact RpF.look r e
theorem RpF.none : ∀ {vs : List (Str × V)} {ds : List (Str × D)} {f : Str}, RpF K I vs ds → ds.lookup f = none → vs.lookup f = none
  | _, _, _, .nil, e => rfl
  | (k, v) :: vs, _, f, .cons a r, e => by
    by_cases h : (f == k) = true
    · simp only [List.lookup, h] at e
      cases e
    · have h' : (f == k) = false := by simpa using h
      simp only [List.lookup, h'] at e ⊢
      exact RpF.none r e
theorem RpF.length : ∀ {vs : List (Str × V)} {ds : List (Str × D)}, RpF K I vs ds → vs.length = ds.length
  | _, _, .nil => rfl
  | _, _, .cons _ r => congrArg (· + 1) (RpF.length r)
def putD (f : Str) (d : D) : List (Str × D) → List (Str × D)
  | [] => [(f, d)]
  | (g, e) :: r => if g = f then (g, d) :: r else (g, e) :: putD f d r
theorem RpF.put {f : Str} {v : V} {d : D} (h : Rp K I v d) : ∀ {vs : List (Str × V)} {ds : List (Str × D)}, RpF K I vs ds → RpF K I (putF f v vs) (putD f d ds)
  | _, _, .nil => .cons h .nil
  | (k, u) :: vs, _, .cons a r => by
    show RpF K I (if k = f then _ else _) (if k = f then _ else _)
    by_cases e : k = f
    · rw [if_pos e, if_pos e]
      exact .cons h r
    · rw [if_neg e, if_neg e]
      exact .cons a (RpF.put h r)
end
mutual
inductive NI (I : Hp) : NestedKey → V → Prop
  | num (i) : NI I (.num i) (.int i)
  | tup {a vs ks} : I a = some (.tup vs) → NIs I ks vs → NI I (.tup ks) (.ref a)
inductive NIs (I : Hp) : List NestedKey → List V → Prop
  | nil : NIs I [] []
  | cons {k v ks vs} : NI I k v → NIs I ks vs → NIs I (k :: ks) (v :: vs)
end
section
variable {I J H : Hp}
mutual
theorem NI.to (x : ∀ a xs, I a = some (.tup xs) → J a = some (.tup xs)) : ∀ {k v}, NI I k v → NI J k v
  | _, _, .num i => .num i
  | _, _, .tup h r => .tup (x _ _ h) (NIs.to x r)
theorem NIs.to (x : ∀ a xs, I a = some (.tup xs) → J a = some (.tup xs)) : ∀ {k v}, NIs I k v → NIs J k v
  | _, _, .nil => .nil
  | _, _, .cons a b => .cons (NI.to x a) (NIs.to x b)
end
mutual
theorem NI.hash (w w' : World) : ∀ {k v}, NI I k v → k.hash w = k.hash w'
  | _, _, .num i => by rw [NestedKey.hash, NestedKey.hash]
  | _, _, .tup h r => by rw [NestedKey.hash, NestedKey.hash, NIs.hash w w' r]
theorem NIs.hash (w w' : World) : ∀ {k v}, NIs I k v → NestedKey.hashes w k = NestedKey.hashes w' k
  | _, _, .nil => by rw [NestedKey.hashes, NestedKey.hashes]
  | _, _, .cons a b => by rw [NestedKey.hashes, NestedKey.hashes, NI.hash w w' a, NIs.hash w w' b]
end
mutual
theorem NI.is {P : Program} {w : World} {h : Heap} (ok : HOk P w H h) : ∀ {k v} {u : Value}, NI H k v → RelV v u → NestedIs h k u
  | _, _, _, .num i, r => by obtain ⟨t, rfl⟩ := r; exact .int i t
  | _, _, _, .tup e n, r => by
    cases r
    obtain ⟨_, its, rv, o, n0, ho, hc, hd⟩ : ∃ (_ : True) (its : List Value) (_ : Vals _ its) (o : Obj) (n : Nat), h.get? _ = some o ∧ o.cls = .type "tuple" ∧ o.data = .seq its.toArray n := by
      obtain ⟨_, its, rv, o, ho, hc, n, hd⟩ := ok _ _ e
      exact ⟨trivial, its, rv, o, n, ho, hc, hd⟩
    exact .tup ho hc hd (by rw [List.toList_toArray]; exact NIs.is ok n rv)
theorem NIs.is {P : Program} {w : World} {h : Heap} (ok : HOk P w H h) : ∀ {ks vs} {us : List Value}, NIs H ks vs → Vals vs us → NestedAll h ks us
  | _, _, _, .nil, r => by cases r; exact .nil
  | _, _, _, .cons a b, r => by
    cases r with
    | cons r1 r2 => exact .cons (NI.is ok a r1) (NIs.is ok b r2)
end
end
abbrev NEnt := NestedKey × Addr × V
abbrev NEntV := NestedKey × Addr × Value
def NPair (p : NEnt) (q : NEntV) : Prop := p.1 = q.1 ∧ p.2.1 = q.2.1 ∧ RelV p.2.2 q.2.2
def NDict (w : World) (h : Heap) (a : Addr) (xs : List NEnt) : Prop := (a == sysModules) = false ∧ xs.length ≤ sizeLine ∧ ∃ ys : List NEntV, Paired NPair xs ys ∧
  ∃ o es ep, h.get? a = some o ∧ o.ExactDict ∧ o.data = .dict es ep ∧ es.toList = ys.map (fun x => (⟨x.1.hash w, .ref x.2.1, x.2.2⟩ : DictEntry)) ∧ (ys.map (·.1)).Nodup
def NDO (w : World) (a : Addr) (xs : List NEnt) : HO := .ext fun h => NDict w h a xs
theorem ndo_ok {P : Program} {w w' : World} {H : Hp} {h : Heap} {a : Addr} {xs : List NEnt} (T : NDict w h a xs) : ObjOk P w' H h a (NDO w a xs) :=
  ⟨T, let ⟨_, _, _, _, o, _, _, e, _⟩ := T; ⟨o, e⟩, fun _ _ ⟨hd, hl, ys, r, o, es, ep, e, q⟩ k => ⟨hd, hl, ys, r, o, es, ep, k o e, q⟩⟩
inductive RpN (K : PySem.W.Frag) (I : Hp) : List NEnt → List (NestedKey × D) → Prop
  | nil : RpN K I [] []
  | cons {k b v vs d ds} : NI I k (.ref b) → k.depth ≤ 8 → Rp K I v d → RpN K I vs ds → RpN K I ((k, b, v) :: vs) ((k, d) :: ds)
theorem RpN.ext {K : PySem.W.Frag} {I J : Hp} (x : Ext I J) : ∀ {v d}, RpN K I v d → RpN K J v d
  | _, _, .nil => .nil
  | _, _, .cons a z b c => .cons (a.to fun _ _ h => x.tup h) z (b.ext x) (RpN.ext x c)
mutual
inductive NJ (I : Hp) : NestedKey → V → Prop
  | num (i) : NJ I (.num i) (.int i)
  | text (x) : NJ I (.text x) (.str x)
  | tup {a vs ks} : I a = some (.tup vs) → NJs I ks vs → NJ I (.tup ks) (.ref a)
inductive NJs (I : Hp) : List NestedKey → List V → Prop
  | nil : NJs I [] []
  | cons {k v ks vs} : NJ I k v → NJs I ks vs → NJs I (k :: ks) (v :: vs)
end
section
variable {I J H : Hp}
mutual
theorem NJ.to (x : ∀ a xs, I a = some (.tup xs) → J a = some (.tup xs)) : ∀ {k v}, NJ I k v → NJ J k v
  | _, _, .num i => .num i
  | _, _, .text i => .text i
  | _, _, .tup h r => .tup (x _ _ h) (NJs.to x r)
theorem NJs.to (x : ∀ a xs, I a = some (.tup xs) → J a = some (.tup xs)) : ∀ {k v}, NJs I k v → NJs J k v
  | _, _, .nil => .nil
  | _, _, .cons a b => .cons (NJ.to x a) (NJs.to x b)
end
mutual
theorem NJ.is {P : Program} {w : World} {h : Heap} (ok : HOk P w H h) : ∀ {k v} {u : Value}, NJ H k v → RelV v u → NestedIs h k u
  | _, _, _, .num i, r => by obtain ⟨t, rfl⟩ := r; exact .int i t
  | _, _, _, .text i, r => by obtain ⟨t, rfl⟩ := r; exact .text i t
  | _, _, _, .tup e n, r => by
    cases r
    obtain ⟨_, its, rv, o, n0, ho, hc, hd⟩ : ∃ (_ : True) (its : List Value) (_ : Vals _ its) (o : Obj) (n : Nat), h.get? _ = some o ∧ o.cls = .type "tuple" ∧ o.data = .seq its.toArray n := by
      obtain ⟨_, its, rv, o, ho, hc, n, hd⟩ := ok _ _ e
      exact ⟨trivial, its, rv, o, n, ho, hc, hd⟩
    exact .tup ho hc hd (by rw [List.toList_toArray]; exact NJs.is ok n rv)
theorem NJs.is {P : Program} {w : World} {h : Heap} (ok : HOk P w H h) : ∀ {ks vs} {us : List Value}, NJs H ks vs → Vals vs us → NestedAll h ks us
  | _, _, _, .nil, r => by cases r; exact .nil
  | _, _, _, .cons a b, r => by
    cases r with
    | cons r1 r2 => exact .cons (NJ.is ok a r1) (NJs.is ok b r2)
end
end
inductive RpJ (K : PySem.W.Frag) (I : Hp) : List NEnt → List (NestedKey × D) → Prop
  | nil : RpJ K I [] []
  | cons {k b v vs d ds} : NJ I k (.ref b) → k.depth ≤ 8 → Rp K I v d → RpJ K I vs ds → RpJ K I ((k, b, v) :: vs) ((k, d) :: ds)
theorem RpJ.ext {K : PySem.W.Frag} {I J : Hp} (x : Ext I J) : ∀ {v d}, RpJ K I v d → RpJ K J v d
  | _, _, .nil => .nil
  | _, _, .cons a z b c => .cons (a.to fun _ _ h => x.tup h) z (b.ext x) (RpJ.ext x c)
end BB
set_option maxHeartbeats 2000000
namespace BB
open L2 PySem PySem.Spec PyProof.Rows
def MRep (K : PySem.W.Frag) (I : Hp) (M : Mem) (H : Hp) (a : Addr) : MO → Prop
  | .lst ds => ∃ vs, H a = some (.lst vs) ∧ Rps K I vs ds
  | .dK kvs => ∃ kv, H a = some (.dK kv) ∧ RpK K I kv kvs
  | .dT kvs => ∃ kv, H a = some (.dT kv) ∧ RpT K I kv kvs
  | .dN kvs => ∃ w xs, H a = some (NDO w a xs) ∧ RpN K I xs kvs
  | .dW w kvs => ∃ xs, H a = some (NDO w a xs) ∧ RpJ K I xs kvs
  | .ins C fs => ∃ dx fvs, H a = some (.ins C dx fvs) ∧ H dx = some (.own a) ∧ M dx = some (.own a) ∧ RpF K I fvs fs
  | .own x => ∃ o, H a = some o ∧ (o = .own x ∨ ∃ xs, o = .lst xs)
  | .gen c => c ≠ a ∧ M c = some (.own a) ∧ ∃ (cells : List Int) (p x : Int), H a = some (.lst [.ref c, .int p, .int x]) ∧ H c = some (.lst (cells.map V.int)) ∧ cells ≠ [] ∧ cells.length ≤ 64 ∧
      (∀ z ∈ cells, 0 ≤ z) ∧ 0 ≤ p ∧ 0 ≤ x ∧ x < 2147483647
  | .xt T fx ds => ∃ vs, H a = some (.ext (T a vs)) ∧ Rps K I vs ds ∧ ∀ p ∈ fx, I p.1 = some (.ext p.2)
  | .tab q => ∃ ps : Array Value, H a = some (.tbl ps) ∧ TriplesOk ps.toList ∧ ∀ pos cv, codeAmong pos ps.toList = some cv → ∃ c, cv = .ref c ∧ I c = some (LamX.CodeO c q)
structure At (K : PySem.W.Frag) (F I : Hp) (M : Mem) (H : Hp) : Prop where
  ex : ∀ a o, I a = some o → H a = some o
  mem : ∀ a o, M a = some o → I a = none ∧ MRep K I M H a o
  fr : ∀ a o, F a = some o → H a = some o ∧ I a = none ∧ M a = none
  nt : ∀ a o, F a = some o → (∃ xs, o = .lst xs) ∨ ∃ f, o = .ext f
section
variable {K : PySem.W.Frag} {F I J H H' : Hp} {M M' : Mem} {a p : Addr}
theorem MRep.has {o : MO} (h : MRep K I M H a o) : ∃ u, H a = some u := by
  cases o with
  | lst _ => exact ⟨_, h.choose_spec.1⟩
  | dK _ => exact ⟨_, h.choose_spec.1⟩
  | dT _ => exact ⟨_, h.choose_spec.1⟩
  | dN _ => obtain ⟨_, _, h, _⟩ := h; exact ⟨_, h⟩
  | dW _ _ => obtain ⟨_, h, _⟩ := h; exact ⟨_, h⟩
  | ins _ _ => obtain ⟨_, _, h, _⟩ := h; exact ⟨_, h⟩
  | own _ => obtain ⟨_, h, _⟩ := h; exact ⟨_, h⟩
  | gen _ => obtain ⟨_, _, _, _, _, h, _⟩ := h; exact ⟨_, h⟩
  | tab _ => obtain ⟨_, h, _⟩ := h; exact ⟨_, h⟩
  | xt _ _ _ => obtain ⟨_, h, _⟩ := h; exact ⟨_, h⟩
theorem MRep.mono {o : MO} (h : MRep K I M H a o) (x : Ext I J) (hH : ∀ b u, (b = a ∨ M b = some (.own a)) → H b = some u → H' b = some u) (hM : ∀ b, M b = some (.own a) → M' b = some (.own a)) : MRep K J M' H' a o := by
  cases o with
  | lst _ => obtain ⟨vs, h1, h2⟩ := h; exact ⟨vs, hH _ _ (.inl rfl) h1, h2.ext x⟩
  | dK _ => obtain ⟨vs, h1, h2⟩ := h; exact ⟨vs, hH _ _ (.inl rfl) h1, h2.ext x⟩
  | dT _ => obtain ⟨vs, h1, h2⟩ := h; exact ⟨vs, hH _ _ (.inl rfl) h1, h2.ext x⟩
  | dN _ => obtain ⟨w, vs, h1, h2⟩ := h; exact ⟨w, vs, hH _ _ (.inl rfl) h1, h2.ext x⟩
  | dW _ _ => obtain ⟨vs, h1, h2⟩ := h; exact ⟨vs, hH _ _ (.inl rfl) h1, h2.ext x⟩
  | ins _ _ => obtain ⟨dx, fvs, h1, h2, h3, h4⟩ := h; exact ⟨dx, fvs, hH _ _ (.inl rfl) h1, hH _ _ (.inr h3) h2, hM _ h3, h4.ext x⟩
  | own _ => obtain ⟨u, h1, h2⟩ := h; exact ⟨u, hH _ _ (.inl rfl) h1, h2⟩
  | gen _ =>
    obtain ⟨hc, h3, cells, p, y, h1, h2, r⟩ := h
    exact ⟨hc, hM _ h3, cells, p, y, hH _ _ (.inl rfl) h1, hH _ _ (.inr h3) h2, r⟩
  | xt _ _ _ =>
    obtain ⟨vs, h1, h2, h3⟩ := h
    refine ⟨vs, hH _ _ (.inl rfl) h1, h2.ext x, fun p hp => ?_⟩
    obtain ⟨o', e3, e4⟩ := x.1 _ _ (h3 p hp)
    exact e3.trans (congrArg some (strip_ext e4))
  | tab _ =>
    obtain ⟨ps, h1, h2, h3⟩ := h
    refine ⟨ps, hH _ _ (.inl rfl) h1, h2, fun pos cv hc => ?_⟩
    obtain ⟨c, e1, e2⟩ := h3 pos cv hc
    obtain ⟨o', e3, e4⟩ := x.1 _ _ e2
    exact ⟨c, e1, e3.trans (congrArg some (strip_ext e4))⟩
theorem At.freeI (A : At K F I M H) (h : H p = none) : I p = none := by
  cases e : I p with
  | none => rfl
  | some o => rw [A.ex _ _ e] at h; cases h
theorem At.freeM (A : At K F I M H) (h : H p = none) : M p = none := by
  cases e : M p with
  | none => rfl
  | some o => obtain ⟨u, hu⟩ := (A.mem _ _ e).2.has; rw [hu] at h; cases h
theorem At.newI (A : At K F I M H) (h : H p = none) (o : HO) : At K F (upd I p o) M (upd H p o) where
  nt := A.nt
  ex := fun b u e => by
    by_cases hb : b = p
    · subst hb; rw [upd_same] at e ⊢; exact e
    · rw [upd_ne hb] at e ⊢; exact A.ex _ _ e
  mem := fun b u e => by
    have hb : b ≠ p := mem_ne e (A.freeM h)
    refine ⟨by rw [upd_ne hb]; exact (A.mem _ _ e).1, (A.mem _ _ e).2.mono (Ext.new (A.freeI h)) (fun c v _ hc => ?_) (fun c hc => hc)⟩
    rw [upd_ne (ne_of_none hc h)]; exact hc
  fr := fun b u e => by
    obtain ⟨h1, h2, h3⟩ := A.fr _ _ e
    have hb : b ≠ p := ne_of_none h1 h
    exact ⟨by rw [upd_ne hb]; exact h1, by rw [upd_ne hb]; exact h2, h3⟩
theorem At.newM (A : At K F I M H) (h : H p = none) (o : HO) (m : MO) (hm : MRep K I (mset M p m) (upd H p o) p m) : At K F I (mset M p m) (upd H p o) where
  nt := A.nt
  ex := fun b u e => by rw [upd_ne (ne_of_none (A.ex _ _ e) h)]; exact A.ex _ _ e
  mem := fun b u e => by
    by_cases hb : b = p
    · subst hb; rw [mset_same] at e; cases e; exact ⟨A.freeI h, hm⟩
    · rw [mset_ne hb] at e
      refine ⟨(A.mem _ _ e).1, (A.mem _ _ e).2.mono (Ext.refl I) (fun c v _ hc => ?_) (fun c hc => ?_)⟩
      · rw [upd_ne (ne_of_none hc h)]; exact hc
      · rw [mset_ne (mem_ne hc (A.freeM h))]; exact hc
  fr := fun b u e => by
    obtain ⟨h1, h2, h3⟩ := A.fr _ _ e
    have hb : b ≠ p := ne_of_none h1 h
    exact ⟨by rw [upd_ne hb]; exact h1, h2, by rw [mset_ne hb]; exact h3⟩
theorem At.write {m m' : MO} {o : HO} (A : At K F I M H) (hp : M p = some m) (hno : ∀ x, m ≠ .own x) (hm : MRep K I (mset M p m') (upd H p o) p m') : At K F I (mset M p m') (upd H p o) where
  nt := A.nt
  ex := fun b u e => by
    have hb : b ≠ p := fun z => by subst z; rw [(A.mem _ _ hp).1] at e; cases e
    rw [upd_ne hb]; exact A.ex _ _ e
  mem := fun b u e => by
    by_cases hb : b = p
    · subst hb; rw [mset_same] at e; cases e; exact ⟨(A.mem _ _ hp).1, hm⟩
    · rw [mset_ne hb] at e
      have key : ∀ c, M c = some (.own b) → c ≠ p := fun c hc z => by subst z; rw [hp] at hc; exact hno b (Option.some.inj hc)
      refine ⟨(A.mem _ _ e).1, (A.mem _ _ e).2.mono (Ext.refl I) (fun c v hc hv => ?_) (fun c hc => ?_)⟩
      · rcases hc with rfl | hc
        · rw [upd_ne hb]; exact hv
        · rw [upd_ne (key c hc)]; exact hv
      · rw [mset_ne (key c hc)]; exact hc
  fr := fun b u e => by
    obtain ⟨h1, h2, h3⟩ := A.fr _ _ e
    have hb : b ≠ p := fun z => by subst z; rw [hp] at h3; cases h3
    exact ⟨by rw [upd_ne hb]; exact h1, h2, by rw [mset_ne hb]; exact h3⟩
theorem At.fixL {ds : List D} (A : At K F I M H) (hp : M p = some (.lst ds)) : ∃ J, Ext I J ∧ At K F J (mdel M p) H ∧ Rp K J (.ref p) (.lst ds) := by
  obtain ⟨hI, vs, hv, r⟩ := A.mem _ _ hp
  have x : Ext I (upd I p (.lst vs)) := Ext.new hI
  refine ⟨upd I p (.lst vs), x, ⟨fun b u e => ?_, fun b u e => ?_, fun b u e => ?_, A.nt⟩, .lst upd_same (r.ext x)⟩
  · by_cases hb : b = p
    · subst hb; rw [upd_same] at e; cases e; exact hv
    · rw [upd_ne hb] at e; exact A.ex _ _ e
  · have hb : b ≠ p := fun z => by subst z; rw [mdel_same] at e; cases e
    rw [mdel_ne hb] at e
    refine ⟨by rw [upd_ne hb]; exact (A.mem _ _ e).1, (A.mem _ _ e).2.mono x (fun c v _ hv => hv) (fun c hc => ?_)⟩
    rw [mdel_ne (mem_ne2 hc hp (by intro z; cases z))]; exact hc
  · obtain ⟨h1, h2, h3⟩ := A.fr _ _ e
    have hb : b ≠ p := fun z => by subst z; rw [hp] at h3; cases h3
    exact ⟨h1, by rw [upd_ne hb]; exact h2, by rw [mdel_ne hb]; exact h3⟩
theorem At.fixK {ds : List (Key × D)} (A : At K F I M H) (hp : M p = some (.dK ds)) : ∃ J, Ext I J ∧ At K F J (mdel M p) H ∧ Rp K J (.ref p) (.dK ds) := by
  obtain ⟨hI, vs, hv, r⟩ := A.mem _ _ hp
  have x : Ext I (upd I p (.dK vs)) := Ext.new hI
  refine ⟨upd I p (.dK vs), x, ⟨fun b u e => ?_, fun b u e => ?_, fun b u e => ?_, A.nt⟩, .dK upd_same rfl (r.ext x)⟩
  · by_cases hb : b = p
    · subst hb; rw [upd_same] at e; cases e; exact hv
    · rw [upd_ne hb] at e; exact A.ex _ _ e
  · have hb : b ≠ p := fun z => by subst z; rw [mdel_same] at e; cases e
    rw [mdel_ne hb] at e
    refine ⟨by rw [upd_ne hb]; exact (A.mem _ _ e).1, (A.mem _ _ e).2.mono x (fun c v _ hv => hv) (fun c hc => ?_)⟩
    rw [mdel_ne (mem_ne2 hc hp (by intro z; cases z))]; exact hc
  · obtain ⟨h1, h2, h3⟩ := A.fr _ _ e
    have hb : b ≠ p := fun z => by subst z; rw [hp] at h3; cases h3
    exact ⟨h1, by rw [upd_ne hb]; exact h2, by rw [mdel_ne hb]; exact h3⟩
theorem At.fixT {ds : List (List Key × D)} (A : At K F I M H) (hp : M p = some (.dT ds)) : ∃ J, Ext I J ∧ At K F J (mdel M p) H ∧ Rp K J (.ref p) (.dT ds) := by
  obtain ⟨hI, vs, hv, r⟩ := A.mem _ _ hp
  have x : Ext I (upd I p (.dT vs)) := Ext.new hI
  refine ⟨upd I p (.dT vs), x, ⟨fun b u e => ?_, fun b u e => ?_, fun b u e => ?_, A.nt⟩, .dT upd_same rfl (r.ext x)⟩
  · by_cases hb : b = p
    · subst hb; rw [upd_same] at e; cases e; exact hv
    · rw [upd_ne hb] at e; exact A.ex _ _ e
  · have hb : b ≠ p := fun z => by subst z; rw [mdel_same] at e; cases e
    rw [mdel_ne hb] at e
    refine ⟨by rw [upd_ne hb]; exact (A.mem _ _ e).1, (A.mem _ _ e).2.mono x (fun c v _ hv => hv) (fun c hc => ?_)⟩
    rw [mdel_ne (mem_ne2 hc hp (by intro z; cases z))]; exact hc
  · obtain ⟨h1, h2, h3⟩ := A.fr _ _ e
    have hb : b ≠ p := fun z => by subst z; rw [hp] at h3; cases h3
    exact ⟨h1, by rw [upd_ne hb]; exact h2, by rw [mdel_ne hb]; exact h3⟩
theorem At.fixI {C : Addr} {fs : List (Str × D)} (A : At K F I M H) (hp : M p = some (.ins C fs)) : ∃ dx J, M dx = some (.own p) ∧ Ext I J ∧ At K F J (mdel (mdel M p) dx) H ∧ Rp K J (.ref p) (.ins C fs) := by
  obtain ⟨hI, dx, fvs, hv, hd, hm, r⟩ := A.mem _ _ hp
  obtain ⟨hId, _⟩ := A.mem _ _ hm
  have ne : dx ≠ p := mem_ne2 hm hp (by intro z; cases z)
  have x1 : Ext I (upd I p (.ins C dx fvs)) := Ext.new hI
  have x2 : Ext (upd I p (.ins C dx fvs)) (upd (upd I p (.ins C dx fvs)) dx (.own p)) := Ext.new (by rw [upd_ne ne]; exact hId)
  have x := x1.trans x2
  refine ⟨dx, upd (upd I p (.ins C dx fvs)) dx (.own p), hm, x, ⟨fun b u e => ?_, fun b u e => ?_, fun b u e => ?_, A.nt⟩, .ins (by rw [upd_ne ne.symm, upd_same]) upd_same (r.ext x)⟩
  · by_cases hb : b = dx
    · subst hb; rw [upd_same] at e; cases e; exact hd
    · rw [upd_ne hb] at e
      by_cases hb : b = p
      · subst hb; rw [upd_same] at e; cases e; exact hv
      · rw [upd_ne hb] at e; exact A.ex _ _ e
  · have hb : b ≠ dx := fun z => by subst z; rw [mdel_same] at e; cases e
    rw [mdel_ne hb] at e
    have hb2 : b ≠ p := fun z => by subst z; rw [mdel_same] at e; cases e
    rw [mdel_ne hb2] at e
    refine ⟨by rw [upd_ne hb, upd_ne hb2]; exact (A.mem _ _ e).1, (A.mem _ _ e).2.mono x (fun c v _ hv => hv) (fun c hc => ?_)⟩
    have n1 : c ≠ dx := fun z => by subst z; rw [hm] at hc; cases hc; exact hb2 rfl
    rw [mdel_ne n1, mdel_ne (mem_ne2 hc hp (by intro z; cases z))]; exact hc
  · obtain ⟨h1, h2, h3⟩ := A.fr _ _ e
    have hb : b ≠ p := fun z => by subst z; rw [hp] at h3; cases h3
    have hb2 : b ≠ dx := fun z => by subst z; rw [hm] at h3; cases h3
    exact ⟨h1, by rw [upd_ne hb2, upd_ne hb]; exact h2, by rw [mdel_ne hb2, mdel_ne hb]; exact h3⟩
end
abbrev Env := List (Option D)
abbrev DKt := D → Mem → Prop
abbrev DW := Value → List (Str × D) → Env → Mem → Prop
abbrev DX := Value → List (Str × D) → Mem → Prop
structure EnvR (K : PySem.W.Frag) (I : Hp) (σ : L2.St) (env : Env) : Prop where
  len : σ.length = env.length
  get : ∀ (i : Nat) (d : D), env[i]? = some (some d) → ∃ v, σ[i]? = some (some v) ∧ Rp K I v d
def ExcR (K : PySem.W.Frag) (I : Hp) (fs : List (Str × D)) : Option Addr → Prop
  | none => fs = []
  | some d => ∃ fvs, I d = some (.xd fvs) ∧ RpF K I fvs fs
structure DC where
  F : Hp
  I0 : Hp
  W : WX
  Wd : DW
structure Gd (K : PySem.W.Frag) (Δ : DC) (I : Hp) (M : Mem) (H : Hp) (σ : L2.St) (env : Env) : Prop where
  base : Ext Δ.I0 I
  at_ : At K Δ.F I M H
  env : EnvR K I σ env
structure XOk (X : Cx) (Δ : DC) : Prop where
  takes : Takes X Δ.W
  link : ∀ {I M H σ env c fs d}, Gd X.K Δ I M H σ env → ExcR X.K I fs d → Δ.Wd c fs env M → Δ.W c d σ H
abbrev DE := Env → Mem → DKt → Prop
abbrev DT := Env → Mem → (Bool → Mem → Prop) → Prop
abbrev DA := Env → Mem → (List D → Mem → Prop) → Prop
structure EndsD where
  nx : Env → Mem → Prop
  rt : DKt
  bk : Env → Mem → Prop := fun _ _ => False
  ct : Env → Mem → Prop := fun _ _ => False
abbrev DS := EndsD → Env → Mem → Prop
def SndE (X : Cx) (Δ : DC) (te : TE) (de : DE) : Prop := ∀ I M H σ env, Gd X.K Δ I M H σ env → ∀ (Q : VK) (Qd : DKt),
  (∀ d M' I' H' v, Ext I I' → Gd X.K Δ I' M' H' σ env → Rp X.K I' v d → Qd d M' → Q v H') → de env M Qd → te σ H Q
def SndT (X : Cx) (Δ : DC) (tt : TT) (dt : DT) : Prop := ∀ I M H σ env, Gd X.K Δ I M H σ env → ∀ (Q : Bool → Hp → Prop) (Qd : Bool → Mem → Prop),
  (∀ b M' I' H', Ext I I' → Gd X.K Δ I' M' H' σ env → Qd b M' → Q b H') → dt env M Qd → tt σ H Q
def SndA (X : Cx) (Δ : DC) (ta : TA) (da : DA) : Prop := ∀ I M H σ env, Gd X.K Δ I M H σ env → ∀ (Q : List V → Hp → Prop) (Qd : List D → Mem → Prop),
  (∀ ds M' I' H' vs, Ext I I' → Gd X.K Δ I' M' H' σ env → Rps X.K I' vs ds → Qd ds M' → Q vs H') → da env M Qd → ta σ H Q
structure EndsR (X : Cx) (Δ : DC) (I : Hp) (T : Ends) (Td : EndsD) : Prop where
  nx : ∀ env M I' H σ, Ext I I' → Gd X.K Δ I' M H σ env → Td.nx env M → T.nx σ H
  bk : ∀ env M I' H σ, Ext I I' → Gd X.K Δ I' M H σ env → Td.bk env M → T.bk σ H
  ct : ∀ env M I' H σ, Ext I I' → Gd X.K Δ I' M H σ env → Td.ct env M → T.ct σ H
  rt : ∀ d M I' H v, Ext I I' → Ext Δ.I0 I' → At X.K Δ.F I' M H → Rp X.K I' v d → Td.rt d M → T.rt v H
def SndS (X : Cx) (Δ : DC) (ts : TS) (ds : DS) : Prop := ∀ I M H σ env, Gd X.K Δ I M H σ env → ∀ (T : Ends) (Td : EndsD), EndsR X Δ I T Td → ds Td env M → ts T σ H
theorem EndsR.ext {X : Cx} {Δ : DC} {I J : Hp} {T : Ends} {Td : EndsD} (R : EndsR X Δ I T Td) (x : Ext I J) : EndsR X Δ J T Td :=
  ⟨fun _ _ _ _ _ y => R.nx _ _ _ _ _ (x.trans y), fun _ _ _ _ _ y => R.bk _ _ _ _ _ (x.trans y), fun _ _ _ _ _ y => R.ct _ _ _ _ _ (x.trans y), fun _ _ _ _ _ y => R.rt _ _ _ _ _ (x.trans y)⟩
def PDe (X : Cx) (Δ : DC) (e : Expr) (t : TE) (de : DE) : Prop := PE X e t ∧ SndE X Δ t de
def PDt (X : Cx) (Δ : DC) (e : Expr) (t : TT) (dt : DT) : Prop := PT X e t ∧ SndT X Δ t dt
def PDw (X : Cx) (Δ : DC) (e : Expr) (t : TT) (dt : DT) : Prop := PW X e t ∧ SndT X Δ t dt
def PDa (X : Cx) (Δ : DC) (es : List Expr) (t : TA) (da : DA) : Prop := PA X es t ∧ SndA X Δ t da
def PDs (X : Cx) (Δ : DC) (s : Stmt) (t : TS) (ds : DS) : Prop := PS X s t ∧ SndS X Δ t ds
def PDss (X : Cx) (Δ : DC) (s : List Stmt) (t : TS) (ds : DS) : Prop := PSs X s t ∧ SndS X Δ t ds
section
variable {K : PySem.W.Frag} {Δ : DC} {I J H H' : Hp} {M M' : Mem} {σ : L2.St} {env : Env} {X : Cx}
theorem EnvR.ext (R : EnvR K I σ env) (x : Ext I J) : EnvR K J σ env := ⟨R.len, fun i d h => let ⟨v, h1, h2⟩ := R.get i d h; ⟨v, h1, h2.ext x⟩⟩
theorem Gd.go (G : Gd K Δ I M H σ env) (x : Ext I J) (A : At K Δ.F J M' H') : Gd K Δ J M' H' σ env := ⟨G.base.trans x, A, G.env.ext x⟩
theorem EnvR.set {i : Nat} {v : V} {d : D} (R : EnvR K I σ env) (r : Rp K I v d) : EnvR K I (σ.set i (some v)) (env.set i (some d)) := by
  refine ⟨by rw [List.length_set, List.length_set]; exact R.len, fun j e h => ?_⟩
  by_cases hij : i = j
  · subst hij
    have hl : i < env.length := by
      have := (List.getElem?_eq_some_iff.mp h).1
      rw [List.length_set] at this
      exact this
    rw [List.getElem?_set_self hl] at h
    cases h
    exact ⟨v, by rw [List.getElem?_set_self (by rw [R.len]; exact hl)], r⟩
  · rw [List.getElem?_set_ne hij] at h ⊢
    exact R.get j e h
theorem EnvR.setN {i : Nat} {o : Option V} (R : EnvR K I σ env) : EnvR K I (σ.set i o) (env.set i none) := by
  refine ⟨by rw [List.length_set, List.length_set]; exact R.len, fun j e h => ?_⟩
  by_cases hij : i = j
  · subst hij
    have hl : i < env.length := by
      have := (List.getElem?_eq_some_iff.mp h).1
      rw [List.length_set] at this
      exact this
    rw [List.getElem?_set_self hl] at h
    cases h
  · rw [List.getElem?_set_ne hij] at h ⊢
    exact R.get j e h
theorem Gd.set {i : Nat} {v : V} {d : D} (G : Gd K Δ I M H σ env) (r : Rp K I v d) : Gd K Δ I M H (σ.set i (some v)) (env.set i (some d)) := ⟨G.base, G.at_, G.env.set r⟩
theorem Gd.newI (G : Gd K Δ I M H σ env) {p : Addr} (h : H p = none) (o : HO) : Ext I (upd I p o) ∧ Gd K Δ (upd I p o) M (upd H p o) σ env :=
  ⟨Ext.new (G.at_.freeI h), G.go (Ext.new (G.at_.freeI h)) (G.at_.newI h o)⟩
theorem Gd.newM (G : Gd K Δ I M H σ env) {p : Addr} (h : H p = none) (o : HO) (m : MO) (hm : MRep K I (mset M p m) (upd H p o) p m) : Gd K Δ I (mset M p m) (upd H p o) σ env :=
  G.go (Ext.refl I) (G.at_.newM h o m hm)
end
end BB
set_option maxHeartbeats 2000000
namespace BB
open L2 PySem PySem.Spec PyProof.Rows
section
variable {X : Cx} {Δ : DC} {e a b c : Expr} {de da db dc : DE} {dt du : DT} {pos : Pos}
variable {ta tb tc te to ti : TE} {t1 t2 : TT} {tl : TA}
def dVar (i : Nat) : DE := fun env M Q => ∃ d, env[i]? = some (some d) ∧ Q d M
def dC (d : D) : DE := fun _ M Q => Q d M
theorem pd_var {i : Nat} (h : PE X e (tVar i)) : PDe X Δ e (tVar i) (dVar i) := ⟨h, fun I M H σ env G Q Qd k ⟨d, h1, h2⟩ => by
  obtain ⟨v, e1, r⟩ := G.env.get i d h1
  exact ⟨v, e1, k d M I H v (Ext.refl I) G r h2⟩⟩
theorem pd_cst {v : V} {d : D} (h : PE X e (tC v)) (r : ∀ I, Rp X.K I v d) : PDe X Δ e (tC v) (dC d) := ⟨h, fun I M H σ env G Q Qd k q => k d M I H v (Ext.refl I) G (r I) q⟩
theorem pd_int {i j pos} : PDe X Δ (.Constant (.int i) j pos) (tC (.int i)) (dC (.int i)) := pd_cst pe_int fun _ => .int _
theorem pd_bl {i j pos} : PDe X Δ (.Constant (.bool i) j pos) (tC (.bl i)) (dC (.bl i)) := pd_cst pe_bl fun _ => .bl _
theorem pd_non {j pos} : PDe X Δ (.Constant .none j pos) (tC .non) (dC .non) := pd_cst pe_non fun _ => .non
theorem pd_str {x j pos} : PDe X Δ (.Constant (.str x) j pos) (tC (.str x)) (dC (.str x)) := pd_cst pe_str fun _ => .str _
theorem pd_globI {x : Str} {i : Int} {t : Tok} (hg : Gl X x) (hm : X.mg x = some (.int i t)) (hd : (x == ("__debug__" : Str)) = false := by decide) : PDe X Δ (.Name x pos) (tC (.int i)) (dC (.int i)) := pd_cst (pe_glob (v := .int i) hg hm ⟨t, rfl⟩ hd) fun _ => .int _
theorem pd_globS {x z : Str} {t : Tok} (hg : Gl X x) (hm : X.mg x = some (.str z t)) (hd : (x == ("__debug__" : Str)) = false := by decide) : PDe X Δ (.Name x pos) (tC (.str z)) (dC (.str z)) := pd_cst (pe_glob (v := .str z) hg hm ⟨t, rfl⟩ hd) fun _ => .str _
theorem pd_globR {x : Str} {f : Addr} (hg : Gl X x) (hm : X.mg x = some (.ref f)) (hd : (x == ("__debug__" : Str)) = false := by decide) : PDe X Δ (.Name x pos) (tC (.ref f)) (dC (.ref f)) := pd_cst (pe_glob (v := .ref f) hg hm rfl hd) fun _ => .ref _
theorem pd_bltn {x : Str} {n : String} (hg : Gl X x) (hm : X.mg x = none) (hv : bootBuiltins x = some (.type n)) (hn : x ≠ "__name__" := by decide) (hd : (x == ("__debug__" : Str)) = false := by decide) : PDe X Δ (.Name x pos) (tC (.ty n)) (dC (.ty n)) :=
  pd_cst (pe_bltn (v := .ty n) hg hm hv rfl hn hd) fun _ => .ty _
abbrev RD2 := D → D → Mem → DKt → Prop
def SndR (X : Cx) (r : R2) (rd : RD2) : Prop := ∀ (Δ : DC) I M H σ env, Gd X.K Δ I M H σ env → ∀ x y dx dy, Rp X.K I x dx → Rp X.K I y dy → ∀ (Q : VK) (Qd : DKt),
  (∀ d M' I' H' v, Ext I I' → Gd X.K Δ I' M' H' σ env → Rp X.K I' v d → Qd d M' → Q v H') → rd dx dy M Qd → r x y H Q
def dOp (rd : RD2) (da db : DE) : DE := fun env M Q => da env M fun x M1 => db env M1 fun y M2 => rd x y M2 Q
theorem snd_op {r : R2} {rd : RD2} {ta tb : TE} (hr : SndR X r rd) (ha : SndE X Δ ta da) (hb : SndE X Δ tb db) : SndE X Δ (tOp r ta tb) (dOp rd da db) := fun I M H σ env G Q Qd k q =>
  ha I M H σ env G _ _ (fun x M1 I1 H1 v x1 G1 r1 q1 => hb I1 M1 H1 σ env G1 _ _ (fun y M2 I2 H2 u x2 G2 r2 q2 =>
    hr Δ I2 M2 H2 σ env G2 v u x y (r1.ext x2) r2 Q Qd (fun d M' I' H' w x3 => k d M' I' H' w ((x1.trans x2).trans x3)) q2) q1) q
theorem pd_op {op : Operator} {r : R2} {rd : RD2} (ho : OpR X (binaryOp op) r) (hr : SndR X r rd) (ha : PDe X Δ a ta da) (hb : PDe X Δ b tb db) : PDe X Δ (.BinOp a op b pos) (tOp r ta tb) (dOp rd da db) := by
  obtain ⟨pa, sa⟩ := ha
  obtain ⟨pb, sb⟩ := hb
  exact ⟨pe_op ho pa pb, snd_op hr sa sb⟩
theorem pd_cmp {op : CmpOp} {r : R2} {rd : RD2} (ho : OpR X (compareOp op) r) (hr : SndR X r rd) (ha : PDe X Δ a ta da) (hb : PDe X Δ b tb db) (hm : behindInMarks op b = false) : PDe X Δ (.Compare a [op] [b] pos) (tOp r ta tb) (dOp rd da db) := by
  obtain ⟨pa, sa⟩ := ha
  obtain ⟨pb, sb⟩ := hb
  exact ⟨pe_cmpR ho pa pb hm, snd_op hr sa sb⟩
def dTest (de : DE) : DT := fun env M Q => de env M fun x M1 => ∃ k, x = .bl k ∧ Q k M1
theorem snd_test {te : TE} (h : SndE X Δ te de) : SndT X Δ (tTest te) (dTest de) := fun I M H σ env G Q Qd k q =>
  h I M H σ env G _ _ (fun d M' I' H' v x G' r ⟨b, e, q'⟩ => by subst e; rw [r.bl_inv]; exact ⟨b, rfl, k b M' I' H' x G' q'⟩) q
theorem pdt_cmp {op : CmpOp} {r : R2} {rd : RD2} (ho : OpR X (compareOp op) r) (hr : SndR X r rd) (ha : PDe X Δ a ta da) (hb : PDe X Δ b tb db) (hm : behindInMarks op b = false) : PDt X Δ (.Compare a [op] [b] pos) (tTest (tOp r ta tb)) (dTest (dOp rd da db)) := by
  obtain ⟨pa, sa⟩ := ha
  obtain ⟨pb, sb⟩ := hb
  exact ⟨pt_cmpR ho pa pb hm, snd_test (snd_op hr sa sb)⟩
def dChain (rd rd' : RD2) (da db dc : DE) : DE := fun env M Q => da env M fun x M1 => db env M1 fun y M2 => rd x y M2 fun z M3 => ∃ k, z = .bl k ∧
  (if k = true then dc env M3 fun w M4 => rd' y w M4 Q else Q (.bl false) M3)
theorem snd_chain {r r' : R2} {rd rd' : RD2} {ta tb tc : TE} (hr : SndR X r rd) (hr' : SndR X r' rd') (ha : SndE X Δ ta da) (hb : SndE X Δ tb db) (hc : SndE X Δ tc dc) : SndE X Δ (tChain r r' ta tb tc) (dChain rd rd' da db dc) := fun I M H σ env G Q Qd k q =>
  ha I M H σ env G _ _ (fun x M1 I1 H1 v x1 G1 r1 q1 => hb I1 M1 H1 σ env G1 _ _ (fun y M2 I2 H2 u x2 G2 r2 q2 =>
    hr Δ I2 M2 H2 σ env G2 v u x y (r1.ext x2) r2 _ _ (fun d M3 I3 H3 w x3 G3 r3 ⟨b, e, q3⟩ => by
      subst e
      rw [r3.bl_inv]
      refine ⟨b, rfl, ?_⟩
      cases b with
      | true =>
        rw [if_pos rfl] at q3 ⊢
        exact hc I3 M3 H3 σ env G3 _ _ (fun z M4 I4 H4 u4 x4 G4 r4 q4 => hr' Δ I4 M4 H4 σ env G4 u u4 y z ((r2.ext x3).ext x4) r4 Q Qd (fun d M' I' H' w x5 => k d M' I' H' w ((((x1.trans x2).trans x3).trans x4).trans x5)) q4) q3
      | false =>
        rw [if_neg Bool.false_ne_true] at q3 ⊢
        exact k _ _ _ _ _ ((x1.trans x2).trans x3) G3 (.bl false) q3) q2) q1) q
theorem pd_chain {op op' : CmpOp} {r r' : R2} {rd rd' : RD2} (ho : OpR X (compareOp op) r) (hr : SndR X r rd) (ho' : OpR X (compareOp op') r') (hr' : SndR X r' rd') (ha : PDe X Δ a ta da) (hb : PDe X Δ b tb db) (hc : PDe X Δ c tc dc)
    (hm : lastMarks [op, op'] [b, c] = false := by with_unfolding_all rfl) : PDe X Δ (.Compare a [op, op'] [b, c] pos) (tChain r r' ta tb tc) (dChain rd rd' da db dc) := by
  obtain ⟨pa, sa⟩ := ha
  obtain ⟨pb, sb⟩ := hb
  obtain ⟨pc, sc⟩ := hc
  exact ⟨pe_chain ho ho' pa pb pc hm, snd_chain hr hr' sa sb sc⟩
theorem pdt_chain {op op' : CmpOp} {r r' : R2} {rd rd' : RD2} (ho : OpR X (compareOp op) r) (hr : SndR X r rd) (ho' : OpR X (compareOp op') r') (hr' : SndR X r' rd') (ha : PDe X Δ a ta da) (hb : PDe X Δ b tb db) (hc : PDe X Δ c tc dc)
    (hm : lastMarks [op, op'] [b, c] = false := by with_unfolding_all rfl) : PDt X Δ (.Compare a [op, op'] [b, c] pos) (tTest (tChain r r' ta tb tc)) (dTest (dChain rd rd' da db dc)) := by
  obtain ⟨pa, sa⟩ := ha
  obtain ⟨pb, sb⟩ := hb
  obtain ⟨pc, sc⟩ := hc
  exact ⟨pt_chain ho ho' pa pb pc hm, snd_test (snd_chain hr hr' sa sb sc)⟩
def dTruth (M : Mem) : D → Option Bool
  | .non => some false
  | .bl b => some b
  | .int i => some (i != 0)
  | .str x => if x.length ≤ sizeLine then some (x.length != 0) else none
  | .tup xs => some !xs.isEmpty
  | .lst xs => some !xs.isEmpty
  | .frz xs => some !xs.isEmpty
  | .ref p => match M p with | some (.lst xs) => some !xs.isEmpty | _ => none
  | _ => none
theorem Rps.isEmpty {K : PySem.W.Frag} {I : Hp} {vs : List V} {ds : List D} (h : Rps K I vs ds) : vs.isEmpty = ds.isEmpty := by cases h <;> rfl
theorem tru_of {K : PySem.W.Frag} {F I H : Hp} {M : Mem} (A : At K F I M H) {v : V} {d : D} {b : Bool} (r : Rp K I v d) (h : dTruth M d = some b) : TruV K v H b := by
  have ex : ∀ a o, I a = some o → H a = some o := A.ex
  have sqT : ∀ {a xs}, SqT K I a xs → SqT K H a xs := fun {a xs} z => by
    rcases z with (z | ⟨o, z⟩) | z
    · exact .inl (.inl (ex _ _ z))
    · exact .inl (.inr ⟨o, ex _ _ z⟩)
    · exact .inr z
  have sqL : ∀ {a xs}, SqL K I a xs → SqL K H a xs := fun {a xs} z => by
    rcases z with (z | ⟨o, z⟩) | z
    · exact .inl (.inl (ex _ _ z))
    · exact .inl (.inr ⟨o, ex _ _ z⟩)
    · exact .inr z
  cases d with
  | non => cases h; rw [r.non_inv]; exact rfl
  | bl c => cases h; rw [r.bl_inv]; exact rfl
  | int i => cases h; rw [r.int_inv]; exact rfl
  | str x =>
    rw [r.str_inv]
    have h' : (if x.length ≤ sizeLine then some (x.length != 0) else none) = some b := h
    by_cases hz : x.length ≤ sizeLine
    · rw [if_pos hz] at h'
      cases h'
      refine ⟨hz, ?_⟩
      simp [bne, BEq.beq]
      all_goals first | rfl | omega
    · rw [if_neg hz] at h'; cases h'
  | tup xs => cases h; obtain ⟨a, vs, rfl, h1, h2⟩ := r.tup_inv; exact .inr (.inl ⟨vs, sqT h1, by rw [h2.isEmpty]⟩)
  | lst xs => cases h; obtain ⟨a, vs, rfl, h1, h2⟩ := r.lst_inv; exact .inl ⟨vs, .inl (.inl (ex _ _ h1)), by rw [h2.isEmpty]⟩
  | frz xs => cases h; obtain ⟨a, vs, rfl, h1, h2⟩ := r.frz_inv; exact .inl ⟨vs, sqL h1, by rw [h2.isEmpty]⟩
  | ref p =>
    rw [r.ref_inv]
    have h' : (match M p with | some (.lst xs) => some !xs.isEmpty | _ => none) = some b := h
    split at h'
    · rename_i xs e
      cases h'
      obtain ⟨_, vs, h1, h2⟩ := A.mem _ _ e
      exact .inl ⟨vs, .inl (.inl h1), by rw [h2.isEmpty]⟩
    · cases h'
  | _ => cases h
def dTru (de : DE) : DT := fun env M Q => de env M fun d M1 => ∃ b, dTruth M1 d = some b ∧ Q b M1
theorem pdt_tru (he : PDe X Δ e te de) (hw : ∀ whole, isTrue e X.env whole = (do let v ← whole; standAt e.pos; holding [v] (truthy v)) := by intro _; rfl) : PDt X Δ e (fun σ H Q => te σ H fun x H' => ∃ k, TruV X.K x H' k ∧ Q k H') (dTru de) := by
  obtain ⟨pe, se⟩ := he
  exact ⟨pt_truth pe hw, fun I M H σ env G Q Qd k q => se I M H σ env G _ _ (fun d M1 I1 H1 v x1 G1 r1 ⟨b, e1, q1⟩ => ⟨b, tru_of G1.at_ r1 e1, k b M1 I1 H1 x1 G1 q1⟩) q⟩
variable {rest : List Expr}
def dAnd (t u : DT) : DT := fun env M Q => t env M fun c M1 => if c = true then u env M1 Q else Q false M1
def dOr (t u : DT) : DT := fun env M Q => t env M fun c M1 => if c = true then Q true M1 else u env M1 Q
def dNot (t : DT) : DT := fun env M Q => t env M fun c M1 => Q (!c) M1
theorem pdw_and1 (ha : PDt X Δ a t1 dt) : PDw X Δ (.BoolOp .And [a] pos) t1 dt := ⟨pw_and1 ha.1, ha.2⟩
theorem pdw_or1 (ha : PDt X Δ a t1 dt) : PDw X Δ (.BoolOp .Or [a] pos) t1 dt := ⟨pw_or1 ha.1, ha.2⟩
theorem snd_and {t u : TT} (h : SndT X Δ t dt) (h' : SndT X Δ u du) : SndT X Δ (tAnd t u) (dAnd dt du) := fun I M H σ env G Q Qd k q =>
  h I M H σ env G _ _ (fun b M1 I1 H1 x1 G1 q1 => by
    cases b with
    | true => rw [if_pos rfl] at q1 ⊢; exact h' I1 M1 H1 σ env G1 Q Qd (fun b M' I' H' x => k b M' I' H' (x1.trans x)) q1
    | false => rw [if_neg Bool.false_ne_true] at q1 ⊢; exact k _ _ _ _ x1 G1 q1) q
theorem snd_or {t u : TT} (h : SndT X Δ t dt) (h' : SndT X Δ u du) : SndT X Δ (tOr t u) (dOr dt du) := fun I M H σ env G Q Qd k q =>
  h I M H σ env G _ _ (fun b M1 I1 H1 x1 G1 q1 => by
    cases b with
    | false => rw [if_neg Bool.false_ne_true] at q1 ⊢; exact h' I1 M1 H1 σ env G1 Q Qd (fun b M' I' H' x => k b M' I' H' (x1.trans x)) q1
    | true => rw [if_pos rfl] at q1 ⊢; exact k _ _ _ _ x1 G1 q1) q
theorem snd_not {t : TT} (h : SndT X Δ t dt) : SndT X Δ (tNot t) (dNot dt) := fun I M H σ env G Q Qd k q => h I M H σ env G _ _ (fun b M1 I1 H1 x1 G1 q1 => k _ _ _ _ x1 G1 q1) q
theorem pdw_and (ha : PDt X Δ a t1 dt) (hb : PDw X Δ (.BoolOp .And (b :: rest) pos) t2 du) : PDw X Δ (.BoolOp .And (a :: b :: rest) pos) (tAnd t1 t2) (dAnd dt du) := ⟨pw_and ha.1 hb.1, snd_and ha.2 hb.2⟩
theorem pdw_or (ha : PDt X Δ a t1 dt) (hb : PDw X Δ (.BoolOp .Or (b :: rest) pos) t2 du) : PDw X Δ (.BoolOp .Or (a :: b :: rest) pos) (tOr t1 t2) (dOr dt du) := ⟨pw_or ha.1 hb.1, snd_or ha.2 hb.2⟩
theorem pdt_w (h : PDw X Δ e t1 dt) : PDt X Δ e t1 dt := ⟨h.1.pt, h.2⟩
theorem pdt_not (ha : PDt X Δ a t1 dt) : PDt X Δ (.UnaryOp .Not a pos) (tNot t1) (dNot dt) := ⟨pt_not ha.1, snd_not ha.2⟩
def dAndV (da db : DE) : DE := fun env M Q => da env M fun x M1 => ∃ c, x = .bl c ∧ if c = true then db env M1 Q else Q (.bl false) M1
def dOrV (da db : DE) : DE := fun env M Q => da env M fun x M1 => ∃ c, x = .bl c ∧ if c = true then Q (.bl true) M1 else db env M1 Q
def dNotV (da : DE) : DE := fun env M Q => da env M fun x M1 => ∃ c, dTruth M1 x = some c ∧ Q (.bl (!c)) M1
theorem pd_one {op} (h : PDe X Δ a ta da) : PDe X Δ (.BoolOp op [a] pos) ta da := ⟨pe_one h.1, h.2⟩
theorem pd_and (ha : PDe X Δ a ta da) (hb : PDe X Δ (.BoolOp .And (b :: rest) pos) tb db) : PDe X Δ (.BoolOp .And (a :: b :: rest) pos) (tAndV ta tb) (dAndV da db) := by
  obtain ⟨pa, sa⟩ := ha
  obtain ⟨pb, sb⟩ := hb
  refine ⟨pe_and pa pb, fun I M H σ env G Q Qd k q => sa I M H σ env G _ _ (fun d M1 I1 H1 v x1 G1 r1 ⟨c, e, q1⟩ => ?_) q⟩
  subst e
  rw [r1.bl_inv]
  refine ⟨c, rfl, ?_⟩
  cases c with
  | true => rw [if_pos rfl] at q1 ⊢; exact sb I1 M1 H1 σ env G1 Q Qd (fun b M' I' H' v x => k b M' I' H' v (x1.trans x)) q1
  | false => rw [if_neg Bool.false_ne_true] at q1 ⊢; exact k _ _ _ _ _ x1 G1 (.bl false) q1
theorem pd_not (ha : PDe X Δ a ta da) : PDe X Δ (.UnaryOp .Not a pos) (tNotT X.K ta) (dNotV da) := by
  obtain ⟨pa, sa⟩ := ha
  refine ⟨pe_notT pa, fun I M H σ env G Q Qd k q => sa I M H σ env G _ _ (fun d M1 I1 H1 v x1 G1 r1 ⟨c, e, q1⟩ => ?_) q⟩
  exact ⟨c, tru_of G1.at_ r1 e, k _ _ _ _ _ x1 G1 (.bl _) q1⟩
def dIf (t : DT) (da db : DE) : DE := fun env M Q => t env M fun c M1 => if c = true then da env M1 Q else db env M1 Q
theorem pd_ifExp {c : Expr} (hc : PDt X Δ c t1 dt) (ha : PDe X Δ a ta da) (hb : PDe X Δ b tb db) : PDe X Δ (.IfExp c a b pos) (tIf t1 ta tb) (dIf dt da db) := by
  obtain ⟨pc, sc⟩ := hc
  obtain ⟨pa, sa⟩ := ha
  obtain ⟨pb, sb⟩ := hb
  refine ⟨pe_ifExp pc pa pb, fun I M H σ env G Q Qd k q => sc I M H σ env G _ _ (fun d M1 I1 H1 x1 G1 q1 => ?_) q⟩
  cases d with
  | true => rw [if_pos rfl] at q1 ⊢; exact sa I1 M1 H1 σ env G1 Q Qd (fun b M' I' H' v x => k b M' I' H' v (x1.trans x)) q1
  | false => rw [if_neg Bool.false_ne_true] at q1 ⊢; exact sb I1 M1 H1 σ env G1 Q Qd (fun b M' I' H' v x => k b M' I' H' v (x1.trans x)) q1
variable {es : List Expr} {dl : DA}
def dNil : DA := fun _ M Q => Q [] M
def dCons (da : DE) (dr : DA) : DA := fun env M Q => da env M fun x M1 => dr env M1 fun xs M2 => Q (x :: xs) M2
theorem pda_nil : PDa X Δ [] tNil dNil := ⟨pa_nil, fun I M H σ env G Q Qd k q => k [] M I H [] (Ext.refl I) G .nil q⟩
theorem pda_cons (ha : PDe X Δ e te da) (hr : PDa X Δ es tl dl) (he : starEach (e :: es) X.env = (false, eval e X.env) :: starEach es X.env := by rfl) : PDa X Δ (e :: es) (tCons te tl) (dCons da dl) := by
  obtain ⟨pa, sa⟩ := ha
  obtain ⟨pr, sr⟩ := hr
  refine ⟨pa_cons pa pr he, fun I M H σ env G Q Qd k q => sa I M H σ env G _ _ (fun d M1 I1 H1 v x1 G1 r1 q1 => sr I1 M1 H1 σ env G1 _ _ (fun ds M2 I2 H2 vs x2 G2 r2 q2 => ?_) q1) q⟩
  exact k _ _ _ _ _ (x1.trans x2) G2 (.cons (r1.ext x2) r2) q2
def dTup (dl : DA) : DE := fun env M Q => dl env M fun xs M1 => xs.length ≤ sizeLine ∧ Q (.tup xs) M1
def dLst (dl : DA) : DE := fun env M Q => dl env M fun xs M1 => xs.length ≤ sizeLine ∧ Q (.lst xs) M1
def dLstM (dl : DA) : DE := fun env M Q => dl env M fun xs M1 => xs.length ≤ sizeLine ∧ ∀ p, M1 p = none → Q (.ref p) (mset M1 p (.lst xs))
theorem pd_tup {x1} (h : PDa X Δ es tl dl) : PDe X Δ (.Tuple es x1 pos) (tTup tl) (dTup dl) := by
  obtain ⟨p, s⟩ := h
  refine ⟨pe_tup p, fun I M H σ env G Q Qd k q => s I M H σ env G _ _ (fun ds M1 I1 H1 vs x1 G1 r1 ⟨z, q1⟩ => ⟨by rw [r1.length]; exact z, fun p hp => ?_⟩) q⟩
  obtain ⟨x2, G2⟩ := G1.newI hp (.tup vs)
  exact k _ _ _ _ _ (x1.trans x2) G2 (.tup (.inl (.inl upd_same)) (r1.ext x2)) q1
theorem pd_lst (h : PDa X Δ es tl dl) : PDe X Δ (.List es pos) (tLst tl) (dLst dl) := by
  obtain ⟨p, s⟩ := h
  refine ⟨pe_lst p, fun I M H σ env G Q Qd k q => s I M H σ env G _ _ (fun ds M1 I1 H1 vs x1 G1 r1 ⟨z, q1⟩ => ⟨by rw [r1.length]; exact z, fun p hp => ?_⟩) q⟩
  obtain ⟨x2, G2⟩ := G1.newI hp (.lst vs)
  exact k _ _ _ _ _ (x1.trans x2) G2 (.lst upd_same (r1.ext x2)) q1
theorem pd_lstM (h : PDa X Δ es tl dl) : PDe X Δ (.List es pos) (tLst tl) (dLstM dl) := by
  obtain ⟨p, s⟩ := h
  refine ⟨pe_lst p, fun I M H σ env G Q Qd k q => s I M H σ env G _ _ (fun ds M1 I1 H1 vs x1 G1 r1 ⟨z, q1⟩ => ⟨by rw [r1.length]; exact z, fun p hp => ?_⟩) q⟩
  exact k _ _ _ _ _ x1 (G1.newM hp (.lst vs) (.lst ds) ⟨vs, upd_same, r1⟩) (.ref p) (q1 p (G1.at_.freeM hp))
end
end BB
set_option maxHeartbeats 2000000
namespace BB
open L2 PySem PySem.Spec PyProof.Rows
section
variable {X : Cx} {Δ : DC} {e a b c : Expr} {de da db dc : DE} {dt du : DT} {pos : Pos} {ds dr : DS} {st : Stmt} {rest sts : List Stmt}
variable {ta tb tc te to ti : TE} {t1 t2 : TT} {tl : TA}
variable {ts ts' tsa tsb : TS} {g g1 : TG} {g2 : TGs} {wi : TI}
theorem At.sqT {K : PySem.W.Frag} {F I H : Hp} {M : Mem} (A : At K F I M H) {a : Addr} {xs} (h : SqT K I a xs) : SqT K H a xs := by
  rcases h with (z | ⟨o, z⟩) | z
  · exact .inl (.inl (A.ex _ _ z))
  · exact .inl (.inr ⟨o, A.ex _ _ z⟩)
  · exact .inr z
theorem At.sqL {K : PySem.W.Frag} {F I H : Hp} {M : Mem} (A : At K F I M H) {a : Addr} {xs} (h : SqL K I a xs) : SqL K H a xs := by
  rcases h with (z | ⟨o, z⟩) | z
  · exact .inl (.inl (A.ex _ _ z))
  · exact .inl (.inr ⟨o, A.ex _ _ z⟩)
  · exact .inr z
def Loose : MO → Bool
  | .lst _ | .dK _ | .dT _ | .dN _ | .dW _ _ | .xt _ _ _ => true
  | _ => false
inductive FzS (P : Env → Mem → Prop) : Env → Mem → Prop
  | done {env M} : P env M → FzS P env M
  | forget {env M} (i : Nat) : FzS P (env.set i none) M → FzS P env M
  | drop {env M} (p : Addr) {m : MO} : M p = some m → Loose m = true → FzS P env (mdel M p) → FzS P env M
  | dropI {env M} (p : Addr) {C fs} : M p = some (.ins C fs) → (∀ dx, M dx = some (.own p) → FzS P env (mdel (mdel M p) dx)) → FzS P env M
  | fixL {env M} (i : Nat) {p xs} : env[i]? = some (some (.ref p)) → M p = some (.lst xs) → FzS P (env.set i (some (.lst xs))) (mdel M p) → FzS P env M
  | fixK {env M} (i : Nat) {p xs} : env[i]? = some (some (.ref p)) → M p = some (.dK xs) → FzS P (env.set i (some (.dK xs))) (mdel M p) → FzS P env M
  | fixT {env M} (i : Nat) {p xs} : env[i]? = some (some (.ref p)) → M p = some (.dT xs) → FzS P (env.set i (some (.dT xs))) (mdel M p) → FzS P env M
  | fixI {env M} (i : Nat) {p C fs} : env[i]? = some (some (.ref p)) → M p = some (.ins C fs) → (∀ dx, M dx = some (.own p) → FzS P (env.set i (some (.ins C fs))) (mdel (mdel M p) dx)) → FzS P env M
theorem At.drop {K : PySem.W.Frag} {F I H : Hp} {M : Mem} (A : At K F I M H) {p : Addr} {m : MO} (hp : M p = some m) (hm : Loose m = true) : At K F I (mdel M p) H where
  nt := A.nt
  ex := A.ex
  mem := fun b u e => by
    have hb : b ≠ p := fun z => by subst z; rw [mdel_same] at e; cases e
    rw [mdel_ne hb] at e
    refine ⟨(A.mem _ _ e).1, (A.mem _ _ e).2.mono (Ext.refl I) (fun c v _ hv => hv) (fun c hc => ?_)⟩
    rw [mdel_ne (mem_ne2 hc hp (by rintro rfl; cases hm))]; exact hc
  fr := fun b u e => by
    obtain ⟨h1, h2, h3⟩ := A.fr _ _ e
    have hb : b ≠ p := fun z => by subst z; rw [hp] at h3; cases h3
    exact ⟨h1, h2, by rw [mdel_ne hb]; exact h3⟩
theorem At.dropI {K : PySem.W.Frag} {F I H : Hp} {M : Mem} (A : At K F I M H) {p : Addr} {C fs} (hp : M p = some (.ins C fs)) : ∃ dx, M dx = some (.own p) ∧ At K F I (mdel (mdel M p) dx) H := by
  obtain ⟨hI, dx, fvs, hv, hd, hm, r⟩ := A.mem _ _ hp
  refine ⟨dx, hm, A.ex, fun b u e => ?_, fun b u e => ?_, A.nt⟩
  · have hb : b ≠ dx := fun z => by subst z; rw [mdel_same] at e; cases e
    rw [mdel_ne hb] at e
    have hb2 : b ≠ p := fun z => by subst z; rw [mdel_same] at e; cases e
    rw [mdel_ne hb2] at e
    refine ⟨(A.mem _ _ e).1, (A.mem _ _ e).2.mono (Ext.refl I) (fun c v _ hv => hv) (fun c hc => ?_)⟩
    have n1 : c ≠ dx := fun z => by subst z; rw [hm] at hc; cases hc; exact hb2 rfl
    rw [mdel_ne n1, mdel_ne (mem_ne2 hc hp (by intro z; cases z))]; exact hc
  · obtain ⟨h1, h2, h3⟩ := A.fr _ _ e
    have hb : b ≠ p := fun z => by subst z; rw [hp] at h3; cases h3
    have hb2 : b ≠ dx := fun z => by subst z; rw [hm] at h3; cases h3
    exact ⟨h1, h2, by rw [mdel_ne hb2, mdel_ne hb]; exact h3⟩
theorem EnvR.set0 {K : PySem.W.Frag} {I : Hp} {σ : L2.St} {env : Env} (R : EnvR K I σ env) (i : Nat) : EnvR K I σ (env.set i none) := by
  refine ⟨by rw [List.length_set]; exact R.len, fun j e h => ?_⟩
  by_cases hij : i = j
  · subst hij
    have hl : i < env.length := by
      have := (List.getElem?_eq_some_iff.mp h).1
      rw [List.length_set] at this
      exact this
    rw [List.getElem?_set_self hl] at h
    cases h
  · rw [List.getElem?_set_ne hij] at h
    exact R.get j e h
theorem EnvR.re {K : PySem.W.Frag} {I : Hp} {σ : L2.St} {env : Env} {i : Nat} {v : V} {d : D} (R : EnvR K I σ env) (hi : σ[i]? = some (some v)) (r : Rp K I v d) : EnvR K I σ (env.set i (some d)) := by
  refine ⟨by rw [List.length_set]; exact R.len, fun j e h => ?_⟩
  by_cases hij : i = j
  · subst hij
    have hl : i < env.length := by
      have := (List.getElem?_eq_some_iff.mp h).1
      rw [List.length_set] at this
      exact this
    rw [List.getElem?_set_self hl] at h
    cases h
    exact ⟨v, hi, r⟩
  · rw [List.getElem?_set_ne hij] at h
    exact R.get j e h
theorem fzs {K : PySem.W.Frag} {H : Hp} {σ : L2.St} {P : Env → Mem → Prop} {env : Env} {M : Mem} (h : FzS P env M) : ∀ {I : Hp}, Gd K Δ I M H σ env → ∃ I' M' env', Ext I I' ∧ Gd K Δ I' M' H σ env' ∧ P env' M' := by
  induction h with
  | done p => exact fun {I} G => ⟨I, _, _, Ext.refl I, G, p⟩
  | forget i _ ih => exact fun {I} G => ih ⟨G.base, G.at_, G.env.set0 i⟩
  | drop p hp hm _ ih => exact fun {I} G => ih ⟨G.base, G.at_.drop hp hm, G.env⟩
  | dropI p hp _ ih =>
    intro I G
    obtain ⟨dx, hd, A⟩ := G.at_.dropI hp
    exact ih dx hd ⟨G.base, A, G.env⟩
  | fixL i he hp _ ih =>
    intro I G
    obtain ⟨J, x, A, r⟩ := G.at_.fixL hp
    obtain ⟨v, hv, rv⟩ := G.env.get i _ he
    have e := rv.ref_inv
    subst e
    obtain ⟨I', M', env', x', G', q⟩ := ih (I := J) ⟨G.base.trans x, A, (G.env.ext x).re hv r⟩
    exact ⟨I', M', env', x.trans x', G', q⟩
  | fixK i he hp _ ih =>
    intro I G
    obtain ⟨J, x, A, r⟩ := G.at_.fixK hp
    obtain ⟨v, hv, rv⟩ := G.env.get i _ he
    have e := rv.ref_inv
    subst e
    obtain ⟨I', M', env', x', G', q⟩ := ih (I := J) ⟨G.base.trans x, A, (G.env.ext x).re hv r⟩
    exact ⟨I', M', env', x.trans x', G', q⟩
  | fixT i he hp _ ih =>
    intro I G
    obtain ⟨J, x, A, r⟩ := G.at_.fixT hp
    obtain ⟨v, hv, rv⟩ := G.env.get i _ he
    have e := rv.ref_inv
    subst e
    obtain ⟨I', M', env', x', G', q⟩ := ih (I := J) ⟨G.base.trans x, A, (G.env.ext x).re hv r⟩
    exact ⟨I', M', env', x.trans x', G', q⟩
  | fixI i he hp _ ih =>
    intro I G
    obtain ⟨dx, J, hd, x, A, r⟩ := G.at_.fixI hp
    obtain ⟨v, hv, rv⟩ := G.env.get i _ he
    have e := rv.ref_inv
    subst e
    obtain ⟨I', M', env', x', G', q⟩ := ih dx hd (I := J) ⟨G.base.trans x, A, (G.env.ext x).re hv r⟩
    exact ⟨I', M', env', x.trans x', G', q⟩
def dNext : DS := fun T env M => T.nx env M
def dSeq (t u : DS) : DS := fun T env M => t { T with nx := FzS (u T) } env M
theorem pdss_nil : PDss X Δ [] tNext dNext := ⟨pss_nil, fun I M H σ env G T Td R q => R.nx env M I H σ (Ext.refl I) G q⟩
theorem pdss_cons (h : PDs X Δ st ts ds) (h' : PDss X Δ rest ts' dr) : PDss X Δ (st :: rest) (tSeq ts ts') (dSeq ds dr) := by
  obtain ⟨p, s⟩ := h
  obtain ⟨p', s'⟩ := h'
  refine ⟨pss_cons p p', fun I M H σ env G T Td R q => s I M H σ env G _ { Td with nx := FzS (dr Td) } ⟨fun env' M' I' H' σ' x G' q' => ?_, R.bk, R.ct, R.rt⟩ q⟩
  obtain ⟨I2, M2, env2, x2, G2, q2⟩ := fzs q' G'
  exact s' I2 M2 H' σ' env2 G2 T Td (R.ext (x.trans x2)) q2
theorem pdss_one (h : PDs X Δ st ts ds) : PDss X Δ [st] ts ds := ⟨pss_one h.1, h.2⟩
def dDrop (de : DE) : DS := fun T env M => de env M fun _ M1 => T.nx env M1
theorem pds_expr (he : PDe X Δ e te de) (hs : swapsWith e none pos.line X.env = pure false := by rfl) : PDs X Δ (.Expr e pos) (tDrop te) (dDrop de) := by
  obtain ⟨p, s⟩ := he
  exact ⟨ps_expr p hs, fun I M H σ env G T Td R q => s I M H σ env G _ _ (fun d M1 I1 H1 v x1 G1 r1 q1 => R.nx _ _ _ _ _ x1 G1 q1) q⟩
def dRet (de : DE) : DS := fun T env M => de env M T.rt
theorem pds_ret (he : PDe X Δ e te de) : PDs X Δ (.Return (some e) pos) (tRet te) (dRet de) := by
  obtain ⟨p, s⟩ := he
  exact ⟨ps_ret p, fun I M H σ env G T Td R q => s I M H σ env G _ _ (fun d M1 I1 H1 v x1 G1 r1 q1 => R.rt _ _ _ _ _ x1 G1.base G1.at_ r1 q1) q⟩
def dRetN : DS := fun T _ M => T.rt .non M
def dIfS (t : DT) (u w : DS) : DS := fun T env M => t env M fun b M1 => if b = true then u T env M1 else w T env M1
theorem pds_if {as bs : List Stmt} {ua ub : DS} (hc : PDt X Δ c t1 dt) (ha : PDss X Δ as tsa ua) (hb : PDss X Δ bs tsb ub) : PDs X Δ (.If c as bs pos) (tIfS t1 tsa tsb) (dIfS dt ua ub) := by
  obtain ⟨pc, sc⟩ := hc
  obtain ⟨pa, sa⟩ := ha
  obtain ⟨pb, sb⟩ := hb
  refine ⟨ps_if pc pa pb, fun I M H σ env G T Td R q => sc I M H σ env G _ _ (fun b M1 I1 H1 x1 G1 q1 => ?_) q⟩
  cases b with
  | true => rw [if_pos rfl] at q1 ⊢; exact sa I1 M1 H1 σ env G1 T Td (R.ext x1) q1
  | false => rw [if_neg Bool.false_ne_true] at q1 ⊢; exact sb I1 M1 H1 σ env G1 T Td (R.ext x1) q1
abbrev DG := D → Env → Mem → (Env → Mem → Prop) → Prop
abbrev DGs := List D → Env → Mem → (Env → Mem → Prop) → Prop
def SndG (X : Cx) (Δ : DC) (g : TG) (dg : DG) : Prop := ∀ I M H σ env, Gd X.K Δ I M H σ env → ∀ v d, Rp X.K I v d → ∀ (Q : L2.St → Hp → Prop) (Qd : Env → Mem → Prop),
  (∀ env' M' I' H' σ', Ext I I' → Gd X.K Δ I' M' H' σ' env' → Qd env' M' → Q σ' H') → dg d env M Qd → g v σ H Q
def SndGs (X : Cx) (Δ : DC) (g : TGs) (dg : DGs) : Prop := ∀ I M H σ env, Gd X.K Δ I M H σ env → ∀ v d, Rps X.K I v d → ∀ (Q : L2.St → Hp → Prop) (Qd : Env → Mem → Prop),
  (∀ env' M' I' H' σ', Ext I I' → Gd X.K Δ I' M' H' σ' env' → Qd env' M' → Q σ' H') → dg d env M Qd → g v σ H Q
def PDg (X : Cx) (Δ : DC) (tg : Expr) (g : TG) (dg : DG) : Prop := PG X tg g ∧ SndG X Δ g dg
def PDgs (X : Cx) (Δ : DC) (ts : List Expr) (g : TGs) (dg : DGs) : Prop := PGs X ts g ∧ SndGs X Δ g dg
def gdName (i : Nat) : DG := fun d env M Q => Q (env.set i (some d)) M
theorem snd_name {i : Nat} : SndG X Δ (gName i) (gdName i) := fun I M H σ env G v d r Q Qd k q => k _ _ _ _ _ (Ext.refl I) (G.set r) q
theorem pdg_name {i : Nat} {tg : Expr} (h : PG X tg (gName i)) : PDg X Δ tg (gName i) (gdName i) := ⟨h, snd_name⟩
def gdNil : DGs := fun vs env M Q => vs = [] ∧ Q env M
def gdCons (t : DG) (u : DGs) : DGs := fun vs env M Q => ∃ v r, vs = v :: r ∧ t v env M fun env' M' => u r env' M' Q
theorem pdgs_nil : PDgs X Δ [] gNil gdNil := ⟨pgs_nil, fun I M H σ env G v d r Q Qd k ⟨e, q⟩ => by
  subst e
  exact ⟨r.nil_inv, k _ _ _ _ _ (Ext.refl I) G q⟩⟩
theorem pdgs_cons {e : Expr} {es : List Expr} {t : DG} {u : DGs} (h1 : PDg X Δ e g1 t) (h2 : PDgs X Δ es g2 u)
    (hs : (assignEach (e :: es) X.env).map (·.2) = assign e X.env :: (assignEach es X.env).map (·.2) := by rfl) : PDgs X Δ (e :: es) (gCons g1 g2) (gdCons t u) := by
  obtain ⟨p1, s1⟩ := h1
  obtain ⟨p2, s2⟩ := h2
  refine ⟨pgs_cons p1 p2 hs, fun I M H σ env G vs ds r Q Qd k ⟨d, dr, e, q⟩ => ?_⟩
  subst e
  obtain ⟨v, vr, rfl, rv, rr⟩ := r.cons_inv
  exact ⟨v, vr, rfl, s1 I M H σ env G v d rv _ _ (fun env' M' I' H' σ' x G' q' => s2 I' M' H' σ' env' G' vr dr (rr.ext x) Q Qd (fun e2 M2 I2 H2 σ2 x2 => k e2 M2 I2 H2 σ2 (x.trans x2)) q') q⟩
def gdTup (n : Nat) (t : DGs) : DG := fun d env M Q => ∃ xs, nrm d = .tup xs ∧ xs.length = n ∧ t xs env M Q
theorem pdg_tup {es : List Expr} {k : Nat} {t : DGs} {n : Nat} (hc : X.calm = true) (h : PDgs X Δ es g2 t)
    (hn : (assignEach es X.env).length = n := by rfl) (hst : (assignEach es X.env).findIdx? (·.1) = none := by rfl) : PDg X Δ (.Tuple es k pos) (gTup X.K n g2) (gdTup n t) := by
  obtain ⟨p, s⟩ := h
  refine ⟨pg_tup hc p hn hst, fun I M H σ env G v d r Q Qd k ⟨xs, e, hl, q⟩ => ?_⟩
  have r' := r.nrm
  rw [e] at r'
  obtain ⟨a, vs, rfl, h1, h2⟩ := r'.tup_inv
  exact ⟨a, vs, rfl, G.at_.sqT h1, by rw [h2.length]; exact hl, s I M H σ env G vs xs h2 Q Qd k q⟩
def gdSub (da db : DE) : DG := fun d env M Q => da env M fun o M1 => db env M1 fun i M2 => ∃ p xs k j, o = .ref p ∧ i = .int k ∧ M2 p = some (.lst xs) ∧ ixN xs.length k = some j ∧ Q env (mset M2 p (.lst (xs.set j d)))
theorem pdg_sub {o i : Expr} (ho : PDe X Δ o to da) (hi : PDe X Δ i ti db) (walk : PE X o to → PE X i ti → PG X (.Subscript o i pos) (gSub to ti rSetL) := by exact fun a b => pg_sub a b set_list) : PDg X Δ (.Subscript o i pos) (gSub to ti rSetL) (gdSub da db) := by
  obtain ⟨po, so⟩ := ho
  obtain ⟨pi, si⟩ := hi
  refine ⟨walk po pi, fun I M H σ env G v d r Q Qd k q => so I M H σ env G _ _ (fun d1 M1 I1 H1 v1 x1 G1 r1 q1 => si I1 M1 H1 σ env G1 _ _ (fun d2 M2 I2 H2 v2 x2 G2 r2 q2 => ?_) q1) q⟩
  obtain ⟨p, xs, z, j, e1, e2, hm, hj, q3⟩ := q2
  subst e1 e2
  have r1' := r1.ext x2
  rw [r2.int_inv, r1'.ref_inv]
  obtain ⟨hI, vs, hv, rs⟩ := G2.at_.mem _ _ hm
  have rd := r.ext (x1.trans x2)
  refine ⟨p, vs, z, j, rfl, rfl, hv, by rw [rs.length]; exact hj, k _ _ _ _ _ (x1.trans x2) (G2.go (Ext.refl I2) (G2.at_.write (m' := .lst (xs.set j d)) hm (fun _ z => by cases z) ⟨_, upd_same, rs.set j rd⟩)) q3⟩
def dAsg (de : DE) (g : DG) : DS := fun T env M => de env M fun d M1 => g d env M1 T.nx
theorem pds_asg {tg e : Expr} {dg : DG} (he : PDe X Δ e te de) (hg : PDg X Δ tg g dg) (hs : swapsWithSole [tg] e pos.line X.env = pure false := by rfl) (hw : swappedStores [tg] e X.env = pure none := by rfl)
    (h1 : (assignEach [tg] X.env).map (·.2) = [assign tg X.env] := by rfl) : PDs X Δ (.Assign [tg] e pos) (tAsg te g) (dAsg de dg) := by
  obtain ⟨pe, se⟩ := he
  obtain ⟨pg, sg⟩ := hg
  exact ⟨ps_asg pe pg hs hw h1, fun I M H σ env G T Td R q => se I M H σ env G _ _ (fun d M1 I1 H1 v x1 G1 r1 q1 => sg I1 M1 H1 σ env G1 v d r1 _ _ (fun env' M' I' H' σ' x G' q' => R.nx _ _ _ _ _ (x1.trans x) G' q') q1) q⟩
def dSet (i : Nat) (de : DE) : DS := fun T env M => de env M fun d M1 => T.nx (env.set i (some d)) M1
theorem pds_set {i : Nat} {x : Str} {e : Expr} {pos' : Pos} (hN : X.N.Nodup) (hi : X.N[i]? = some x) (hx : Loc X.env.scope x) (he : PDe X Δ e te de) (hs : swapsWith e (some (.Name x pos')) pos.line X.env = pure false := by rfl) (hf : X.fn x = true ∨ X.env.scope.names.lookup x = some .local := by first | exact .inl rfl | exact .inr rfl | assumption) :
    PDs X Δ (.Assign [.Name x pos'] e pos) (tAsg te (gName i)) (dSet i de) := by
  obtain ⟨pe, se⟩ := he
  exact ⟨ps_set hN hi hx pe hs hf, fun I M H σ env G T Td R q => se I M H σ env G _ _ (fun d M1 I1 H1 v x1 G1 r1 q1 => R.nx _ _ _ _ _ x1 (G1.set r1) q1) q⟩
def dPar (i j : Nat) (da db : DE) : DS := fun T env M => da env M fun d M1 => db env M1 fun e M2 => T.nx ((env.set i (some d)).set j (some e)) M2
theorem pds_par {i j : Nat} {x y : Str} {a b : Expr} {px py pt : Pos} {kt k2 pt2} (hc : X.calm = true) (hN : X.N.Nodup) (hi : X.N[i]? = some x) (hj : X.N[j]? = some y) (hij : i ≠ j)
    (hx : X.env.scope.names.lookup x = some .local) (hy : X.env.scope.names.lookup y = some .local) (ha : PDe X Δ a ta da) (hb : PDe X Δ b tb db)
    (hw : swappedStores [.Tuple [.Name x px, .Name y py] kt pt] (.Tuple [a, b] k2 pt2) X.env = pure (some [x, y]) := by rfl)
    (hs : swapsWithSole [.Tuple [.Name x px, .Name y py] kt pt] (.Tuple [a, b] k2 pt2) pos.line X.env = pure false := by rfl)
    (he1 : starEach [a, b] X.env = (false, eval a X.env) :: starEach [b] X.env := by rfl) (he2 : starEach [b] X.env = (false, eval b X.env) :: starEach [] X.env := by rfl) :
    PDs X Δ (.Assign [.Tuple [.Name x px, .Name y py] kt pt] (.Tuple [a, b] k2 pt2) pos) (tPar i j (tCons ta (tCons tb tNil))) (dPar i j da db) := by
  obtain ⟨pa, sa⟩ := ha
  obtain ⟨pb, sb⟩ := hb
  refine ⟨ps_par hc hN hi hj hij hx hy (pa_cons pa (pa_cons pb pa_nil he2) he1) hw hs, fun I M H σ env G T Td R q => sa I M H σ env G _ _ (fun d M1 I1 H1 v x1 G1 r1 q1 => sb I1 M1 H1 σ env G1 _ _ (fun e M2 I2 H2 u x2 G2 r2 q2 => ?_) q1) q⟩
  exact ⟨v, u, rfl, R.nx _ _ _ _ _ (x1.trans x2) ((G2.set (r1.ext x2)).set r2) q2⟩
structure ItOk (K : PySem.W.Frag) (I1 : Hp) (J : It) (xs : List D) (keep : Mem → Prop) : Prop where
  go : ∀ F i I M H, Ext I1 I → At K F I M H → keep M → i < xs.length → J.go i H
  stop : ∀ F I M H, Ext I1 I → At K F I M H → keep M → J.stop xs.length H
  yld : ∀ F i d x I M H H', Ext I1 I → At K F I M H → keep M → xs[i]? = some d → J.yld i H x H' → ∃ I', Ext I I' ∧ At K F I' M H' ∧ Rp K I' x d
abbrev DI := Env → Mem → (List D → (Mem → Prop) → Mem → Prop) → Prop
def SndI (X : Cx) (Δ : DC) (wi : TI) (di : DI) : Prop := ∀ I M H σ env, Gd X.K Δ I M H σ env → ∀ (R : It → Hp → Prop) (Rd : List D → (Mem → Prop) → Mem → Prop),
  (∀ xs keep M1 J I1 H1, Ext I I1 → Gd X.K Δ I1 M1 H1 σ env → ItOk X.K I1 J xs keep → Rd xs keep M1 → R J H1) → di env M Rd → wi σ H R
def PDi (X : Cx) (Δ : DC) (tg iter : Expr) (wi : TI) (di : DI) : Prop := PI X tg iter wi ∧ SndI X Δ wi di
def dFor (di : DI) (g : DG) (u : DS) : DS := fun T env M => di env M fun xs keep M1 => ∃ P : Nat → Env → Mem → Prop, P 0 env M1 ∧ (∀ i env M, P i env M → keep M) ∧
  (∀ i d env M, xs[i]? = some d → P i env M → g d env M fun env' M' => u { T with nx := FzS (P (i + 1)), ct := FzS (P (i + 1)), bk := T.nx } env' M') ∧ ∀ env M, P xs.length env M → T.nx env M
theorem pds_for {tg iter : Expr} {body : List Stmt} {di : DI} {dg : DG} {u : DS} (hp : PassesOwn (model X.prog X.w) X.A X.env X.xe) (hc : X.calm = true) (hi : PDi X Δ tg iter wi di) (hg : PDg X Δ tg g dg) (hb : PDss X Δ body ts u)
    (hs : ∀ x, foldedSetIterable iter X.env x = pure x := by intro _; rfl) : PDs X Δ (.For tg iter body [] pos) (tFor wi g ts) (dFor di dg u) := by
  obtain ⟨pi, si⟩ := hi
  obtain ⟨pg, sg⟩ := hg
  obtain ⟨pb, sb⟩ := hb
  refine ⟨ps_for hp hc pi pg pb hs, fun I M H σ env G T Td R q => si I M H σ env G _ _ (fun xs keep M1 J I1 H1 x1 G1 ok q1 => ?_) q⟩
  obtain ⟨P, p0, pk, ps, pd⟩ := q1
  refine ⟨fun i m σ H => m = xs.length - i ∧ i ≤ xs.length ∧ ∃ I M env, Ext I1 I ∧ Gd X.K Δ I M H σ env ∧ P i env M, ⟨xs.length, by simp, Nat.zero_le _, I1, M1, env, Ext.refl _, G1, p0⟩, ?_⟩
  rintro i m σ2 H2 ⟨rfl, hi, I2, M2, env2, x2, G2, p2⟩
  have hk := pk i env2 M2 p2
  by_cases hlt : i < xs.length
  · refine .inr ⟨ok.go Δ.F i I2 M2 H2 x2 G2.at_ hk hlt, fun σ H => ∃ I M env, Ext I1 I ∧ Gd X.K Δ I M H σ env ∧ P (i + 1) env M, fun σ' H' w => ⟨xs.length - (i + 1), by omega, rfl, hlt, w⟩, fun x H' y => ?_⟩
    have hd : xs[i]? = some xs[i] := by simp [hlt]
    obtain ⟨I3, x3, A3, r3⟩ := ok.yld Δ.F i xs[i] x I2 M2 H2 H' x2 G2.at_ hk hd y
    have G3 := G2.go x3 A3
    refine sg I3 M2 H' σ2 env2 G3 x xs[i] r3 _ _ (fun env4 M4 I4 H4 σ4 x4 G4 q4 => ?_) (ps i xs[i] env2 M2 hd p2)
    refine sb I4 M4 H4 σ4 env4 G4 _ { Td with nx := FzS (P (i + 1)), ct := FzS (P (i + 1)), bk := Td.nx } ⟨fun env5 M5 I5 H5 σ5 x5 G5 q5 => ?_, fun env5 M5 I5 H5 σ5 x5 G5 q5 => ?_, fun env5 M5 I5 H5 σ5 x5 G5 q5 => ?_, fun d5 M5 I5 H5 v5 x5 b5 A5 r5 q5 => ?_⟩ q4
    · obtain ⟨I6, M6, env6, x6, G6, q6⟩ := fzs q5 G5
      exact ⟨I6, M6, env6, (((x2.trans x3).trans x4).trans x5).trans x6, G6, q6⟩
    · exact R.nx _ _ _ _ _ ((((x1.trans x2).trans x3).trans x4).trans x5) G5 q5
    · obtain ⟨I6, M6, env6, x6, G6, q6⟩ := fzs q5 G5
      exact ⟨I6, M6, env6, (((x2.trans x3).trans x4).trans x5).trans x6, G6, q6⟩
    · exact R.rt _ _ _ _ _ ((((x1.trans x2).trans x3).trans x4).trans x5) b5 A5 r5 q5
  · have e : i = xs.length := by omega
    subst e
    exact .inl ⟨ok.stop Δ.F I2 M2 H2 x2 G2.at_ hk, R.nx _ _ _ _ _ (x1.trans x2) G2 (pd env2 M2 p2)⟩
def dWhile (t : DT) (u : DS) : DS := fun T env M => ∃ P : Nat → Env → Mem → Prop, (∃ m, P m env M) ∧ ∀ m env M, P m env M → t env M fun b M1 =>
  if b = true then u { T with nx := FzS fun env M => ∃ m', m' < m ∧ P m' env M, ct := FzS fun env M => ∃ m', m' < m ∧ P m' env M, bk := T.nx } env M1 else T.nx env M1
theorem pds_while {body : List Stmt} {u : DS} (hp : PassesOwn (model X.prog X.w) X.A X.env X.xe) (hc : PDt X Δ c t1 dt) (hb : PDss X Δ body ts u) : PDs X Δ (.While c body [] pos) (tWhile t1 ts) (dWhile dt u) := by
  obtain ⟨pc, sc⟩ := hc
  obtain ⟨pb, sb⟩ := hb
  refine ⟨ps_while hp pc pb, fun I M H σ env G T Td R q => ?_⟩
  obtain ⟨P, ⟨m0, p0⟩, step⟩ := q
  refine ⟨fun m σ H => ∃ I' M env, Ext I I' ∧ Gd X.K Δ I' M H σ env ∧ P m env M, ⟨m0, I, M, env, Ext.refl _, G, p0⟩, ?_⟩
  rintro m σ2 H2 ⟨I2, M2, env2, x2, G2, p2⟩
  refine sc I2 M2 H2 σ2 env2 G2 _ _ (fun b M3 I3 H3 x3 G3 q3 => ?_) (step m env2 M2 p2)
  cases b with
  | true =>
    rw [if_pos rfl] at q3 ⊢
    refine ⟨fun σ H => ∃ m', m' < m ∧ ∃ I' M env, Ext I I' ∧ Gd X.K Δ I' M H σ env ∧ P m' env M, fun σ' H' w => w, ?_⟩
    refine sb I3 M3 H3 σ2 env2 G3 _ { Td with nx := FzS fun env M => ∃ m', m' < m ∧ P m' env M, ct := FzS fun env M => ∃ m', m' < m ∧ P m' env M, bk := Td.nx } ⟨fun env5 M5 I5 H5 σ5 x5 G5 q5 => ?_, fun env5 M5 I5 H5 σ5 x5 G5 q5 => ?_, fun env5 M5 I5 H5 σ5 x5 G5 q5 => ?_, fun d5 M5 I5 H5 v5 x5 b5 A5 r5 q5 => ?_⟩ q3
    · obtain ⟨I6, M6, env6, x6, G6, m', hm, w⟩ := fzs q5 G5
      exact ⟨m', hm, I6, M6, env6, ((x2.trans x3).trans x5).trans x6, G6, w⟩
    · exact R.nx _ _ _ _ _ ((x2.trans x3).trans x5) G5 q5
    · obtain ⟨I6, M6, env6, x6, G6, m', hm, w⟩ := fzs q5 G5
      exact ⟨m', hm, I6, M6, env6, ((x2.trans x3).trans x5).trans x6, G6, w⟩
    · exact R.rt _ _ _ _ _ ((x2.trans x3).trans x5) b5 A5 r5 q5
  | false =>
    rw [if_neg Bool.false_ne_true] at q3 ⊢
    exact R.nx _ _ _ _ _ (x2.trans x3) G3 q3
def iSeq (K : PySem.W.Frag) (tl : TE) : TI := fun σ H R => tl σ H fun x H1 => (∃ a, x = .ref a ∧ (∃ xs, SqL K H1 a xs) ∧ R (Itl K a) H1) ∨ (∃ a, x = .ref a ∧ (∃ xs, SqT K H1 a xs) ∧ R (Itt K a) H1) ∨ ∃ z, x = .str z ∧ R (Its z) H1
theorem pi_seq {tg l : Expr} {tl : TE} (hl : PE X l tl) : PI X tg l (iSeq X.K tl) :=
  ⟨fun pins s σ H R I w => thn (hl.run pins s σ H _ I w) fun
    | _, s1, ⟨_, H1, I1, same, .inl ⟨a, isRef, ⟨_, hq⟩, q⟩⟩ => by
      cases isRef; cases same
      have ⟨_, _, at1, _⟩ := I1.list hq
      exact wpAny_pyIter_list at1.isList (pi_one (tk := s1.toks) I1 _ (turn_list a _) ⟨_, Heap.get?_push_size _ rfl, rfl, rfl⟩ q)
    | _, s1, ⟨_, H1, I1, same, .inr (.inl ⟨a, isRef, ⟨_, hq⟩, q⟩)⟩ => by
      cases isRef; cases same
      have ⟨its, _, at1, _⟩ := I1.tuple hq
      exact wpAny_pyIter_tuple (items := its.toArray) at1 (pi_one (tk := s1.toks) I1 _ (turn_tuple a _) ⟨_, Heap.get?_push_size _ rfl, rfl, rfl⟩ q)
    | _, s1, ⟨_, H1, I1, same, .inr (.inr ⟨y, isTxt, q⟩)⟩ => by
      cases isTxt
      obtain ⟨t, rfl⟩ := same
      by_cases narrow : y.cps.all (· < 128) = true
      · exact wpAny_pyIter_ascii narrow (pi_one (tk := s1.toks) I1 _ (turn_str _ y t "str_ascii_iterator" (.inl rfl)) ⟨_, Heap.get?_push_size _ rfl, rfl, rfl⟩ q)
      · exact wpAny_pyIter_wide (Bool.eq_false_iff.mpr narrow) (pi_one (tk := s1.toks) I1 _ (turn_str _ y t "str_iterator" (.inr rfl)) ⟨_, Heap.get?_push_size _ rfl, rfl, rfl⟩ q)⟩
def signs (z : Str) : List D := z.cps.toList.map fun c => .str ⟨#[c]⟩
def dSeqI (de : DE) : DI := fun env M R => de env M fun d M1 => match d with
  | .tup xs => R xs (fun _ => True) M1
  | .lst xs => R xs (fun _ => True) M1
  | .frz xs => R xs (fun _ => True) M1
  | .str z => R (signs z) (fun _ => True) M1
  | .ref p => ∃ xs, M1 p = some (.lst xs) ∧ R xs (fun M => M p = some (.lst xs)) M1
  | _ => False
theorem pdi_seq {tg : Expr} (he : PDe X Δ e te de) : PDi X Δ tg e (iSeq X.K te) (dSeqI de) := by
  obtain ⟨pe, se⟩ := he
  refine ⟨pi_seq pe, fun I M H σ env G R Rd k q => se I M H σ env G _ _ (fun d M1 I1 H1 v x1 G1 r1 q1 => ?_) q⟩
  cases d with
  | tup xs =>
    obtain ⟨a, vs, rfl, h1, h2⟩ := r1.tup_inv
    refine .inr (.inl ⟨a, rfl, ⟨vs, G1.at_.sqT h1⟩, k xs _ M1 _ I1 H1 x1 G1 ⟨fun F i I M H x A _ hi => ?_, fun F I M H x A _ => ?_, fun F i d x' I M H H' x A _ hd y => ?_⟩ q1⟩)
    · exact ⟨vs, vs[i]'(by rw [h2.length]; exact hi), A.sqT (x.sqT h1), by simp [h2.length, hi]⟩
    · exact ⟨vs, A.sqT (x.sqT h1), Nat.le_of_eq h2.length⟩
    · obtain ⟨e, y⟩ := y
      subst e
      have := y vs (A.sqT (x.sqT h1))
      obtain ⟨d', hd', rd⟩ := (h2.ext x).get' this
      rw [hd] at hd'; cases hd'
      exact ⟨I, Ext.refl I, A, rd⟩
  | lst xs =>
    obtain ⟨a, vs, rfl, h1, h2⟩ := r1.lst_inv
    refine .inl ⟨a, rfl, ⟨vs, .inl (.inl (G1.at_.ex _ _ h1))⟩, k xs _ M1 _ I1 H1 x1 G1 ⟨fun F i I M H x A _ hi => ?_, fun F I M H x A _ => ?_, fun F i d x' I M H H' x A _ hd y => ?_⟩ q1⟩
    · exact ⟨vs, vs[i]'(by rw [h2.length]; exact hi), .inl (.inl (A.ex _ _ (x.lst h1))), by simp [h2.length, hi]⟩
    · exact ⟨vs, .inl (.inl (A.ex _ _ (x.lst h1))), Nat.le_of_eq h2.length⟩
    · obtain ⟨e, y⟩ := y
      subst e
      have := y vs (.inl (.inl (A.ex _ _ (x.lst h1))))
      obtain ⟨d', hd', rd⟩ := (h2.ext x).get' this
      rw [hd] at hd'; cases hd'
      exact ⟨I, Ext.refl I, A, rd⟩
  | frz xs =>
    obtain ⟨a, vs, rfl, h1, h2⟩ := r1.frz_inv
    refine .inl ⟨a, rfl, ⟨vs, G1.at_.sqL h1⟩, k xs _ M1 _ I1 H1 x1 G1 ⟨fun F i I M H x A _ hi => ?_, fun F I M H x A _ => ?_, fun F i d x' I M H H' x A _ hd y => ?_⟩ q1⟩
    · exact ⟨vs, vs[i]'(by rw [h2.length]; exact hi), A.sqL (x.sqL h1), by simp [h2.length, hi]⟩
    · exact ⟨vs, A.sqL (x.sqL h1), Nat.le_of_eq h2.length⟩
    · obtain ⟨e, y⟩ := y
      subst e
      have := y vs (A.sqL (x.sqL h1))
      obtain ⟨d', hd', rd⟩ := (h2.ext x).get' this
      rw [hd] at hd'; cases hd'
      exact ⟨I, Ext.refl I, A, rd⟩
  | str z =>
    rw [r1.str_inv]
    refine .inr (.inr ⟨z, rfl, k (signs z) _ M1 _ I1 H1 x1 G1 ⟨fun F i I M H x A _ hi => ?_, fun F I M H x A _ => ?_, fun F i d x' I M H H' x A _ hd y => ?_⟩ q1⟩)
    · show i < z.cps.size
      simpa [signs] using hi
    · show z.cps.size ≤ (signs z).length
      simp [signs]
    · obtain ⟨e, c, hc, rfl⟩ := y
      subst e
      have : d = .str ⟨#[c]⟩ := by
        simp only [signs, List.getElem?_map] at hd
        rw [show z.cps.toList[i]? = some c by simpa using hc] at hd
        simpa using hd.symm
      subst this
      exact ⟨I, Ext.refl I, A, .str _⟩
  | ref p =>
    obtain ⟨xs, hm, q1⟩ := q1
    rw [r1.ref_inv]
    obtain ⟨_, vs0, h0, _⟩ := G1.at_.mem _ _ hm
    refine .inl ⟨p, rfl, ⟨vs0, .inl (.inl h0)⟩, k xs _ M1 _ I1 H1 x1 G1 ⟨fun F i I M H x A hk hi => ?_, fun F I M H x A hk => ?_, fun F i d x' I M H H' x A hk hd y => ?_⟩ q1⟩
    · obtain ⟨_, vs, h1, h2⟩ := A.mem _ _ hk
      exact ⟨vs, vs[i]'(by rw [h2.length]; exact hi), .inl (.inl h1), by simp [h2.length, hi]⟩
    · obtain ⟨_, vs, h1, h2⟩ := A.mem _ _ hk
      exact ⟨vs, .inl (.inl h1), Nat.le_of_eq h2.length⟩
    · obtain ⟨e, y⟩ := y
      subst e
      obtain ⟨_, vs, h1, h2⟩ := A.mem _ _ hk
      have := y vs (.inl (.inl h1))
      obtain ⟨d', hd', rd⟩ := h2.get' this
      rw [hd] at hd'; cases hd'
      exact ⟨I, Ext.refl I, A, rd⟩
  | _ => exact q1.elim
def rngD (lo : Int) (n : Nat) : List D := (List.range n).map fun i => .int (lo + (i : Nat))
theorem itr_ok {K : PySem.W.Frag} {I1 : Hp} {lo : Int} {n : Nat} : ItOk K I1 (Itr lo n) (rngD lo n) (fun _ => True) := by
  refine ⟨fun F i I M H x A _ hi => ?_, fun F I M H x A _ => ?_, fun F i d x' I M H H' x A _ hd y => ?_⟩
  · show i < n
    simpa [rngD] using hi
  · show n ≤ (rngD lo n).length
    simp [rngD]
  · obtain ⟨e, rfl⟩ := y
    subst e
    have hlt : i < n := by
      have := (List.getElem?_eq_some_iff.mp hd).1
      simpa [rngD] using this
    have : d = .int (lo + (i : Nat)) := by
      simp only [rngD, List.getElem?_map, List.getElem?_range hlt] at hd
      simpa using hd.symm
    subst this
    exact ⟨I, Ext.refl I, A, .int _⟩
def dRng1 (dl : DA) : DI := fun env M R => dl env M fun ds M1 => ∃ j : Int, ds = [.int j] ∧ -(2 ^ 62) ≤ j ∧ j < 2 ^ 62 ∧ R (rngD 0 j.toNat) (fun _ => True) M1
def dRng2 (dl : DA) : DI := fun env M R => dl env M fun ds M1 => ∃ i j : Int, ds = [.int i, .int j] ∧ (-(2 ^ 62) ≤ i ∧ i < 2 ^ 62 ∧ -(2 ^ 62) ≤ j ∧ j < 2 ^ 62) ∧ R (rngD i (j - i).toNat) (fun _ => True) M1
theorem pdi_rng1 {tg a : Expr} {dl : DA} {p pos : Pos} (hg : Gl X "range") (hm : X.mg "range" = none) (ha : PDa X Δ [a] tl dl) (hs : starEach [a] X.env = [(false, eval a X.env)] := by rfl) : PDi X Δ tg (.Call (.Name "range" p) [a] [] pos) (iRng1 tl) (dRng1 dl) := by
  obtain ⟨pa, s⟩ := ha
  refine ⟨pi_range1 hg hm pa hs, fun I M H σ env G R Rd k q => s I M H σ env G _ _ (fun ds M1 I1 H1 vs x1 G1 r1 ⟨j, e, h1, h2, q1⟩ => ?_) q⟩
  subst e
  obtain ⟨v, rfl, rv⟩ := r1.one_inv
  rw [rv.int_inv]
  exact ⟨j, rfl, h1, h2, k _ _ M1 _ I1 H1 x1 G1 itr_ok q1⟩
theorem pdi_rng2 {tg a b : Expr} {dl : DA} {p pos : Pos} (hg : Gl X "range") (hm : X.mg "range" = none) (ha : PDa X Δ [a, b] tl dl) (hs : starEach [a, b] X.env = [(false, eval a X.env), (false, eval b X.env)] := by rfl) (hs2 : starEach [b] X.env = [(false, eval b X.env)] := by rfl) :
    PDi X Δ tg (.Call (.Name "range" p) [a, b] [] pos) (iRng2 tl) (dRng2 dl) := by
  obtain ⟨pa, s⟩ := ha
  refine ⟨pi_range2 hg hm pa hs hs2, fun I M H σ env G R Rd k q => s I M H σ env G _ _ (fun ds M1 I1 H1 vs x1 G1 r1 ⟨i, j, e, h1, q1⟩ => ?_) q⟩
  subst e
  obtain ⟨v, u, rfl, rv, ru⟩ := r1.two_inv
  rw [rv.int_inv, ru.int_inv]
  exact ⟨i, j, rfl, h1, k _ _ M1 _ I1 H1 x1 G1 itr_ok q1⟩
end
end BB
set_option maxHeartbeats 2000000
namespace BB
open L2 PySem PySem.Spec PyProof.Rows
def lstOf (M : Mem) : D → Option (List D)
  | .lst xs => some xs
  | .ref p => match M p with | some (.lst xs) => some xs | _ => none
  | _ => none
def seqOf (M : Mem) : D → Option (List D)
  | .tup xs => some xs
  | .frz xs => some xs
  | .lst xs => some xs
  | .ref p => match M p with | some (.lst xs) => some xs | _ => none
  | _ => none
theorem lstOf_ref {M : Mem} {p : Addr} {xs : List D} (h : M p = some (.lst xs)) : lstOf M (.ref p) = some xs := by simp [lstOf, h]
theorem seqOf_ref {M : Mem} {p : Addr} {xs : List D} (h : M p = some (.lst xs)) : seqOf M (.ref p) = some xs := by simp [seqOf, h]
section
variable {K : PySem.W.Frag} {F I H : Hp} {M : Mem} {v : V} {d : D} {xs : List D}
theorem lst_of (A : At K F I M H) (r : Rp K I v d) (h : lstOf M d = some xs) : ∃ a vs, v = .ref a ∧ H a = some (.lst vs) ∧ Rps K I vs xs := by
  cases d with
  | lst ys => cases h; obtain ⟨a, vs, rfl, h1, h2⟩ := r.lst_inv; exact ⟨a, vs, rfl, A.ex _ _ h1, h2⟩
  | ref p =>
    have h' : (match M p with | some (.lst xs) => some xs | _ => none) = some xs := h
    split at h'
    · rename_i ys e
      cases h'
      obtain ⟨_, vs, h1, h2⟩ := A.mem _ _ e
      exact ⟨p, vs, r.ref_inv, h1, h2⟩
    · cases h'
  | _ => cases h
theorem seq_of (A : At K F I M H) (r : Rp K I v d) (h : seqOf M d = some xs) : ∃ a vs, v = .ref a ∧ (SqL K H a vs ∨ SqT K H a vs) ∧ Rps K I vs xs := by
  cases d with
  | tup ys => cases h; obtain ⟨a, vs, rfl, h1, h2⟩ := r.tup_inv; exact ⟨a, vs, rfl, .inr (A.sqT h1), h2⟩
  | frz ys => cases h; obtain ⟨a, vs, rfl, h1, h2⟩ := r.frz_inv; exact ⟨a, vs, rfl, .inl (A.sqL h1), h2⟩
  | lst ys => cases h; obtain ⟨a, vs, rfl, h1, h2⟩ := r.lst_inv; exact ⟨a, vs, rfl, .inl (.inl (.inl (A.ex _ _ h1))), h2⟩
  | ref p =>
    have h' : (match M p with | some (.lst xs) => some xs | _ => none) = some xs := h
    split at h'
    · rename_i ys e
      cases h'
      obtain ⟨_, vs, h1, h2⟩ := A.mem _ _ e
      exact ⟨p, vs, r.ref_inv, .inl (.inl (.inl h1)), h2⟩
    · cases h'
  | _ => cases h
end
def addD (M : Mem) : D → D → Option D
  | .int i, .int j => some (.int (i + j))
  | .str a, .str b => if a.length + b.length ≤ sizeLine then some (.str (a ++ b)) else none
  | .tup a, .tup b => if a.length + b.length ≤ sizeLine then some (.tup (a ++ b)) else none
  | x, y => match lstOf M x, lstOf M y with
    | some a, some b => if a.length + b.length ≤ sizeLine then some (.lst (a ++ b)) else none
    | _, _ => none
theorem addD_str {M : Mem} {a b : Str} (h : a.length + b.length ≤ sizeLine) : addD M (.str a) (.str b) = some (.str (a ++ b)) := if_pos h
theorem addD_tup {M : Mem} {a b : List D} (h : a.length + b.length ≤ sizeLine) : addD M (.tup a) (.tup b) = some (.tup (a ++ b)) := if_pos h
theorem addD_lst {M : Mem} {a b : List D} (h : a.length + b.length ≤ sizeLine) : addD M (.lst a) (.lst b) = some (.lst (a ++ b)) := if_pos h
def rdO (f : Mem → D → D → Option D) : RD2 := fun x y M Q => ∃ d, f M x y = some d ∧ Q d M
abbrev rAddA (K : PySem.W.Frag) : R2 := fun x y H Q => (∃ i j, x = .int i ∧ y = .int j ∧ Q (.int (i + j)) H) ∨ (∃ i j, x = .str i ∧ y = .str j ∧ i.length + j.length ≤ sizeLine ∧ Q (.str (i ++ j)) H) ∨ rCatA K x y H Q ∨ rCat x y H Q
section
variable {X : Cx}
theorem op_addA : OpR X (binaryOp .Add) (rAddA X.K) := OpR.or op_add (OpR.or op_add_str (OpR.or op_catA op_cat))
theorem snd_add : SndR X (rAddA X.K) (rdO addD) := by
  intro Δ I M H σ env G x y dx dy rx ry Q Qd k ⟨d, e, q⟩
  have lists : ∀ {a b : List D}, lstOf M dx = some a → lstOf M dy = some b → (if a.length + b.length ≤ sizeLine then some (D.lst (a ++ b)) else none) = some d → rAddA X.K x y H Q := fun {a b} ha hb hd => by
    by_cases hz : a.length + b.length ≤ sizeLine
    · rw [if_pos hz] at hd
      cases hd
      obtain ⟨p1, v1, rfl, h1, r1⟩ := lst_of G.at_ rx ha
      obtain ⟨p2, v2, rfl, h2, r2⟩ := lst_of G.at_ ry hb
      refine .inr (.inr (.inr ⟨p1, p2, v1, v2, rfl, rfl, h1, h2, by rw [r1.length, r2.length]; exact hz, fun p hp => ?_⟩))
      obtain ⟨x2, G2⟩ := G.newI hp (.lst (v1 ++ v2))
      exact k _ _ _ _ _ x2 G2 (.lst upd_same ((r1.append r2).ext x2)) q
    · rw [if_neg hz] at hd; cases hd
  unfold addD at e
  split at e
  · cases e
    rw [rx.int_inv, ry.int_inv]
    exact .inl ⟨_, _, rfl, rfl, k _ _ _ _ _ (Ext.refl I) G (.int _) q⟩
  · rename_i a b
    by_cases hz : a.length + b.length ≤ sizeLine
    · rw [if_pos hz] at e
      cases e
      rw [rx.str_inv, ry.str_inv]
      exact .inr (.inl ⟨_, _, rfl, rfl, hz, k _ _ _ _ _ (Ext.refl I) G (.str _) q⟩)
    · rw [if_neg hz] at e; cases e
  · rename_i a b
    by_cases hz : a.length + b.length ≤ sizeLine
    · rw [if_pos hz] at e
      cases e
      obtain ⟨p1, v1, rfl, h1, r1⟩ := rx.tup_inv
      obtain ⟨p2, v2, rfl, h2, r2⟩ := ry.tup_inv
      refine .inr (.inr (.inl ⟨p1, p2, v1, v2, rfl, rfl, G.at_.sqT h1, G.at_.sqT h2, by rw [r1.length, r2.length]; exact hz, fun hx => ?_, fun hx hy => ?_, fun hx hy p hp => ?_⟩))
      · subst hx
        cases r1
        exact k _ _ _ _ _ (Ext.refl I) G (.tup h2 r2) q
      · subst hy
        cases r2
        exact k _ _ _ _ _ (Ext.refl I) G (.tup h1 (by rw [List.append_nil]; exact r1)) q
      · obtain ⟨x2, G2⟩ := G.newI hp (.tup (v1 ++ v2))
        exact k _ _ _ _ _ x2 G2 (.tup (.inl (.inl upd_same)) ((r1.append r2).ext x2)) q
    · rw [if_neg hz] at e; cases e
  · split at e
    · rename_i ha hb
      exact lists ha hb e
    · cases e
def modD (M : Mem) : D → D → Option D
  | .int i, .int j => if 0 < j then some (.int (i % j)) else none
  | _, _ => none
def divD (M : Mem) : D → D → Option D
  | .int i, .int j => if 0 < j ∧ j < 1073741824 then some (.int (i / j)) else none
  | _, _ => none
theorem modD_int {M : Mem} {i j : Int} (h : 0 < j) : modD M (.int i) (.int j) = some (.int (i % j)) := if_pos h
theorem divD_int {M : Mem} {i j : Int} (h : 0 < j ∧ j < 1073741824) : divD M (.int i) (.int j) = some (.int (i / j)) := if_pos h
theorem snd_mod : SndR X (rI (fun _ j => 0 < j) fun i j => .int (i % j)) (rdO modD) := by
  intro Δ I M H σ env G x y dx dy rx ry Q Qd k ⟨d, e, q⟩
  unfold modD at e
  split at e
  · rename_i i j
    by_cases h : 0 < j
    · rw [if_pos h] at e
      cases e; rw [rx.int_inv, ry.int_inv]; exact ⟨_, _, rfl, rfl, h, k _ _ _ _ _ (Ext.refl I) G (.int _) q⟩
    · rw [if_neg h] at e; cases e
  · cases e
theorem snd_div : SndR X (rI CDiv fun i j => .int (i / j)) (rdO divD) := by
  intro Δ I M H σ env G x y dx dy rx ry Q Qd k ⟨d, e, q⟩
  unfold divD at e
  split at e
  · rename_i i j
    by_cases h : 0 < j ∧ j < 1073741824
    · rw [if_pos h] at e
      cases e; rw [rx.int_inv, ry.int_inv]; exact ⟨_, _, rfl, rfl, h, k _ _ _ _ _ (Ext.refl I) G (.int _) q⟩
    · rw [if_neg h] at e; cases e
  · cases e
def mulD (M : Mem) : D → D → Option D
  | .int i, .int j => if (-(2 ^ 64) < i ∧ i < 2 ^ 64) ∨ (-(2 ^ 64) < j ∧ j < 2 ^ 64) then some (.int (i * j)) else none
  | .lst xs, .int k => if -(2 ^ 63) ≤ k ∧ k < 2 ^ 63 ∧ xs.length * k.toNat ≤ sizeLine then some (.lst (List.replicate k.toNat xs).flatten) else none
  | _, _ => none
theorem Rps.rep {K : PySem.W.Frag} {I : Hp} {vs : List V} {ds : List D} (r : Rps K I vs ds) : ∀ n : Nat, Rps K I (List.replicate n vs).flatten (List.replicate n ds).flatten
  | 0 => .nil
  | n + 1 => by
    rw [List.replicate_succ, List.flatten_cons, List.replicate_succ, List.flatten_cons]
    exact r.append (Rps.rep r n)
abbrev rMulA : R2 := fun x y H Q => (rI CMul fun i j => .int (i * j)) x y H Q ∨ rRep x y H Q
theorem op_mulA : OpR X (binaryOp .Mult) rMulA := OpR.or op_mul op_rep
theorem snd_mul : SndR X rMulA (rdO mulD) := by
  intro Δ I M H σ env G x y dx dy rx ry Q Qd k ⟨d, e, q⟩
  unfold mulD at e
  split at e
  · rename_i i j
    by_cases h : (-(2 ^ 64) < i ∧ i < 2 ^ 64) ∨ (-(2 ^ 64) < j ∧ j < 2 ^ 64)
    · rw [if_pos h] at e
      cases e; rw [rx.int_inv, ry.int_inv]; exact .inl ⟨_, _, rfl, rfl, h, k _ _ _ _ _ (Ext.refl I) G (.int _) q⟩
    · rw [if_neg h] at e; cases e
  · rename_i xs z
    by_cases h : -(2 ^ 63) ≤ z ∧ z < 2 ^ 63 ∧ xs.length * z.toNat ≤ sizeLine
    · rw [if_pos h] at e
      cases e
      obtain ⟨a, vs, rfl, h1, r1⟩ := rx.lst_inv
      rw [ry.int_inv]
      refine .inr ⟨a, z, vs, rfl, rfl, G.at_.ex _ _ h1, h.1, h.2.1, by rw [r1.length]; exact h.2.2, fun p hp => ?_⟩
      obtain ⟨x2, G2⟩ := G.newI hp (.lst (List.replicate z.toNat vs).flatten)
      exact k _ _ _ _ _ x2 G2 (.lst upd_same ((r1.rep z.toNat).ext x2)) q
    · rw [if_neg h] at e; cases e
  · cases e
mutual
def toPy : D → Option PyData
  | .non => some .none
  | .bl b => some (.bool b)
  | .int i => some (.int i)
  | .str x => some (.str x)
  | .tup xs => (toPys xs).map .tuple
  | .lst xs => (toPys xs).map .list
  | .ntup xs => (toPys xs).map .tuple
  | .htup xs => (toPys xs).map .tuple
  | .frz xs => (toPys xs).map .list
  | _ => none
def toPys : List D → Option (List PyData)
  | [] => some []
  | d :: ds => match toPy d, toPys ds with
    | some p, some ps => some (p :: ps)
    | _, _ => none
end
mutual
theorem dp_of {K : PySem.W.Frag} {F I H : Hp} {M : Mem} (A : At K F I M H) : ∀ (d : D) {v : V} {p : PyData}, Rp K I v d → toPy d = some p → Dp K H v p
  | .non, _, _, r, h => by rw [toPy] at h; cases h; rw [r.non_inv]; exact .non
  | .bl b, _, _, r, h => by rw [toPy] at h; cases h; rw [r.bl_inv]; exact .bl b
  | .int i, _, _, r, h => by rw [toPy] at h; cases h; rw [r.int_inv]; exact .int i
  | .str x, _, _, r, h => by rw [toPy] at h; cases h; rw [r.str_inv]; exact .str x
  | .tup xs, v, p, r, h => by
    obtain ⟨a, vs, rfl, h1, r1⟩ := r.tup_inv
    rw [toPy] at h
    cases e : toPys xs with
    | none => rw [e] at h; exact nomatch h
    | some ps => rw [e] at h; cases h; exact .tup (A.sqT h1) (dps_of A xs r1 e)
  | .lst xs, v, p, r, h => by
    obtain ⟨a, vs, rfl, h1, r1⟩ := r.lst_inv
    rw [toPy] at h
    cases e : toPys xs with
    | none => rw [e] at h; exact nomatch h
    | some ps => rw [e] at h; cases h; exact .lst (.inl (.inl (A.ex _ _ h1))) (dps_of A xs r1 e)
  | .frz xs, v, p, r, h => by
    obtain ⟨a, vs, rfl, h1, r1⟩ := r.frz_inv
    rw [toPy] at h
    cases e : toPys xs with
    | none => rw [e] at h; exact nomatch h
    | some ps => rw [e] at h; cases h; exact .lst (A.sqL h1) (dps_of A xs r1 e)
  | .htup xs, v, p, r, h => by
    obtain ⟨a, vs, rfl, h1, r1⟩ := r.htup_inv
    rw [toPy] at h
    cases e : toPys xs with
    | none => rw [e] at h; exact nomatch h
    | some ps => rw [e] at h; cases h; exact .tup (A.sqT (.inl (.inl h1))) (dps_of A xs r1 e)
  | .ntup xs, v, p, r, h => by
    obtain ⟨a, ob, vs, rfl, h1, _, _, r1⟩ := r.ntup_inv
    rw [toPy] at h
    cases e : toPys xs with
    | none => rw [e] at h; exact nomatch h
    | some ps => rw [e] at h; cases h; exact .tup (A.sqT (.inl (.inr ⟨ob, h1⟩))) (dps_of A xs r1 e)
  | .dK _, _, _, _, h => by rw [toPy] at h <;> first | cases h | (intros; intro z; cases z)
  | .dT _, _, _, _, h => by rw [toPy] at h <;> first | cases h | (intros; intro z; cases z)
  | .ins _ _, _, _, _, h => by rw [toPy] at h <;> first | cases h | (intros; intro z; cases z)
  | .ref _, _, _, _, h => by rw [toPy] at h <;> first | cases h | (intros; intro z; cases z)
  | .ty _, _, _, _, h => by rw [toPy] at h <;> first | cases h | (intros; intro z; cases z)
  | .exc _ _, _, _, _, h => by rw [toPy] at h <;> first | cases h | (intros; intro z; cases z)
theorem dps_of {K : PySem.W.Frag} {F I H : Hp} {M : Mem} (A : At K F I M H) : ∀ (ds : List D) {vs : List V} {ps : List PyData}, Rps K I vs ds → toPys ds = some ps → DpAll K H vs ps
  | [], _, _, r, h => by rw [toPys] at h; cases h; rw [r.nil_inv]; exact .nil
  | d :: ds, _, _, r, h => by
    obtain ⟨v, vs, rfl, rv, rr⟩ := r.cons_inv
    rw [toPys] at h
    cases e1 : toPy d with
    | none => rw [e1] at h; cases h
    | some p =>
      cases e2 : toPys ds with
      | none => rw [e1, e2] at h; cases h
      | some ps => rw [e1, e2] at h; cases h; exact .cons (dp_of A d rv e1) (dps_of A ds rr e2)
end
def pyOf (M : Mem) : D → Option PyData
  | .ref p => match M p with | some (.lst xs) => (toPys xs).map .list | _ => none
  | d => toPy d
theorem pyOf_dp {K : PySem.W.Frag} {F I H : Hp} {M : Mem} (A : At K F I M H) {v : V} {d : D} {p : PyData} (r : Rp K I v d) (h : pyOf M d = some p) : Dp K H v p := by
  unfold pyOf at h
  split at h
  · rename_i a
    split at h
    · rename_i xs e
      cases e2 : toPys xs with
      | none => rw [e2] at h; cases h
      | some ps =>
        rw [e2] at h
        cases h
        obtain ⟨_, vs, h1, h2⟩ := A.mem _ _ e
        rw [r.ref_inv]
        exact .lst (.inl (.inl h1)) (dps_of A xs h2 e2)
    · cases h
  · exact dp_of A d r h
def rdEq : RD2 := fun x y M Q => ∃ p q, pyOf M x = some p ∧ pyOf M y = some q ∧ SeqAt.shaped p = true ∧ SeqAt.shaped q = true ∧ Q (.bl (PyData.eqv p q)) M
def rdNe : RD2 := fun x y M Q => ∃ p q, pyOf M x = some p ∧ pyOf M y = some q ∧ SeqAt.shaped p = true ∧ SeqAt.shaped q = true ∧ Q (.bl (!PyData.eqv p q)) M
theorem snd_eq : SndR X (rEqD X.K) rdEq := by
  intro Δ I M H σ env G x y dx dy rx ry Q Qd k ⟨p, q, h1, h2, s1, s2, h⟩
  exact ⟨p, q, pyOf_dp G.at_ rx h1, pyOf_dp G.at_ ry h2, s1, s2, k _ _ _ _ _ (Ext.refl I) G (.bl _) h⟩
theorem snd_ne : SndR X (rNeD X.K) rdNe := by
  intro Δ I M H σ env G x y dx dy rx ry Q Qd k ⟨p, q, h1, h2, s1, s2, h⟩
  exact ⟨p, q, pyOf_dp G.at_ rx h1, pyOf_dp G.at_ ry h2, s1, s2, k _ _ _ _ _ (Ext.refl I) G (.bl _) h⟩
def cmpD (pi : Int → Int → Bool) (ps : Str → Str → Bool) (M : Mem) : D → D → Option D
  | .int i, .int j => some (.bl (pi i j))
  | .str i, .str j => some (.bl (ps i j))
  | _, _ => none
def ltS (a b : Str) : Bool := decide (a.cps.toList < b.cps.toList)
abbrev rLtA : R2 := fun x y H Q => (rI0 fun i j => .bl (decide (i < j))) x y H Q ∨ ∃ i j, x = .str i ∧ y = .str j ∧ Q (.bl (decide (i.cps.toList < j.cps.toList))) H
theorem op_ltA : OpR X (compareOp .Lt) rLtA := OpR.or op_lt op_lt_str
theorem snd_lt : SndR X rLtA (rdO (cmpD (fun i j => decide (i < j)) ltS)) := by
  intro Δ I M H σ env G x y dx dy rx ry Q Qd k ⟨d, e, q⟩
  unfold cmpD at e
  split at e
  · cases e; rw [rx.int_inv, ry.int_inv]; exact .inl ⟨_, _, rfl, rfl, k _ _ _ _ _ (Ext.refl I) G (.bl _) q⟩
  · cases e; rw [rx.str_inv, ry.str_inv]; exact .inr ⟨_, _, rfl, rfl, k _ _ _ _ _ (Ext.refl I) G (.bl _) q⟩
  · cases e
def intD (p : Int → Int → Bool) (M : Mem) : D → D → Option D
  | .int i, .int j => some (.bl (p i j))
  | _, _ => none
theorem snd_int {p : Int → Int → Bool} : SndR X (rI0 fun i j => .bl (p i j)) (rdO (intD p)) := by
  intro Δ I M H σ env G x y dx dy rx ry Q Qd k ⟨d, e, q⟩
  unfold intD at e
  split at e
  · cases e; rw [rx.int_inv, ry.int_inv]; exact ⟨_, _, rfl, rfl, k _ _ _ _ _ (Ext.refl I) G (.bl _) q⟩
  · cases e
def isNon : D → Bool
  | .non => true
  | _ => false
def isD (M : Mem) : D → D → Option D
  | x, .non => some (.bl (isNon x))
  | _, _ => none
def isntD (M : Mem) : D → D → Option D
  | x, .non => some (.bl (!isNon x))
  | _, _ => none
theorem isNon_of {K : PySem.W.Frag} {I : Hp} {v : V} {d : D} (r : Rp K I v d) : decide (v = .non) = isNon d := by
  cases r <;> first | rfl | simp [isNon]
theorem snd_is : SndR X (fun x y H Q => y = .non ∧ Q (.bl (decide (x = .non))) H) (rdO isD) := by
  intro Δ I M H σ env G x y dx dy rx ry Q Qd k ⟨d, e, q⟩
  unfold isD at e
  split at e
  · cases e; rw [ry.non_inv]; exact ⟨rfl, k _ _ _ _ _ (Ext.refl I) G (by rw [isNon_of rx]; exact .bl _) q⟩
  · cases e
theorem snd_isnt : SndR X (fun x y H Q => y = .non ∧ Q (.bl (!decide (x = .non))) H) (rdO isntD) := by
  intro Δ I M H σ env G x y dx dy rx ry Q Qd k ⟨d, e, q⟩
  unfold isntD at e
  split at e
  · cases e; rw [ry.non_inv]; exact ⟨rfl, k _ _ _ _ _ (Ext.refl I) G (by rw [isNon_of rx]; exact .bl _) q⟩
  · cases e
def flatD : D → Bool
  | .non | .bl _ | .int _ | .str _ => true
  | _ => false
def eqF : D → D → Bool
  | .non, .non => true
  | .bl a, .bl b => a == b
  | .bl a, .int b => (if a then 1 else 0) == b | .int a, .bl b => a == (if b then 1 else 0)
  | .int a, .int b => a == b
  | .str a, .str b => a == b
  | _, _ => false
def inF (x : D) (xs : List D) : Bool := xs.any fun y => eqF y x
theorem flat_of {K : PySem.W.Frag} {I : Hp} {v : V} {d : D} (r : Rp K I v d) (h : flatD d = true) : flatV v = true := by
  cases r <;> first | rfl | cases h
theorem eqF_of {K : PySem.W.Frag} {I : Hp} {v u : V} {d e : D} (r : Rp K I v d) (r' : Rp K I u e) (h : flatD d = true) (h' : flatD e = true) : eqV v u = eqF d e := by
  cases r <;> cases r' <;> first | rfl | cases h | cases h'
theorem flats_of {K : PySem.W.Frag} {I : Hp} : ∀ {vs : List V} {ds : List D}, Rps K I vs ds → ds.all flatD = true → vs.all flatV = true
  | _, _, .nil, _ => rfl
  | _, _, .cons a b, h => by
    rw [List.all_cons, Bool.and_eq_true] at h ⊢
    exact ⟨flat_of a h.1, flats_of b h.2⟩
theorem inF_of {K : PySem.W.Frag} {I : Hp} {v : V} {d : D} (r : Rp K I v d) (h : flatD d = true) : ∀ {vs : List V} {ds : List D}, Rps K I vs ds → ds.all flatD = true → inV v vs = inF d ds
  | _, _, .nil, _ => rfl
  | _, _, .cons a b, q => by
    rw [List.all_cons, Bool.and_eq_true] at q
    have ih := inF_of r h b q.2
    unfold inV inF at ih ⊢
    rw [List.any_cons, List.any_cons, eqF_of a r q.1 h, ih]
def rdIn (neg : Bool) : RD2 := fun x y M Q => (∃ xs, seqOf M y = some xs ∧ flatD x = true ∧ xs.all flatD = true ∧ Q (.bl (if neg then !inF x xs else inF x xs)) M) ∨
  ∃ c z, x = .str ⟨#[c]⟩ ∧ y = .str z ∧ Q (.bl (if neg then !decide (c ∈ z.cps.toList) else decide (c ∈ z.cps.toList))) M
abbrev rInA (K : PySem.W.Frag) (neg : Bool) : R2 := fun x y H Q => rIn K neg x y H Q ∨ ∃ (c : Nat) (z : Str), x = .str ⟨#[c]⟩ ∧ y = .str z ∧ Q (.bl (if neg then !decide (c ∈ z.cps.toList) else decide (c ∈ z.cps.toList))) H
theorem op_inA : OpR X (compareOp .In) (rInA X.K false) := OpR.or op_in_seq op_in_sign
theorem op_notInA : OpR X (compareOp .NotIn) (rInA X.K true) := OpR.or op_notIn_seq op_notIn_sign
theorem snd_in {neg : Bool} : SndR X (rInA X.K neg) (rdIn neg) := by
  intro Δ I M H σ env G x y dx dy rx ry Q Qd k h
  rcases h with ⟨xs, e, fx, fs, q⟩ | ⟨c, z, e1, e2, q⟩
  · obtain ⟨a, vs, rfl, h1, r1⟩ := seq_of G.at_ ry e
    refine .inl ⟨a, vs, rfl, h1, flat_of rx fx, flats_of r1 fs, k _ _ _ _ _ (Ext.refl I) G ?_ q⟩
    rw [inF_of rx fx r1 fs]
    exact .bl _
  · subst e1 e2
    rw [rx.str_inv, ry.str_inv]
    exact .inr ⟨c, z, rfl, rfl, k _ _ _ _ _ (Ext.refl I) G (.bl _) q⟩
def ixD (M : Mem) : D → D → Option D
  | .str z, .int i => if z.length ≤ sizeLine then (atI z.cps.toList i).map fun c => .str ⟨#[c]⟩ else none
  | x, .int i => (seqOf M x).bind fun xs => atI xs i
  | _, _ => none
theorem at_of {K : PySem.W.Frag} {I : Hp} {vs : List V} {ds : List D} (r : Rps K I vs ds) {i : Int} {d : D} (h : atI ds i = some d) : ∃ v, atI vs i = some v ∧ Rp K I v d := by
  unfold atI at h ⊢
  rw [r.length]
  cases e : ixN ds.length i with
  | none => rw [e] at h; exact nomatch h
  | some j => rw [e] at h; exact r.get h
theorem snd_ix : SndR X (rIx X.K) (rdO ixD) := by
  intro Δ I M H σ env G x y dx dy rx ry Q Qd k ⟨d, e, q⟩
  unfold ixD at e
  split at e
  · rename_i z i
    by_cases h : z.length ≤ sizeLine
    · rw [if_pos h] at e
      cases e2 : atI z.cps.toList i with
      | none => rw [e2] at e; cases e
      | some c =>
        rw [e2] at e
        cases e
        rw [rx.str_inv, ry.int_inv]
        exact .inr (.inr ⟨z, i, c, rfl, rfl, h, e2, k _ _ _ _ _ (Ext.refl I) G (.str _) q⟩)
    · rw [if_neg h] at e; cases e
  · rename_i i _
    cases e2 : seqOf M dx with
    | none => rw [e2] at e; cases e
    | some xs =>
      rw [e2] at e
      obtain ⟨a, vs, rfl, h1, r1⟩ := seq_of G.at_ rx e2
      obtain ⟨v, h2, rv⟩ := at_of r1 e
      rw [ry.int_inv]
      rcases h1 with h1 | h1
      · exact .inl ⟨a, vs, i, v, rfl, rfl, h1, h2, k _ _ _ _ _ (Ext.refl I) G rv q⟩
      · exact .inr (.inl ⟨a, vs, i, v, rfl, rfl, h1, h2, k _ _ _ _ _ (Ext.refl I) G rv q⟩)
  · cases e
variable {Δ : DC} {e a b c : Expr} {de da db dc : DE} {pos p2 : Pos}
variable {ta tb tc te to ti : TE} {t1 t2 : TT} {tl : TA}
variable {tlo thi : TO}
theorem pd_ix (ha : PDe X Δ a ta da) (hb : PDe X Δ b tb db) (hs : PlainIx b := by exact fun _ _ => rfl) : PDe X Δ (.Subscript a b pos) (tOp (rIx X.K) ta tb) (dOp (rdO ixD) da db) := by
  obtain ⟨pa, sa⟩ := ha
  obtain ⟨pb, sb⟩ := hb
  exact ⟨pe_ix ix_seq pa pb hs, snd_op snd_ix sa sb⟩
abbrev DO := Env → Mem → (Option Int → Mem → Prop) → Prop
def SndO (X : Cx) (Δ : DC) (to : TO) (d : DO) : Prop := ∀ I M H σ env, Gd X.K Δ I M H σ env → ∀ (Q : Option Int → Hp → Prop) (Qd : Option Int → Mem → Prop),
  (∀ o M' I' H', Ext I I' → Gd X.K Δ I' M' H' σ env → Qd o M' → Q o H') → d env M Qd → to σ H Q
def PDo (X : Cx) (Δ : DC) (e : Option Expr) (t : TO) (d : DO) : Prop := PO X e t ∧ SndO X Δ t d
def dNoPart : DO := fun _ M Q => Q none M
def dPart (de : DE) : DO := fun env M Q => de env M fun x M1 => ∃ i, x = .int i ∧ Q (some i) M1
theorem pdo_none : PDo X Δ none tNoPart dNoPart := ⟨po_none, fun I M H σ env G Q Qd k q => k _ _ _ _ (Ext.refl I) G q⟩
theorem pdo_some (h : PDe X Δ e te de) : PDo X Δ (some e) (tPart te) (dPart de) := by
  obtain ⟨p, s⟩ := h
  refine ⟨po_some p, fun I M H σ env G Q Qd k q => s I M H σ env G _ _ (fun d M1 I1 H1 v x1 G1 r1 ⟨i, e1, q1⟩ => ?_) q⟩
  subst e1
  exact ⟨i, r1.int_inv, k _ _ _ _ x1 G1 q1⟩
def cutD {α : Type} (xs : List α) (lo hi : Option Int) : List α := (xs.drop (HT.sIx xs.length 0 lo)).take (HT.sIx xs.length xs.length hi - HT.sIx xs.length 0 lo)
def slD (M : Mem) (x : D) (lo hi : Option Int) : Option D := match x with
  | .str z => if z.length ≤ sizeLine then some (.str (cutS z lo hi)) else none
  | .tup xs => some (.tup (cutD xs lo hi))
  | .frz xs => some (.lst (cutD xs lo hi))
  | x => (lstOf M x).map fun xs => .lst (cutD xs lo hi)
abbrev rSlAll (K : PySem.W.Frag) : V → Option Int → Option Int → Hp → VK → Prop := fun x lo hi H Q => rSlS x lo hi H Q ∨ rSlA K x lo hi H Q ∨ rSlL K x lo hi H Q
theorem sl_all : SlR X (rSlAll X.K) := SlR.or sl_str (SlR.or sl_tupA sl_list)
def dSl (de : DE) (dl dh : DO) : DE := fun env M Q => de env M fun x M1 => dl env M1 fun l M2 => dh env M2 fun u M3 => ∃ d, slD M3 x l u = some d ∧ Q d M3
theorem Rps.cut {K : PySem.W.Frag} {I : Hp} {vs : List V} {ds : List D} (r : Rps K I vs ds) (lo hi : Option Int) : Rps K I (cutV vs lo hi) (cutD ds lo hi) := by
  unfold cutV cutD
  rw [r.length]
  exact (r.drop _).take _
theorem sIx_whole {α : Type} {xs : List α} {lo hi : Option Int} (h : HT.sIx xs.length 0 lo = 0 ∧ HT.sIx xs.length xs.length hi = xs.length) : cutD xs lo hi = xs := by
  unfold cutD
  rw [h.1, h.2, List.drop_zero, Nat.sub_zero, List.take_length]
theorem pd_slice {lo hi : Option Expr} {dl dh : DO} (he : PDe X Δ e te de) (hl : PDo X Δ lo tlo dl) (hu : PDo X Δ hi thi dh) : PDe X Δ (.Subscript e (.Slice lo hi none p2) pos) (tSl (rSlAll X.K) te tlo thi) (dSl de dl dh) := by
  obtain ⟨pe, se⟩ := he
  obtain ⟨pl, sl⟩ := hl
  obtain ⟨ph, sh⟩ := hu
  refine ⟨pe_slice sl_all pe pl ph, fun I M H σ env G Q Qd k q => se I M H σ env G _ _ (fun x M1 I1 H1 v x1 G1 r1 q1 => sl I1 M1 H1 σ env G1 _ _ (fun l M2 I2 H2 x2 G2 q2 => sh I2 M2 H2 σ env G2 _ _ (fun u M3 I3 H3 x3 G3 h3 => ?_) q2) q1) q⟩
  obtain ⟨d, e3, q3⟩ := h3
  have r3 := r1.ext (x2.trans x3)
  have x13 := (x1.trans x2).trans x3
  unfold slD at e3
  split at e3
  · rename_i z
    by_cases h : z.length ≤ sizeLine
    · rw [if_pos h] at e3
      cases e3
      exact .inl ⟨z, r3.str_inv, h, k _ _ _ _ _ x13 G3 (.str _) q3⟩
    · rw [if_neg h] at e3; cases e3
  · rename_i xs
    cases e3
    obtain ⟨a, vs, rfl, h1, h2⟩ := r3.tup_inv
    refine .inr (.inl ⟨a, vs, rfl, G3.at_.sqT h1, fun hw => ?_, fun _ p hp => ?_⟩)
    · rw [h2.length] at hw
      exact k _ _ _ _ _ x13 G3 (by rw [sIx_whole hw]; exact r3) q3
    · obtain ⟨x4, G4⟩ := G3.newI hp (.tup (cutV vs l u))
      exact k _ _ _ _ _ (x13.trans x4) G4 (.tup (.inl (.inl upd_same)) ((h2.cut l u).ext x4)) q3
  · cases e3
    obtain ⟨a, vs, rfl, h1, h2⟩ := r3.frz_inv
    refine .inr (.inr ⟨a, vs, rfl, G3.at_.sqL h1, fun p hp => ?_⟩)
    obtain ⟨x4, G4⟩ := G3.newI hp (.lst (cutV vs l u))
    exact k _ _ _ _ _ (x13.trans x4) G4 (.lst upd_same ((h2.cut l u).ext x4)) q3
  · cases e4 : lstOf M3 x with
    | none => rw [e4] at e3; exact nomatch e3
    | some xs =>
      rw [e4] at e3
      cases e3
      obtain ⟨a, vs, rfl, h1, h2⟩ := lst_of G3.at_ r3 e4
      refine .inr (.inr ⟨a, vs, rfl, .inl (.inl h1), fun p hp => ?_⟩)
      obtain ⟨x4, G4⟩ := G3.newI hp (.lst (cutV vs l u))
      exact k _ _ _ _ _ (x13.trans x4) G4 (.lst upd_same ((h2.cut l u).ext x4)) q3
end
end BB
set_option maxHeartbeats 2000000
namespace BB
open L2 PySem PySem.Spec PyProof.Rows
def wipeD (env : Env) : List Nat → Env
  | [] => env
  | v :: vs => (wipeD env vs).set v none
theorem wipe_get {σ : L2.St} {j : Nat} : ∀ {vs : List Nat}, (wipe σ vs)[j]? = if j ∈ vs then (σ[j]?).map (fun _ => none) else σ[j]?
  | [] => by simp [wipe]
  | v :: vs => by
    unfold wipe
    by_cases h : v = j
    · subst h
      rw [List.getElem?_set]
      simp only [if_true, List.mem_cons, true_or, wipe_length]
      by_cases hl : v < σ.length
      · rw [if_pos hl, List.getElem?_eq_getElem hl]; rfl
      · rw [if_neg hl, List.getElem?_eq_none (by omega)]; rfl
    · rw [List.getElem?_set_ne h, wipe_get (vs := vs)]
      have : (j ∈ v :: vs) ↔ j ∈ vs := by simp [Ne.symm h]
      simp only [this]
theorem wipe_set {σ : L2.St} {i : Nat} {x : Option V} {vs : List Nat} (h : i ∈ vs) : wipe (σ.set i x) vs = wipe σ vs := by
  apply List.ext_getElem?
  intro j
  rw [wipe_get, wipe_get]
  by_cases hj : j ∈ vs
  · rw [if_pos hj, if_pos hj, List.getElem?_set]
    by_cases e : i = j
    · subst e
      rw [if_pos rfl]
      by_cases hl : i < σ.length
      · rw [if_pos hl, List.getElem?_eq_getElem hl]; rfl
      · rw [if_neg hl, List.getElem?_eq_none (by omega)]
    · rw [if_neg e]
  · rw [if_neg hj, if_neg hj, List.getElem?_set_ne (by rintro rfl; exact hj h)]
theorem wipe_idem {σ : L2.St} {vs : List Nat} : wipe (wipe σ vs) vs = wipe σ vs := by
  apply List.ext_getElem?
  intro j
  rw [wipe_get, wipe_get]
  by_cases hj : j ∈ vs
  · rw [if_pos hj, if_pos hj]; cases σ[j]? <;> rfl
  · rw [if_neg hj, if_neg hj]
theorem EnvR.wipe {K : PySem.W.Frag} {I : Hp} {σ : L2.St} {env : Env} (R : EnvR K I σ env) : ∀ vs : List Nat, EnvR K I (L2.wipe σ vs) (wipeD env vs)
  | [] => R
  | v :: vs => (EnvR.wipe R vs).setN
section
variable {X : Cx} {Δ : DC} {e a b c : Expr} {de da db dc : DE} {dt du : DT} {pos : Pos}
variable {ta tb tc te to ti : TE} {t1 t2 : TT} {tl : TA} {dl : DA} {wi : TI} {di : DI} {g g1 : TG} {g2 : TGs} {dg : DG}
abbrev DC.blk (Δ : DC) (F : Hp) : DC := { F := F, I0 := Δ.I0, W := fun _ _ _ _ => False, Wd := fun _ _ _ _ => False }
theorem xok_blk {X : Cx} {F I0 : Hp} : XOk X { F := F, I0 := I0, W := fun _ _ _ _ => False, Wd := fun _ _ _ _ => False } := ⟨fun _ _ x => by
  let ⟨_, _, _, _, _, _, _, _, _, _, _, _, _, _, _, _, z⟩ := x; exact z.elim, fun _ _ z => z.elim⟩
def SndW (X : Cx) (Δ : DC) (vs : List Nat) (g : TG) (dg : DG) : Prop := ∀ I M H σ env, Gd X.K Δ I M H σ env → ∀ v d, Rp X.K I v d → ∀ (Q : L2.St → Hp → Prop) (Qd : Env → Mem → Prop),
  (∀ env' M' I' H' σ', Ext I I' → Gd X.K Δ I' M' H' σ' env' → L2.wipe σ' vs = L2.wipe σ vs → Qd env' M' → Q σ' H') → dg d env M Qd → g v σ H Q
def SndWs (X : Cx) (Δ : DC) (vs : List Nat) (g : TGs) (dg : DGs) : Prop := ∀ I M H σ env, Gd X.K Δ I M H σ env → ∀ v d, Rps X.K I v d → ∀ (Q : L2.St → Hp → Prop) (Qd : Env → Mem → Prop),
  (∀ env' M' I' H' σ', Ext I I' → Gd X.K Δ I' M' H' σ' env' → L2.wipe σ' vs = L2.wipe σ vs → Qd env' M' → Q σ' H') → dg d env M Qd → g v σ H Q
def PDgw (X : Cx) (Δ : DC) (vs : List Nat) (tg : Expr) (g : TG) (dg : DG) : Prop := PG X tg g ∧ SndW X Δ vs g dg
def PDgws (X : Cx) (Δ : DC) (vs : List Nat) (ts : List Expr) (g : TGs) (dg : DGs) : Prop := PGs X ts g ∧ SndWs X Δ vs g dg
theorem pdgw_name {vs : List Nat} {i : Nat} {tg : Expr} (h : PG X tg (gName i)) (hi : i ∈ vs) : PDgw X Δ vs tg (gName i) (gdName i) := ⟨h, fun I M H σ env G v d r Q Qd k q => k _ _ _ _ _ (Ext.refl I) (G.set r) (wipe_set hi) q⟩
theorem pdgws_nil {vs : List Nat} : PDgws X Δ vs [] gNil gdNil := ⟨pgs_nil, fun I M H σ env G v d r Q Qd k ⟨e, q⟩ => by
  subst e
  exact ⟨r.nil_inv, k _ _ _ _ _ (Ext.refl I) G rfl q⟩⟩
theorem pdgws_cons {vs : List Nat} {e : Expr} {es : List Expr} {t : DG} {u : DGs} (h1 : PDgw X Δ vs e g1 t) (h2 : PDgws X Δ vs es g2 u)
    (hs : (assignEach (e :: es) X.env).map (·.2) = assign e X.env :: (assignEach es X.env).map (·.2) := by rfl) : PDgws X Δ vs (e :: es) (gCons g1 g2) (gdCons t u) := by
  obtain ⟨p1, s1⟩ := h1
  obtain ⟨p2, s2⟩ := h2
  refine ⟨pgs_cons p1 p2 hs, fun I M H σ env G vs ds r Q Qd k ⟨d, dr, e, q⟩ => ?_⟩
  subst e
  obtain ⟨v, vr, rfl, rv, rr⟩ := r.cons_inv
  exact ⟨v, vr, rfl, s1 I M H σ env G v d rv _ _ (fun env' M' I' H' σ' x G' w' q' => s2 I' M' H' σ' env' G' vr dr (rr.ext x) Q Qd (fun e2 M2 I2 H2 σ2 x2 G2 w2 => k e2 M2 I2 H2 σ2 (x.trans x2) G2 (w2.trans w')) q') q⟩
theorem pdgw_tup {vs : List Nat} {es : List Expr} {k : Nat} {t : DGs} {n : Nat} (hc : X.calm = true) (h : PDgws X Δ vs es g2 t)
    (hn : (assignEach es X.env).length = n := by rfl) (hst : (assignEach es X.env).findIdx? (·.1) = none := by rfl) : PDgw X Δ vs (.Tuple es k pos) (gTup X.K n g2) (gdTup n t) := by
  obtain ⟨p, s⟩ := h
  refine ⟨pg_tup hc p hn hst, fun I M H σ env G v d r Q Qd k ⟨xs, e, hl, q⟩ => ?_⟩
  have r' := r.nrm
  rw [e] at r'
  obtain ⟨a, vs, rfl, h1, h2⟩ := r'.tup_inv
  exact ⟨a, vs, rfl, G.at_.sqT h1, by rw [h2.length]; exact hl, s I M H σ env G vs xs h2 Q Qd k q⟩
def PDts (X : Cx) (Δ : DC) (ifs : List Expr) (t : TT) (dt : DT) : Prop := PTs X ifs t ∧ SndT X Δ t dt
def dYes : DT := fun _ M Q => Q true M
theorem pdts_nil : PDts X Δ [] tYes dYes := ⟨pts_nil, fun I M H σ env G Q Qd k q => k _ _ _ _ (Ext.refl I) G q⟩
theorem pdts_one (h : PDt X Δ c t1 dt) : PDts X Δ [c] t1 dt := ⟨pts_one h.1, h.2⟩
def dLc (di : DI) (dg : DG) (dt : DT) (de : DE) (vs : List Nat) : DE := fun env M Q => di env M fun xs keep M1 => xs.length ≤ sizeLine ∧ ∃ P : Nat → List D → Mem → Prop, P 0 [] M1 ∧ (∀ i acc M, P i acc M → keep M) ∧
  (∀ i d acc M, xs[i]? = some d → P i acc M → dg d (wipeD env vs) M fun env2 M2 => dt env2 M2 fun b M3 => if b = true then de env2 M3 fun y M4 => P (i + 1) (acc ++ [y]) M4 else P (i + 1) acc M3) ∧ ∀ acc M, P xs.length acc M → Q (.lst acc) M
theorem At.writeFx {K : PySem.W.Frag} {F I H : Hp} {M : Mem} (A : At K F I M H) {p : Addr} {o o' : HO} (hp : F p = some o) (ho : (∃ xs, o' = .lst xs) ∨ ∃ f, o' = .ext f) : At K (upd F p o') I M (upd H p o') where
  nt := fun b xs e => by
    by_cases hb : b = p
    · subst hb; rw [upd_same] at e; exact Option.some.inj e ▸ ho
    · rw [upd_ne hb] at e; exact A.nt _ _ e
  ex := fun b u e => by
    have hb : b ≠ p := fun z => by subst z; rw [(A.fr _ _ hp).2.1] at e; cases e
    rw [upd_ne hb]; exact A.ex _ _ e
  mem := fun b u e => by
    have hM := (A.fr _ _ hp).2.2
    have hb : b ≠ p := mem_ne e hM
    refine ⟨(A.mem _ _ e).1, (A.mem _ _ e).2.mono (Ext.refl I) (fun c v hc hv => ?_) (fun c hc => hc)⟩
    rcases hc with rfl | hc
    · rw [upd_ne hb]; exact hv
    · rw [upd_ne (mem_ne hc hM)]; exact hv
  fr := fun b u e => by
    by_cases hb : b = p
    · subst hb; rw [upd_same] at e; cases e; exact ⟨upd_same, (A.fr _ _ hp).2.1, (A.fr _ _ hp).2.2⟩
    · rw [upd_ne hb] at e ⊢; exact A.fr _ _ e
theorem At.newFx {K : PySem.W.Frag} {F I H : Hp} {M : Mem} (A : At K F I M H) {p : Addr} (h : H p = none) (o : HO) (ho : (∃ xs, o = .lst xs) ∨ ∃ f, o = .ext f) : At K (upd F p o) I M (upd H p o) where
  nt := fun b xs e => by
    by_cases hb : b = p
    · subst hb; rw [upd_same] at e; exact Option.some.inj e ▸ ho
    · rw [upd_ne hb] at e; exact A.nt _ _ e
  ex := fun b u e => by rw [upd_ne (ne_of_none (A.ex _ _ e) h)]; exact A.ex _ _ e
  mem := fun b u e => by
    refine ⟨(A.mem _ _ e).1, (A.mem _ _ e).2.mono (Ext.refl I) (fun c v _ hc => ?_) (fun c hc => hc)⟩
    rw [upd_ne (ne_of_none hc h)]; exact hc
  fr := fun b u e => by
    by_cases hb : b = p
    · subst hb; rw [upd_same] at e; cases e; exact ⟨upd_same, A.freeI h, A.freeM h⟩
    · rw [upd_ne hb] at e ⊢; exact A.fr _ _ e
theorem At.writeF {K : PySem.W.Frag} {F I H : Hp} {M : Mem} (A : At K F I M H) {p : Addr} {o o' : HO} (hp : F p = some o) (ho : ∃ xs, o' = .lst xs) : At K (upd F p o') I M (upd H p o') := A.writeFx hp (.inl ho)
theorem At.newF {K : PySem.W.Frag} {F I H : Hp} {M : Mem} (A : At K F I M H) {p : Addr} (h : H p = none) (o : HO) (ho : ∃ xs, o = .lst xs) : At K (upd F p o) I M (upd H p o) := A.newFx h o (.inl ho)
theorem At.fixF {K : PySem.W.Frag} {F F0 I H : Hp} {M : Mem} (A : At K F I M H) {p : Addr} {o : HO} (hp : F p = some o) (hF : ∀ b u, F0 b = some u → b ≠ p ∧ F b = some u) : At K F0 (upd I p o) M H ∧ Ext I (upd I p o) := by
  obtain ⟨h1, h2, h3⟩ := A.fr _ _ hp
  have x : Ext I (upd I p o) := Ext.new h2
  refine ⟨⟨fun b u e => ?_, fun b u e => ?_, fun b u e => ?_, fun b xs e => A.nt b xs (hF _ _ e).2⟩, x⟩
  · by_cases hb : b = p
    · subst hb; rw [upd_same] at e; cases e; exact h1
    · rw [upd_ne hb] at e; exact A.ex _ _ e
  · have hb : b ≠ p := mem_ne e h3
    exact ⟨by rw [upd_ne hb]; exact (A.mem _ _ e).1, (A.mem _ _ e).2.mono x (fun c v _ hv => hv) (fun c hc => hc)⟩
  · obtain ⟨hb, e⟩ := hF b u e
    obtain ⟨q1, q2, q3⟩ := A.fr _ _ e
    exact ⟨q1, by rw [upd_ne hb]; exact q2, q3⟩
theorem snd_lc {vs : List Nat} (si : SndI X Δ wi di) (sg : ∀ F, SndW X (Δ.blk F) vs g dg) (st : ∀ F, SndT X (Δ.blk F) t1 dt) (se : ∀ F, SndE X (Δ.blk F) te de) : SndE X Δ (tLc wi g t1 te vs) (dLc di dg dt de vs) := fun I M H σ env G Q Qd k q =>
  si I M H σ env G _ _ (fun xs keep M1 J I1 H1 x1 G1 ok ⟨hz, P, p0, pk, ps, pd⟩ => by
    intro D hD
    have A1 := G1.at_.newF hD (.lst []) ⟨_, rfl⟩
    have F0 : ∀ (o : HO) b u, Δ.F b = some u → b ≠ D ∧ (upd Δ.F D o) b = some u := fun o b u e => by
      have hb : b ≠ D := ne_of_none (G1.at_.fr _ _ e).1 hD
      exact ⟨hb, by rw [upd_ne hb]; exact e⟩
    refine ⟨fun i m H => m = xs.length - i ∧ i ≤ xs.length ∧ ∃ I M acc us, Ext I1 I ∧ Gd X.K (Δ.blk (upd Δ.F D (.lst us))) I M H (L2.wipe σ vs) (wipeD env vs) ∧ Rps X.K I us acc ∧ acc.length ≤ i ∧ P i acc M,
      ⟨xs.length, by simp, Nat.zero_le _, I1, M1, [], [], Ext.refl _, ⟨G1.base, A1, G1.env.wipe vs⟩, .nil, Nat.le_refl _, p0⟩, ?_⟩
    rintro i m H2 ⟨rfl, hi, I2, M2, acc, us, x2, G2, r2, ha, p2⟩
    have hk := pk i acc M2 p2
    by_cases hlt : i < xs.length
    · refine .inr ⟨ok.go _ i I2 M2 H2 x2 G2.at_ hk hlt, fun H => ∃ I M acc us, Ext I1 I ∧ Gd X.K (Δ.blk (upd Δ.F D (.lst us))) I M H (L2.wipe σ vs) (wipeD env vs) ∧ Rps X.K I us acc ∧ acc.length ≤ i + 1 ∧ P (i + 1) acc M, fun H' w => ⟨xs.length - (i + 1), by omega, rfl, hlt, w⟩, fun x H' y => ?_⟩
      have hd : xs[i]? = some xs[i] := by simp [hlt]
      obtain ⟨I3, x3, A3, r3⟩ := ok.yld _ i xs[i] x I2 M2 H2 H' x2 G2.at_ hk hd y
      have G3 := G2.go x3 A3
      refine sg _ I3 M2 H' _ _ G3 x xs[i] r3 _ _ (fun env4 M4 I4 H4 σ4 x4 G4 w4 q4 => ⟨w4.trans wipe_idem, ?_⟩) (ps i xs[i] acc M2 hd p2)
      refine st _ I4 M4 H4 σ4 env4 G4 _ _ (fun b M5 I5 H5 x5 G5 q5 => ?_) q4
      have back : ∀ {I6 M6 H6 F6}, Gd X.K (Δ.blk F6) I6 M6 H6 σ4 env4 → Ext I2 I6 → Gd X.K (Δ.blk F6) I6 M6 H6 (L2.wipe σ vs) (wipeD env vs) := fun {I6 M6 H6 F6} G6 x6 => ⟨G6.base, G6.at_, G2.env.ext x6⟩
      cases b with
      | true =>
        rw [if_pos rfl] at q5 ⊢
        refine se _ I5 M5 H5 σ4 env4 G5 _ _ (fun y M6 I6 H6 u x6 G6 r6 q6 => ?_) q5
        have hFD : (upd Δ.F D (.lst us)) D = some (.lst us) := upd_same
        obtain ⟨hD1, hD2, hD3⟩ := G6.at_.fr _ _ hFD
        refine ⟨us, hD1, by rw [r2.length]; omega, I6, M6, acc ++ [y], us ++ [u], (((x2.trans x3).trans x4).trans x5).trans x6, ?_, (r2.ext (((x3.trans x4).trans x5).trans x6)).append (.cons r6 .nil), by simp; omega, q6⟩
        have A6 := G6.at_.writeF (o' := .lst (us ++ [u])) hFD ⟨_, rfl⟩
        have e : upd (upd Δ.F D (.lst us)) D (.lst (us ++ [u])) = upd Δ.F D (.lst (us ++ [u])) := upd_upd
        rw [e] at A6
        exact ⟨G6.base, A6, G2.env.ext (((x3.trans x4).trans x5).trans x6)⟩
      | false =>
        rw [if_neg Bool.false_ne_true] at q5 ⊢
        exact ⟨I5, M5, acc, us, ((x2.trans x3).trans x4).trans x5, back G5 ((x3.trans x4).trans x5), r2.ext ((x3.trans x4).trans x5), by omega, q5⟩
    · have e : i = xs.length := by omega
      subst e
      refine .inl ⟨ok.stop _ I2 M2 H2 x2 G2.at_ hk, ?_⟩
      obtain ⟨A7, x7⟩ := G2.at_.fixF (F0 := Δ.F) (p := D) upd_same (F0 _)
      exact k _ _ _ _ _ ((x1.trans x2).trans x7) ⟨G1.base.trans (x2.trans x7), A7, G1.env.ext (x2.trans x7)⟩ (.lst upd_same (r2.ext x7)) (pd acc M2 p2)) q
theorem pd_lc {elt tg iter : Expr} {ifs : List Expr} {scope : Scope} {own : List (Str × Nat)} {pos : Pos} (hc : X.calm = true) (hN : X.N.Nodup) (hi : PDi X Δ tg iter wi di) (ok : BlkOk X.N X.env.scope scope own)
    (hg : ∀ (s : Shared) (H : Hp) (C : Addr) (cl : List (Str × Addr)) (fp : List Addr) (F : Hp), PDgw (X.blk s H scope (compEnvC scope cl C X.env) fp) (Δ.blk F) (own.map (·.2)) tg g dg) (ht : ∀ (s : Shared) (H : Hp) (C : Addr) (cl : List (Str × Addr)) (fp : List Addr) (F : Hp), PDts (X.blk s H scope (compEnvC scope cl C X.env) fp) (Δ.blk F) ifs t1 dt)
    (he : ∀ (s : Shared) (H : Hp) (C : Addr) (cl : List (Str × Addr)) (fp : List Addr) (F : Hp), PDe (X.blk s H scope (compEnvC scope cl C X.env) fp) (Δ.blk F) elt te de) (hs : ∀ x, foldedSetIterable iter X.env x = pure x := by intro _; rfl) :
    PDe X Δ (.ListComp elt [⟨tg, iter, ifs, 0⟩] scope pos) (tLc wi g t1 te (own.map (·.2))) (dLc di dg dt de (own.map (·.2))) :=
  ⟨pe_lc hc hN hi.1 ok (fun s H C cl fp => (hg s H C cl fp Δ.F).1) (fun s H C cl fp => (ht s H C cl fp Δ.F).1) (fun s H C cl fp => (he s H C cl fp Δ.F).1) hs,
    snd_lc hi.2 (fun F => (hg X.s_0 X.H_0 0 [] [] F).2) (fun F => (ht X.s_0 X.H_0 0 [] [] F).2) (fun F => (he X.s_0 X.H_0 0 [] [] F).2)⟩
abbrev RDC := List D → Mem → DKt → Prop
def SndC (X : Cx) (r : List V → Hp → VK → Prop) (rd : RDC) : Prop := ∀ (Δ : DC) I M H σ env, Gd X.K Δ I M H σ env → ∀ vs ds, Rps X.K I vs ds → ∀ (Q : VK) (Qd : DKt),
  (∀ d M' I' H' v, Ext I I' → Gd X.K Δ I' M' H' σ env → Rp X.K I' v d → Qd d M' → Q v H') → rd ds M Qd → r vs H Q
def dCB (rd : RDC) (dl : DA) : DE := fun env M Q => dl env M fun ds M1 => rd ds M1 Q
theorem snd_cb {r : List V → Hp → VK → Prop} {rd : RDC} (hr : SndC X r rd) (sl : SndA X Δ tl dl) : SndE X Δ (tCB r tl) (dCB rd dl) := fun I M H σ env G Q Qd k q =>
  sl I M H σ env G _ _ (fun ds M1 I1 H1 vs x1 G1 r1 q1 => hr Δ I1 M1 H1 σ env G1 vs ds r1 Q Qd (fun d M' I' H' v x => k d M' I' H' v (x1.trans x)) q1) q
theorem pd_callB {es : List Expr} {id : String} {x : Str} {p : Pos} {r : List V → Hp → VK → Prop} {rd : RDC} (hc : CallR X (.builtin id) r) (hr : SndC X r rd) (hg : Gl X x) (hm : X.mg x = none) (hv : bootBuiltins x = some (.builtin id)) (ha : PDa X Δ (e :: es) tl dl) (hn : x ≠ "__name__" := by decide) (hdb : (x == ("__debug__" : Str)) = false := by decide)
    (he : starEach (e :: es) X.env = (false, eval e X.env) :: starEach es X.env := by rfl) (hpl : (backTo pos (starEach es X.env)).any (·.1) = false := by rfl) : PDe X Δ (.Call (.Name x p) (e :: es) [] pos) (tCB r tl) (dCB rd dl) :=
  ⟨pe_callB hc hg hm hv ha.1 hn hdb he hpl, snd_cb hr ha.2⟩
theorem pd_callTy {es : List Expr} {T : String} {x : Str} {p : Pos} {r : List V → Hp → VK → Prop} {rd : RDC} (hc : CallR X (.type T) r) (hr : SndC X r rd) (hg : Gl X x) (hm : X.mg x = none) (hv : bootBuiltins x = some (.type T)) (ha : PDa X Δ (e :: es) tl dl) (hn : x ≠ "__name__" := by decide) (hdb : (x == ("__debug__" : Str)) = false := by decide)
    (he : starEach (e :: es) X.env = (false, eval e X.env) :: starEach es X.env := by rfl) (hpl : (backTo pos (starEach es X.env)).any (·.1) = false := by rfl) : PDe X Δ (.Call (.Name x p) (e :: es) [] pos) (tCB r tl) (dCB rd dl) :=
  ⟨pe_callTy hc hg hm hv ha.1 hn hdb he hpl, snd_cb hr ha.2⟩
def rd1 (f : Mem → D → Option D) : RDC := fun ds M Q => ∃ x, ds = [x] ∧ ∃ d, f M x = some d ∧ Q d M
def lenD (M : Mem) : D → Option D
  | .str z => if z.length ≤ sizeLine then some (.int z.length) else none
  | x => (seqOf M x).map fun xs => .int xs.length
abbrev rLenA (K : PySem.W.Frag) : List V → Hp → VK → Prop := fun xs H Q => (∃ p ys, xs = [.ref p] ∧ (SqL K H p ys ∨ SqT K H p ys) ∧ Q (.int ys.length) H) ∨ ∃ z, xs = [.str z] ∧ z.length ≤ sizeLine ∧ Q (.int z.length) H
theorem call_lenA : CallR X (.builtin "len") (rLenA X.K) := CallR.or call_len_seq call_len_str
theorem snd_len : SndC X (rLenA X.K) (rd1 lenD) := by
  intro Δ I M H σ env G vs ds r Q Qd k ⟨x, e, d, e2, q⟩
  subst e
  obtain ⟨v, rfl, rv⟩ := r.one_inv
  unfold lenD at e2
  split at e2
  · rename_i z
    by_cases h : z.length ≤ sizeLine
    · rw [if_pos h] at e2; cases e2; rw [rv.str_inv]; exact .inr ⟨z, rfl, h, k _ _ _ _ _ (Ext.refl I) G (.int _) q⟩
    · rw [if_neg h] at e2; cases e2
  · cases e3 : seqOf M x with
    | none => rw [e3] at e2; cases e2
    | some xs =>
      rw [e3] at e2
      cases e2
      obtain ⟨a, us, rfl, h1, h2⟩ := seq_of G.at_ rv e3
      exact .inl ⟨a, us, rfl, h1, k _ _ _ _ _ (Ext.refl I) G (by rw [h2.length]; exact .int _) q⟩
def absD (M : Mem) : D → Option D
  | .int i => some (.int (if i < 0 then -i else i)) | _ => none
theorem snd_abs : SndC X (fun xs H Q => ∃ i, xs = [.int i] ∧ Q (.int (if i < 0 then -i else i)) H) (rd1 absD) := by
  intro Δ I M H σ env G vs ds r Q Qd k ⟨x, e, d, e2, q⟩
  subst e
  obtain ⟨v, rfl, rv⟩ := r.one_inv
  unfold absD at e2
  split at e2
  · cases e2; rw [rv.int_inv]; exact ⟨_, rfl, k _ _ _ _ _ (Ext.refl I) G (.int _) q⟩
  · cases e2
def tupD (M : Mem) (x : D) : Option D := (seqOf M x).map .tup
def listD (M : Mem) (x : D) : Option D := (seqOf M x).map .lst
theorem snd_tup : SndC X (fun xs H Q => ∃ p ys, xs = [.ref p] ∧ ((SqL X.K H p ys ∧ ∀ l, H l = none → Q (.ref l) (upd H l (.tup ys))) ∨ (SqT X.K H p ys ∧ Q (.ref p) H))) (rd1 tupD) := by
  intro Δ I M H σ env G vs ds r Q Qd k ⟨x, e, d, e2, q⟩
  subst e
  obtain ⟨v, rfl, rv⟩ := r.one_inv
  unfold tupD at e2
  have lists : ∀ {xs}, lstOf M x = some xs → d = .tup xs → _ := fun {xs} (h : lstOf M x = some xs) (ed : d = .tup xs) => show (∃ p ys, [v] = [V.ref p] ∧ ((SqL X.K H p ys ∧ ∀ l, H l = none → Q (.ref l) (upd H l (.tup ys))) ∨ (SqT X.K H p ys ∧ Q (.ref p) H))) from by
    obtain ⟨a, us, rfl, h1, h2⟩ := lst_of G.at_ rv h
    subst ed
    refine ⟨a, us, rfl, .inl ⟨.inl (.inl h1), fun l hl => ?_⟩⟩
    obtain ⟨x2, G2⟩ := G.newI hl (.tup us)
    exact k _ _ _ _ _ x2 G2 (.tup (.inl (.inl upd_same)) (h2.ext x2)) q
  cases x with
  | tup xs =>
    cases e2
    obtain ⟨a, us, rfl, h1, h2⟩ := rv.tup_inv
    exact ⟨a, us, rfl, .inr ⟨G.at_.sqT h1, k _ _ _ _ _ (Ext.refl I) G (.tup h1 h2) q⟩⟩
  | frz xs =>
    cases e2
    obtain ⟨a, us, rfl, h1, h2⟩ := rv.frz_inv
    refine ⟨a, us, rfl, .inl ⟨G.at_.sqL h1, fun l hl => ?_⟩⟩
    obtain ⟨x2, G2⟩ := G.newI hl (.tup us)
    exact k _ _ _ _ _ x2 G2 (.tup (.inl (.inl upd_same)) (h2.ext x2)) q
  | lst xs => cases e2; exact lists rfl rfl
  | ref p =>
    cases e3 : seqOf M (.ref p) with
    | none => rw [e3] at e2; cases e2
    | some xs => rw [e3] at e2; cases e2; exact lists (xs := xs) e3 rfl
  | _ => cases e2
theorem snd_list : SndC X (fun xs H Q => ∃ p ys, xs = [.ref p] ∧ (SqL X.K H p ys ∨ SqT X.K H p ys) ∧ ∀ l, H l = none → Q (.ref l) (upd H l (.lst ys))) (rd1 listD) := by
  intro Δ I M H σ env G vs ds r Q Qd k ⟨x, e, d, e2, q⟩
  subst e
  obtain ⟨v, rfl, rv⟩ := r.one_inv
  unfold listD at e2
  cases e3 : seqOf M x with
  | none => rw [e3] at e2; cases e2
  | some xs =>
    rw [e3] at e2
    cases e2
    obtain ⟨a, us, rfl, h1, h2⟩ := seq_of G.at_ rv e3
    refine ⟨a, us, rfl, h1, fun l hl => ?_⟩
    obtain ⟨x2, G2⟩ := G.newI hl (.lst us)
    exact k _ _ _ _ _ x2 G2 (.lst upd_same (h2.ext x2)) q
def rdMin : RDC := fun ds M Q => ∃ i j, ds = [.int i, .int j] ∧ Q (.int (if j < i then j else i)) M
theorem snd_min : SndC X (fun xs H Q => ∃ i j, xs = [.int i, .int j] ∧ Q (.int (if j < i then j else i)) H) rdMin := by
  intro Δ I M H σ env G vs ds r Q Qd k ⟨i, j, e, q⟩
  subst e
  obtain ⟨v, u, rfl, rv, ru⟩ := r.two_inv
  rw [rv.int_inv, ru.int_inv]
  exact ⟨i, j, rfl, k _ _ _ _ _ (Ext.refl I) G (.int _) q⟩
theorem Rps.bls {K : PySem.W.Frag} {I : Hp} : ∀ {bs : List Bool} {vs : List V}, Rps K I vs (bs.map D.bl) → vs = bs.map V.bl
  | [], _, r => r.nil_inv
  | b :: bs, _, r => by
    obtain ⟨v, vr, rfl, a, t⟩ := Rps.cons_inv (show Rps K I _ (.bl b :: bs.map D.bl) from r)
    rw [a.bl_inv, Rps.bls t]
    rfl
theorem Rps.strs {K : PySem.W.Frag} {I : Hp} : ∀ {bs : List Str} {vs : List V}, Rps K I vs (bs.map D.str) → vs = bs.map V.str
  | [], _, r => r.nil_inv
  | b :: bs, _, r => by
    obtain ⟨v, vr, rfl, a, t⟩ := Rps.cons_inv (show Rps K I _ (.str b :: bs.map D.str) from r)
    rw [a.str_inv, Rps.strs t]
    rfl
theorem Rps.ofStrs {K : PySem.W.Frag} {I : Hp} : ∀ (bs : List Str), Rps K I (bs.map V.str) (bs.map D.str)
  | [] => .nil
  | b :: bs => .cons (.str b) (Rps.ofStrs bs)
theorem Rps.ints {K : PySem.W.Frag} {I : Hp} : ∀ {bs : List Int} {vs : List V}, Rps K I vs (bs.map D.int) → vs = bs.map V.int
  | [], _, r => r.nil_inv
  | b :: bs, _, r => by
    obtain ⟨v, vr, rfl, a, t⟩ := Rps.cons_inv (show Rps K I _ (.int b :: bs.map D.int) from r)
    rw [a.int_inv, Rps.ints t]
    rfl
theorem Rps.ofInts {K : PySem.W.Frag} {I : Hp} : ∀ (bs : List Int), Rps K I (bs.map V.int) (bs.map D.int)
  | [] => .nil
  | b :: bs => .cons (.int b) (Rps.ofInts bs)
def rdAll : RDC := fun ds M Q => ∃ x, ds = [x] ∧ ∃ bs : List Bool, lstOf M x = some (bs.map D.bl) ∧ Q (.bl (bs.all id)) M
theorem snd_all : SndC X (rAll X.K) rdAll := by
  intro Δ I M H σ env G vs ds r Q Qd k ⟨x, e, bs, e2, q⟩
  subst e
  obtain ⟨v, rfl, rv⟩ := r.one_inv
  obtain ⟨a, us, rfl, h1, h2⟩ := lst_of G.at_ rv e2
  have e := h2.bls
  subst e
  exact ⟨a, bs, rfl, .inl (.inl h1), k _ _ _ _ _ (Ext.refl I) G (.bl _) q⟩
def rdSortS : RDC := fun ds M Q => ∃ x, ds = [x] ∧ ∃ xs : List Str, lstOf M x = some (xs.map D.str) ∧ xs.length < 64 ∧ ∀ ys : List Str, ys.Perm xs → sortedS ys = true → Q (.lst (ys.map D.str)) M
theorem snd_sortS : SndC X (rSortedS X.K) rdSortS := by
  intro Δ I M H σ env G vs ds r Q Qd k ⟨x, e, xs, e2, h64, q⟩
  subst e
  obtain ⟨v, rfl, rv⟩ := r.one_inv
  obtain ⟨a, us, rfl, h1, h2⟩ := lst_of G.at_ rv e2
  have e := h2.strs
  subst e
  refine ⟨a, xs, rfl, .inl (.inl h1), h64, fun ys p hp hs hn => ?_⟩
  obtain ⟨x2, G2⟩ := G.newI hn (.lst (ys.map V.str))
  exact k _ _ _ _ _ x2 G2 (.lst upd_same (Rps.ofStrs ys)) (q ys hp hs)
end
end BB
set_option maxHeartbeats 2000000
namespace BB
open L2 PySem PySem.Spec PyProof.Rows
theorem RpF.swap {K : PySem.W.Frag} {J : Hp} {n : Str} {d d' : D} (h : ∀ v, Rp K J v d → Rp K J v d') : ∀ {xs ys : List (Str × D)} {fvs : List (Str × V)}, RpF K J fvs (xs ++ (n, d) :: ys) → RpF K J fvs (xs ++ (n, d') :: ys)
  | [], _, _, .cons a b => .cons (h _ a) b
  | _ :: _, _, _, .cons a b => .cons a (RpF.swap h b)
theorem At.fixFld {K : PySem.W.Frag} {F I H : Hp} {M : Mem} {p C dd : Addr} {n : Str} {xs ys : List (Str × D)} {kvs : List (List Key × D)} (A : At K F I M H) (hp : M p = some (.ins C (xs ++ (n, .ref dd) :: ys))) (hd : M dd = some (.dT kvs)) :
    ∃ J, Ext I J ∧ At K F J (mset (mdel M dd) p (.ins C (xs ++ (n, .dT kvs) :: ys))) H := by
  obtain ⟨J, x, B, r⟩ := A.fixT hd
  have ne : p ≠ dd := fun z => by rw [z, hd] at hp; cases hp
  have hp2 : (mdel M dd) p = some (.ins C (xs ++ (n, .ref dd) :: ys)) := by rw [mdel_ne ne]; exact hp
  obtain ⟨hJ, dx, fvs, h1, h2, h3, h4⟩ := B.mem _ _ hp2
  have hu : ∀ {H : Hp} {u : HO}, H p = some u → upd H p u = H := fun {H u} e => by
    funext b
    by_cases hb : b = p
    · rw [hb, upd_same, e]
    · rw [upd_ne hb]
  have hdx : dx ≠ p := fun z => by rw [z, hp2] at h3; cases h3
  have W := B.write (m' := .ins C (xs ++ (n, .dT kvs) :: ys)) (o := .ins C dx fvs) hp2 (fun _ z => by cases z) ⟨dx, fvs, upd_same, by rw [upd_ne hdx]; exact h2, by rw [mset_ne hdx]; exact h3, RpF.swap (fun v hv => by rw [hv.ref_inv]; exact r) h4⟩
  rw [hu h1] at W
  exact ⟨J, x, W⟩
inductive FzV (Q : DKt) : D → Mem → Prop
  | done {d M} : Q d M → FzV Q d M
  | drop {d M} (p : Addr) {m : MO} : M p = some m → Loose m = true → FzV Q d (mdel M p) → FzV Q d M
  | dropI {d M} (p : Addr) {C fs} : M p = some (.ins C fs) → (∀ dx, M dx = some (.own p) → FzV Q d (mdel (mdel M p) dx)) → FzV Q d M
  | fixL {p M xs} : M p = some (.lst xs) → FzV Q (.lst xs) (mdel M p) → FzV Q (.ref p) M
  | fixK {p M xs} : M p = some (.dK xs) → FzV Q (.dK xs) (mdel M p) → FzV Q (.ref p) M
  | fixT {p M xs} : M p = some (.dT xs) → FzV Q (.dT xs) (mdel M p) → FzV Q (.ref p) M
  | fixI {p M C fs} : M p = some (.ins C fs) → (∀ dx, M dx = some (.own p) → FzV Q (.ins C fs) (mdel (mdel M p) dx)) → FzV Q (.ref p) M
  | fixF {d M} (p dd : Addr) {C n xs ys kvs} : M p = some (.ins C (xs ++ (n, .ref dd) :: ys)) → M dd = some (.dT kvs) → FzV Q d (mset (mdel M dd) p (.ins C (xs ++ (n, .dT kvs) :: ys))) → FzV Q d M
  | fixLs {p : Addr} {M : Mem} {xs ys zs : List D} : M p = some (.lst zs) → FzV Q (.lst (xs ++ .lst zs :: ys)) (mdel M p) → FzV Q (.lst (xs ++ .ref p :: ys)) M
theorem Rps.swapR {K : PySem.W.Frag} {I : Hp} {p : Addr} {d : D} {ys : List D} (rd : Rp K I (.ref p) d) : ∀ {xs : List D} {vs : List V}, Rps K I vs (xs ++ .ref p :: ys) → Rps K I vs (xs ++ d :: ys)
  | [], _, r => by
    obtain ⟨v, vs, rfl, rv, rr⟩ := r.cons_inv
    rw [rv.ref_inv]
    exact .cons rd rr
  | x :: xs, _, r => by
    obtain ⟨v, vs, rfl, rv, rr⟩ := r.cons_inv
    exact .cons rv (Rps.swapR rd (xs := xs) rr)
theorem fzv {K : PySem.W.Frag} {F H : Hp} {v : V} {Q : DKt} {d : D} {M : Mem} (h : FzV Q d M) : ∀ {I : Hp}, At K F I M H → Rp K I v d → ∃ I' M' d', Ext I I' ∧ At K F I' M' H ∧ Rp K I' v d' ∧ Q d' M' := by
  induction h with
  | done q => exact fun {I} A r => ⟨I, _, _, Ext.refl I, A, r, q⟩
  | drop p hp hm _ ih => exact fun {I} A r => ih (A.drop hp hm) r
  | dropI p hp _ ih =>
    intro I A r
    obtain ⟨dx, hd, A'⟩ := A.dropI hp
    exact ih dx hd A' r
  | fixL hp _ ih =>
    intro I A r
    obtain ⟨J, x, A', r'⟩ := A.fixL hp
    have e := r.ref_inv
    subst e
    obtain ⟨I', M', d', x', q⟩ := ih A' r'
    exact ⟨I', M', d', x.trans x', q⟩
  | fixK hp _ ih =>
    intro I A r
    obtain ⟨J, x, A', r'⟩ := A.fixK hp
    have e := r.ref_inv
    subst e
    obtain ⟨I', M', d', x', q⟩ := ih A' r'
    exact ⟨I', M', d', x.trans x', q⟩
  | fixT hp _ ih =>
    intro I A r
    obtain ⟨J, x, A', r'⟩ := A.fixT hp
    have e := r.ref_inv
    subst e
    obtain ⟨I', M', d', x', q⟩ := ih A' r'
    exact ⟨I', M', d', x.trans x', q⟩
  | fixI hp _ ih =>
    intro I A r
    obtain ⟨dx, J, hd, x, A', r'⟩ := A.fixI hp
    have e := r.ref_inv
    subst e
    obtain ⟨I', M', d', x', q⟩ := ih dx hd A' r'
    exact ⟨I', M', d', x.trans x', q⟩
  | fixF p dd hp hd _ ih =>
    intro I A r
    obtain ⟨J, x, A'⟩ := A.fixFld hp hd
    obtain ⟨I', M', d', x', q⟩ := ih A' (r.ext x)
    exact ⟨I', M', d', x.trans x', q⟩
  | fixLs hp _ ih =>
    intro I A r
    obtain ⟨J, x, A', r'⟩ := A.fixL hp
    obtain ⟨a, vs, rfl, h1, h2⟩ := r.lst_inv
    obtain ⟨I', M', d', x', q⟩ := ih A' (.lst (x.lst h1) (Rps.swapR r' (h2.ext x)))
    exact ⟨I', M', d', x.trans x', q⟩
abbrev SpD := List D → Mem → DKt → DX → Prop
def liftSp (K : PySem.W.Frag) (sp : SpD) : Sp := fun vs H Q E => ∃ F I M ds Qd Ed, At K F I M H ∧ Rps K I vs ds ∧ sp ds M Qd Ed ∧
  (∀ d M' I' H' v, Ext I I' → At K F I' M' H' → Rp K I' v d → Qd d M' → Q v H') ∧ ∀ c fs M' I' H' dd, Ext I I' → At K F I' M' H' → ExcR K I' fs dd → Ed c fs M' → E c dd H'
section
variable {X : Cx} {Δ : DC} {e a b c o : Expr} {de da db dc : DE} {dt du : DT} {pos p apos : Pos} {es : List Expr}
variable {ta tb tc te to ti : TE} {t1 t2 : TT} {tl : TA} {dl : DA}
variable {k : Nat} {f C : Addr} {fd : FuncData} {ps : List Str} {sp : SpD} {ds : List Value} {dvs : List V} {dds : List D} {x m : Str}
theorem lift_at (xo : XOk X Δ) {I M H σ env} (G : Gd X.K Δ I M H σ env) {vs : List V} {us : List D} (r : Rps X.K I vs us) {Q : VK} {Qd : DKt} (h : sp us M Qd (fun c fs M' => Δ.Wd c fs env M'))
    (k : ∀ d M' I' H' v, Ext I I' → Gd X.K Δ I' M' H' σ env → Rp X.K I' v d → Qd d M' → Q v H') : liftSp X.K sp vs H Q (WE Δ.W σ) :=
  ⟨Δ.F, I, M, us, Qd, _, G.at_, r, h, fun d M' I' H' v x A r' q => k d M' I' H' v x (G.go x A) r' q, fun c fs M' I' H' dd x A er w => xo.link (G.go x A) er w⟩
def dCall (Wd : DW) (sp : SpD) (dds : List D) (dl : DA) : DE := fun env M Q => dl env M fun us M1 => sp (us ++ dds) M1 Q fun c fs M' => Wd c fs env M'
theorem snd_call (xo : XOk X Δ) (hdd : ∀ I, Rps X.K I dvs dds) (sl : SndA X Δ tl dl) : SndE X Δ (tCallSD (liftSp X.K sp) dvs (WE Δ.W) tl) (dCall Δ.Wd sp dds dl) := fun I M H σ env G Q Qd k q =>
  sl I M H σ env G _ _ (fun us M1 I1 H1 vs x1 G1 r1 q1 => lift_at xo G1 (r1.append (hdd I1)) q1 fun d M' I' H' v x => k d M' I' H' v (x1.trans x)) q
abbrev Args1 (X : Cx) (pos : Pos) (e : Expr) (es : List Expr) : Prop := (starEach (e :: es) X.env = (false, eval e X.env) :: starEach es X.env) ∧ (backTo pos (starEach es X.env)).any (·.1) = false
abbrev OwnName (x : Str) : Prop := (x == ("__debug__" : Str)) = false
theorem pd_callD (F : FnOk X.prog X.w X.K X.mg X.base (L2.CX X.prog X.w) k f fd ps (liftSp X.K sp)) (hr : Room k X.A) (hg : Gl X x) (hm : X.mg x = some (.ref f)) (hk : PySem.W.keepIn X.K (.ref f) = true) (hb : Binds X.K fd ps ds) (hd : Vals dvs ds) (hdd : ∀ I, Rps X.K I dvs dds) (xo : XOk X Δ)
    (ha : PDa X Δ (e :: es) tl dl) (own : OwnName x := by decide) (read : Args1 X pos e es := by exact ⟨rfl, rfl⟩) : PDe X Δ (.Call (.Name x p) (e :: es) [] pos) (tCallSD (liftSp X.K sp) dvs (WE Δ.W) tl) (dCall Δ.Wd sp dds dl) :=
  ⟨pe_callSD F hr hg hm hk hb hd (passAt xo.takes) ha.1 own read.1 read.2, snd_call xo hdd ha.2⟩
theorem pd_call (F : FnOk X.prog X.w X.K X.mg X.base (L2.CX X.prog X.w) k f fd ps (liftSp X.K sp)) (hr : Room k X.A) (hg : Gl X x) (hm : X.mg x = some (.ref f)) (hk : PySem.W.keepIn X.K (.ref f) = true) (hb : Binds X.K fd ps []) (xo : XOk X Δ)
    (ha : PDa X Δ (e :: es) tl dl) (own : OwnName x := by decide) (read : Args1 X pos e es := by exact ⟨rfl, rfl⟩) : PDe X Δ (.Call (.Name x p) (e :: es) [] pos) (tCallSD (liftSp X.K sp) [] (WE Δ.W) tl) (dCall Δ.Wd sp [] dl) :=
  pd_callD F hr hg hm hk hb .nil (fun _ => .nil) xo ha own read
theorem by_name {v : Value} {args : List Expr} {kws : List Keyword} {t : TE} (hg : Gl X x) (hm : X.mg x = some v) (own : OwnName x)
    (go : ∀ pins s σ H Q, Inv X pins σ H s → t σ H Q → wpAny (model X.prog X.w) X.A (callWith pos v [] (backTo pos (starEach args X.env)) (backToKw pos (keywordEach kws X.env))) (EP X pins σ Q) X.xe s) : PE X (.Call (.Name x p) args kws pos) t :=
  ⟨fun pins s σ H Q I q => wpAny_Call_Name_kw (ld_glob I hg hm (go pins s σ H Q I q) own)⟩
theorem at_end {CX : CXT} {E : XK} {pins : List (Addr × Obj)} {σ : L2.St} {H : Hp} {s : Shared} {Q : VK} {R : Value → Shared → Prop} (hx : PassesAt CX X σ E) (I : Inv X pins σ H s) (back : ∀ u s', EP X pins σ Q u s' → R u s') :
    ∀ r s', CR CX X.stack X.prog X.w H s Q E r s' → (match r with | .ok (.ret u) => R u s' | .ok _ => False | .error e => X.xe e s')
  | .ok (.ret u), s', h => back u s' (I.after h)
  | .error e, s', h => hx pins H s e s' I h
  | .ok .next, _, h => h.elim
  | .ok .brk, _, h => h.elim
  | .ok .cont, _, h => h.elim
def dCallK (Wd : DW) (n m : Nat) (sp : SpD) (gD : List D → List D → List D) (dl dk : DA) : DE := fun env M Q => dl env M fun us M1 => dk env M1 fun zs M2 => us.length = n ∧ zs.length = m ∧ sp (gD us zs) M2 Q fun c fs M' => Wd c fs env M'
def insOf (M : Mem) : D → Option (Addr × List (Str × D))
  | .ins C fs => some (C, fs)
  | .ref p => match M p with | some (.ins C fs) => some (C, fs) | _ => none
  | _ => none
theorem insOf_ref {M : Mem} {p C : Addr} {fs} (h : M p = some (.ins C fs)) : insOf M (.ref p) = some (C, fs) := by simp [insOf, h]
theorem ins_of {K : PySem.W.Frag} {F I H : Hp} {M : Mem} (A : At K F I M H) {v : V} {d : D} {C fs} (r : Rp K I v d) (h : insOf M d = some (C, fs)) : ∃ a dx fvs, v = .ref a ∧ H a = some (.ins C dx fvs) ∧ RpF K I fvs fs := by
  cases d with
  | ins C' fs' => cases h; obtain ⟨a, dx, fvs, rfl, h1, _, h2⟩ := r.ins_inv; exact ⟨a, dx, fvs, rfl, A.ex _ _ h1, h2⟩
  | ref p =>
    have h' : (match M p with | some (.ins C fs) => some (C, fs) | _ => none) = some (C, fs) := h
    split at h'
    · rename_i e
      cases h'
      obtain ⟨_, dx, fvs, h1, _, _, h2⟩ := A.mem _ _ e
      exact ⟨p, dx, fvs, r.ref_inv, h1, h2⟩
    · cases h'
  | _ => cases h
abbrev AsMeth (X : Cx) (o : Expr) (m : Str) (apos pos : Pos) (es : List Expr) (pl : Sem Bool) : Prop := eval (.Call (.Attribute o m apos) es [] pos) X.env =
  (eval o X.env >>= fun v => standAt apos.atName >>= fun _ => holding [v] (getMethod v m pl) >>= fun
    | (g, pre) => callWith pos g pre (backTo pos (starEach es X.env)) (backToKw pos (keywordEach [] X.env)))
def tOfIns (C : Addr) (m : Str) (ta : TE) (go : V → TE) : TE := fun σ H Q => ta σ H fun x H1 => ∃ a dx fs, x = .ref a ∧ H1 a = some (.ins C dx fs) ∧ fs.lookup m = none ∧ go x σ H1 Q
theorem by_ins {pl : Sem Bool} {go : V → TE} (he : PE X o ta) (c : Cls X.K C) (hm : Meth X.K C m f) (read : AsMeth X o m apos pos es pl)
    (on : ∀ pins s σ H Q a, Inv X pins σ H s → go (.ref a) σ H Q → wpAny (model X.prog X.w) X.A (callWith pos (.ref f) [.ref a] (backTo pos (starEach es X.env)) (backToKw pos (keywordEach [] X.env))) (EP X pins σ Q) X.xe s) : PE X (.Call (.Attribute o m apos) es [] pos) (tOfIns C m ta go) :=
  ⟨fun pins s σ H Q I q => PySem.W.methodCall_KW (pl := pl) (thn (he.run pins s σ H _ I q) fun
    | _, s1, ⟨_, H1, I1, same, a, dx, fs, isRef, at1, free, q1⟩ => by
      cases isRef
      cases same
      exact getmeth_ok I1 at1 c hm free (on pins s1 σ H1 Q a I1 q1)) read⟩
abbrev tMethS (C : Addr) (m : Str) (sp : Sp) (dvs : List V) (E : L2.St → XK) (ta : TE) (t : TA) : TE := tOfIns C m ta fun x σ H Q => t σ H fun vs H2 => sp (x :: (vs ++ dvs)) H2 Q (E σ)
theorem pe_methS {CX : CXT} {sp : Sp} {E : L2.St → XK} {t : TA} {pl : Sem Bool} (he : PE X o ta) (c : Cls X.K C) (hm : Meth X.K C m f) (F : FnOk X.prog X.w X.K X.mg X.base CX k f fd ps sp) (hr : Room k X.A) (hb : Binds X.K fd ps ds) (hd : Vals dvs ds) (hx : ∀ σ, PassesAt CX X σ (E σ)) (ha : PA X (e :: es) t)
    (args : Args1 X pos e es) (read : AsMeth X o m apos pos (e :: es) pl) : PE X (.Call (.Attribute o m apos) (e :: es) [] pos) (tMethS C m sp dvs E ta t) :=
  by_ins he c hm read fun pins s σ H Q a I q => PySem.W.callWith_K I.ok.mod.kin hm.kp (thn (ha.run pos pins s σ H _ I q) fun us _ ⟨vs, _, I2, r, q2⟩ => ⟨I2.kIn, run_fnSD (us := .ref a :: us) (vs := .ref a :: vs) F hr hb hd (hx σ) I2 (.cons rfl r) q2⟩) args.1 args.2
theorem pe_methS0 {CX : CXT} {sp : Sp} {E : L2.St → XK} {pl : Sem Bool} (he : PE X o ta) (c : Cls X.K C) (hm : Meth X.K C m f) (F : FnOk X.prog X.w X.K X.mg X.base CX k f fd ps sp) (hr : Room k X.A) (hb : Binds X.K fd ps ds) (hd : Vals dvs ds) (hx : ∀ σ, PassesAt CX X σ (E σ))
    (read : AsMeth X o m apos pos [] pl) : PE X (.Call (.Attribute o m apos) [] [] pos) (tMethS C m sp dvs E ta tNil) :=
  by_ins he c hm read fun pins s σ H Q a I q => PySem.W.callWith_K0 I.kIn hm.kp (run_fnSD (us := [.ref a]) (vs := [.ref a]) F hr hb hd (hx σ) I (.cons rfl .nil) q)
def dMeth (Wd : DW) (C : Addr) (m : Str) (sp : SpD) (dds : List D) (da : DE) (dl : DA) : DE := fun env M Q => da env M fun x M1 => ∃ fs, insOf M1 x = some (C, fs) ∧ fs.lookup m = none ∧ dl env M1 fun us M2 => sp (x :: (us ++ dds)) M2 Q fun c fs M' => Wd c fs env M'
theorem snd_meth (xo : XOk X Δ) (hdd : ∀ I, Rps X.K I dvs dds) (so : SndE X Δ to da) (sl : SndA X Δ tl dl) : SndE X Δ (tMethS C m (liftSp X.K sp) dvs (WE Δ.W) to tl) (dMeth Δ.Wd C m sp dds da dl) := fun I M H σ env G Q Qd k q =>
  so I M H σ env G _ _ (fun x M1 I1 H1 v x1 G1 r1 ⟨fs, e1, e2, q1⟩ => by
    obtain ⟨a, dx, fvs, rfl, h1, h2⟩ := ins_of G1.at_ r1 e1
    refine ⟨a, dx, fvs, rfl, h1, h2.none e2, sl I1 M1 H1 σ env G1 _ _ (fun us M2 I2 H2 vs x2 G2 r2 q2 => ?_) q1⟩
    exact lift_at xo G2 (.cons (r1.ext x2) (r2.append (hdd I2))) q2 fun d M' I' H' v x => k d M' I' H' v ((x1.trans x2).trans x)) q
theorem pd_meth {pl : Sem Bool} (ho : PDe X Δ o to da) (c : Cls X.K C) (hm : Meth X.K C m f) (F : FnOk X.prog X.w X.K X.mg X.base (L2.CX X.prog X.w) k f fd ps (liftSp X.K sp)) (hr : Room k X.A) (hb : Binds X.K fd ps []) (xo : XOk X Δ) (ha : PDa X Δ (e :: es) tl dl)
    (args : Args1 X pos e es := by exact ⟨rfl, rfl⟩) (read : AsMeth X o m apos pos (e :: es) pl := by rfl) : PDe X Δ (.Call (.Attribute o m apos) (e :: es) [] pos) (tMethS C m (liftSp X.K sp) [] (WE Δ.W) to tl) (dMeth Δ.Wd C m sp [] da dl) :=
  ⟨pe_methS ho.1 c hm F hr hb .nil (passAt xo.takes) ha.1 args read, snd_meth xo (fun _ => .nil) ho.2 ha.2⟩
theorem pd_meth0 {pl : Sem Bool} (ho : PDe X Δ o to da) (c : Cls X.K C) (hm : Meth X.K C m f) (F : FnOk X.prog X.w X.K X.mg X.base (L2.CX X.prog X.w) k f fd ps (liftSp X.K sp)) (hr : Room k X.A) (hb : Binds X.K fd ps []) (xo : XOk X Δ)
    (read : AsMeth X o m apos pos [] pl := by rfl) : PDe X Δ (.Call (.Attribute o m apos) [] [] pos) (tMethS C m (liftSp X.K sp) [] (WE Δ.W) to tNil) (dMeth Δ.Wd C m sp [] da dNil) :=
  ⟨pe_methS0 ho.1 c hm F hr hb .nil (passAt xo.takes) read, snd_meth xo (fun _ => .nil) ho.2 pda_nil.2⟩
def dFld (C : Addr) (f : Str) (da : DE) : DE := fun env M Q => da env M fun x M1 => ∃ fs, insOf M1 x = some (C, fs) ∧ ∃ d, fs.lookup f = some d ∧ Q d M1
theorem pd_fld {fn : Str} (ho : PDe X Δ o to da) (cl : Cls X.K C) (na : NoAttr X.K C fn) (hb : attributeBase o fn X.env (eval o X.env) = eval o X.env := by rfl) : PDe X Δ (.Attribute o fn pos) (tFld X.K to fn) (dFld C fn da) :=
  ⟨pe_fld ho.1 hb, fun I M H σ env G Q Qd k q => ho.2 I M H σ env G _ _ (fun x M1 I1 H1 v x1 G1 r1 ⟨fs, e1, d, e2, q1⟩ => by
    obtain ⟨a, dx, fvs, rfl, h1, h2⟩ := ins_of G1.at_ r1 e1
    obtain ⟨u, e3, ru⟩ := h2.look e2
    exact ⟨a, C, dx, fvs, u, rfl, h1, cl, na, e3, k _ _ _ _ _ x1 G1 ru q1⟩) q⟩
def dSetF (C : Addr) (f : Str) (da de : DE) : DS := fun T env M => de env M fun d M1 => da env M1 fun x M2 => ∃ p fs, x = .ref p ∧ M2 p = some (.ins C fs) ∧ fs.length < 1000 ∧ T.nx env (mset M2 p (.ins C (putD f d fs)))
theorem pds_fld {fn : Str} {value : Expr} {pos' : Pos} (ho : PDe X Δ o to da) (hv : PDe X Δ value te de) (cl : Cls X.K C) (na : NoAttr X.K C fn) (hs : swapsWith value (some (.Attribute o fn pos')) pos.line X.env = pure false := by rfl) :
    PDs X Δ (.Assign [.Attribute o fn pos'] value pos) (sFld X.K to te fn) (dSetF C fn da de) :=
  ⟨ps_fld ho.1 hv.1 hs, fun I M H σ env G T Td R q => hv.2 I M H σ env G _ _ (fun d M1 I1 H1 v x1 G1 r1 q1 => ho.2 I1 M1 H1 σ env G1 _ _ (fun x M2 I2 H2 u x2 G2 r2 ⟨p, fs, e1, e2, hl, q2⟩ => by
    subst e1
    rw [r2.ref_inv]
    obtain ⟨hI, dx, fvs, h1, h2, h3, h4⟩ := G2.at_.mem _ _ e2
    refine ⟨p, C, dx, fvs, rfl, h1, cl, na, by rw [h4.length]; exact hl, R.nx _ _ _ _ _ (x1.trans x2) (G2.go (Ext.refl I2) (G2.at_.write (m' := .ins C (putD fn d fs)) e2 (fun _ z => by cases z) ⟨dx, putF fn v fvs, upd_same, ?_, ?_, (RpF.put (r1.ext x2) h4)⟩)) q2⟩
    · rw [upd_ne (mem_ne2 h3 e2 (by intro z; cases z))]; exact h2
    · rw [mset_ne (mem_ne2 h3 e2 (by intro z; cases z))]; exact h3) q1) q⟩
def tMakeS (C : Addr) (sp : Sp) (dvs : List V) (E : L2.St → XK) (t : TA) : TE := fun σ H Q => t σ H fun vs H1 => ∀ x dx, H1 x = none → H1 dx = none → dx ≠ x →
  sp (.ref x :: (vs ++ dvs)) (upd (upd H1 dx (.own x)) x (.ins C dx [])) (fun v H2 => v = .non ∧ Q (.ref x) H2) (E σ)
theorem run_makeS {CX : CXT} {sp : Sp} {E : XK} {pins : List (Addr × Obj)} {σ : L2.St} {H : Hp} {s : Shared} {Q : VK} {us : List Value} {vs : List V} (mk : Mk X.K C f) (F : FnOk X.prog X.w X.K X.mg X.base CX k f fd ps sp) (hr : Room (k + 1) X.A) (hb : Binds X.K fd ps ds) (hd : Vals dvs ds)
    (hx : PassesAt CX X σ E) (I : Inv X pins σ H s) (r : Vals vs us)
    (all : ∀ x dx, H x = none → H dx = none → dx ≠ x → sp (.ref x :: (vs ++ dvs)) (upd (upd H dx (.own x)) x (.ins C dx [])) (fun v H2 => v = .non ∧ Q (.ref x) H2) E) : wpAny (model X.prog X.w) X.A (call (.ref C) us) (EP X pins σ Q) X.xe s := by
  have nw : ∃ N, N = s.heap.objs.size := ⟨_, rfl⟩
  obtain ⟨N, eN⟩ := nw
  have free : ∀ b, N ≤ b → H b = none := fun b z => I.hok.fresh (eN ▸ z)
  have here := all (N + 1) N (free _ (Nat.le_succ N)) (free N (Nat.le_refl N)) (Nat.ne_of_lt (Nat.lt_succ_self N))
  subst eN
  have made := Inv.made (C := C) I
  have given : Vals (V.ref (s.heap.objs.size + 1) :: (vs ++ dvs)) (Value.ref (s.heap.objs.size + 1) :: us ++ ds) := .cons rfl (r.append hd)
  have run := F.run _ X.stack _ _ ⟨Value.ref (s.heap.objs.size + 1) :: us, []⟩ _ _ _ E (hr.make C us []) (made.env0.make C us []) (hb _ (Value.ref (s.heap.objs.size + 1) :: us) made.kIn (given.length ▸ F.len _ _ _ _ here)) given here
  exact wpAny_call (make_map (f := f) I.kIn mk.makes mk.init (beq_iff_eq.mp mk.fn) (codeAny_mono run fun
    | .ok (.ret u), s', h => by
      obtain ⟨_, H', I3, isNon, rfl, q⟩ := made.after h
      exact ⟨isNon, .ref _, H', I3, rfl, q⟩
    | .error e, s', h => hx pins _ _ e s' made h
    | .ok .next, _, h => h.elim
    | .ok .brk, _, h => h.elim
    | .ok .cont, _, h => h.elim))
theorem pe_makeS {CX : CXT} {sp : Sp} {E : L2.St → XK} {t : TA} (mk : Mk X.K C f) (F : FnOk X.prog X.w X.K X.mg X.base CX k f fd ps sp) (hr : Room (k + 1) X.A) (hg : Gl X x) (hm : X.mg x = some (.ref C)) (hb : Binds X.K fd ps ds) (hd : Vals dvs ds) (hx : ∀ σ, PassesAt CX X σ (E σ))
    (ha : PA X (e :: es) t) (own : OwnName x) (args : Args1 X pos e es) : PE X (.Call (.Name x p) (e :: es) [] pos) (tMakeS C sp dvs E t) :=
  by_name hg hm own fun pins s σ H Q I q => PySem.W.callWith_K I.ok.mod.kin mk.kp (thn (ha.run pos pins s σ H _ I q) fun _ _ ⟨_, _, I1, r, q1⟩ => ⟨I1.kIn, run_makeS mk F hr hb hd (hx σ) I1 r q1⟩) args.1 args.2
def dMake (Wd : DW) (C : Addr) (sp : SpD) (dl : DA) : DE := fun env M Q => dl env M fun us M1 => ∀ p dx, M1 p = none → M1 dx = none → dx ≠ p →
  sp (.ref p :: us) (mset (mset M1 dx (.own p)) p (.ins C [])) (fun v M2 => v = .non ∧ FzV Q (.ref p) M2) fun c fs M' => FzV (fun _ M'' => Wd c fs env M'') .non M'
theorem pd_make (Mk' : Mk X.K C f) (F : FnOk X.prog X.w X.K X.mg X.base (L2.CX X.prog X.w) k f fd ps (liftSp X.K sp)) (hr : Room (k + 1) X.A) (hg : Gl X x) (hm : X.mg x = some (.ref C)) (hb : Binds X.K fd ps []) (xo : XOk X Δ)
    (ha : PDa X Δ (e :: es) tl dl) (own : OwnName x := by decide) (args : Args1 X pos e es := by exact ⟨rfl, rfl⟩) : PDe X Δ (.Call (.Name x p) (e :: es) [] pos) (tMakeS C (liftSp X.K sp) [] (WE Δ.W) tl) (dMake Δ.Wd C sp dl) := by
  refine ⟨pe_makeS Mk' F hr hg hm hb .nil (passAt xo.takes) ha.1 own args, fun I M H σ env G Q Qd k q => ha.2 I M H σ env G _ _ (fun us M1 I1 H1 vs x1 G1 r1 q1 => ?_) q⟩
  intro p dx hp hdx hne
  have A1 := G1.at_
  have A2 : At X.K Δ.F I1 (mset (mset M1 dx (.own p)) p (.ins C [])) (upd (upd H1 dx (.own p)) p (.ins C dx [])) := by
    have B := A1.newM hdx (.own p) (.own p) ⟨_, upd_same, .inl rfl⟩
    refine B.newM (by rw [upd_ne hne.symm]; exact hp) (.ins C dx []) (.ins C []) ⟨dx, [], upd_same, by rw [upd_ne hne, upd_same], by rw [mset_ne hne, mset_same], .nil⟩
  refine ⟨Δ.F, I1, _, .ref p :: us, _, _, A2, .cons (.ref p) (by rw [List.append_nil]; exact r1), q1 p dx (A1.freeM hp) (A1.freeM hdx) hne, fun d M' I' H' v x A r' q => ?_, fun c fs M' I' H' dd x A er w => ?_⟩
  · obtain ⟨e1, q⟩ := q
    subst e1
    refine ⟨r'.non_inv, ?_⟩
    obtain ⟨I2, M2, d', x2, A3, r3, q3⟩ := fzv q A (v := .ref p) (.ref p)
    exact k _ _ _ _ _ ((x1.trans x).trans x2) (G1.go (x.trans x2) A3) r3 q3
  · obtain ⟨I2, M2, d', x2, A3, r3, q3⟩ := fzv w A (v := .non) .non
    refine xo.link (G1.go (x.trans x2) A3) ?_ q3
    cases dd with
    | none => exact er
    | some dd => obtain ⟨fvs, e1, e2⟩ := er; exact ⟨fvs, x2.xd e1, e2.ext x2⟩
def dRaise (Wd : DW) (C : Addr) : DS := fun _ env M => Wd (.ref C) [] env M
theorem pds_raise {mt : Str} {j : Nat} {p2 cpos : Pos} {bmB : List Value} {B newId initId : String} (F : ExcBaseFacts B newId initId bmB) (q : PySem.W.excIn X.K C bmB newId = true) (gC : X.mg x = some (.ref C)) (kC : PySem.W.keepIn X.K (.ref C) = true) (r : Raises X (.ref C)) (hg : Gl X x) (hc : X.calm = true) (xo : XOk X Δ)
    (hdb : (x == ("__debug__" : Str)) = false := by decide) : PDs X Δ (.Raise (some (.Call (.Name x p) [.Constant (.str mt) j p2] [] cpos)) none pos) (fun _ σ H => Δ.W (.ref C) none σ H) (dRaise Δ.Wd C) :=
  ⟨ps_raise hc xo.takes (pmk_own F q gC kC r hg hdb), fun I M H σ env G T Td R q => xo.link G (d := none) rfl q⟩
theorem At.same {K : PySem.W.Frag} {F I H : Hp} {M : Mem} (A : At K F I M H) {H' : Hp} (hH : ∀ b u, H b = some u → H' b = some u) : At K F I M H' where
  nt := A.nt
  ex := fun b u e => hH _ _ (A.ex _ _ e)
  mem := fun b u e => ⟨(A.mem _ _ e).1, (A.mem _ _ e).2.mono (Ext.refl I) (fun c v _ hc => hH _ _ hc) (fun c hc => hc)⟩
  fr := fun b u e => let ⟨z, h2, h3⟩ := A.fr _ _ e; ⟨hH _ _ z, h2, h3⟩
def spOex (K : PySem.W.Frag) (fn : Str) : Sp := fun vs H Q _ => ∃ (a C : Addr) (y : V), vs = [.ref a, y] ∧ OexC K C ∧ PySem.W.findIn K (.ref C) fn = some none ∧ H a = some (exo a C none) ∧ ∀ dx, H dx = none → dx ≠ a → Q .non (upd (upd H dx (exd dx [(fn, y)])) a (exo a C (some dx)))
def dRaiseI (Wd : DW) (C : Addr) (fn : Str) (de : DE) : DS := fun _ env M => de env M fun d M1 => Wd (.ref C) [(fn, d)] env M1
theorem pds_raiseI {fn : Str} {fI : Addr} {cpos : Pos} (T : OexC X.K C) (iC : PySem.W.findIn X.K (.ref C) "__init__" = some (some (.ref fI))) (tI : PySem.W.typeIn X.K (.ref fI) = some (.type "function"))
    (F1 : FnOk X.prog X.w X.K X.mg X.base CX0 k fI fd ps (spOex X.K fn)) (hno : PySem.W.findIn X.K (.ref C) fn = some none) (hr : Room (k + 1) X.A) (hb : Binds X.K fd ps []) (hg : Gl X x) (hm : X.mg x = some (.ref C)) (hc : X.calm = true) (xo : XOk X Δ) (ha : PDe X Δ e te de)
    (hdb : (x == ("__debug__" : Str)) = false := by decide) (he : starEach [e] X.env = (false, eval e X.env) :: starEach [] X.env := by rfl) (hpl : (backTo cpos (starEach [] X.env)).any (·.1) = false := by rfl) :
    PDs X Δ (.Raise (some (.Call (.Name x p) [e] [] cpos)) none pos) (fun _ σ H => tMkO C (spOex X.K fn) [] (tCons te tNil) σ H fun cls d H' => Δ.W cls d σ H') (dRaiseI Δ.Wd C fn de) := by
  refine ⟨ps_raise hc xo.takes (pmk_oex T iC tI F1 hr hb .nil (fun _ _ _ _ _ _ _ h => h.elim) hg hm (pa_cons ha.1 pa_nil he) hdb he hpl), fun I M H σ env G T' Td R q => ha.2 I M H σ env G _ _ (fun d M1 I1 H1 v x1 G1 r1 q1 => ?_) q⟩
  refine ⟨by show 1 ≤ 1000; omega, fun a ha1 => ⟨a, C, v, rfl, T, hno, upd_same, fun dx hdx hne => ⟨rfl, dx, [(fn, v)], upd_same, by rw [upd_ne hne, upd_same], by rw [upd_ne hne] at hdx; exact hdx, ?_⟩⟩⟩
  have hdx' : H1 dx = none := by rw [upd_ne hne] at hdx; exact hdx
  have x2 : Ext I1 (upd I1 dx (.xd [(fn, v)])) := Ext.new (G1.at_.freeI hdx')
  refine xo.link (fs := [(fn, d)]) (d := some dx) (G1.go x2 ((G1.at_.newI hdx' (.xd [(fn, v)])).same (H' := _) fun b u hb0 => ?_)) ⟨[(fn, v)], upd_same, .cons (r1.ext x2) .nil⟩ q1
  have hda : dx ≠ a := hne
  have hba : b ≠ a := fun z => by rw [z, upd_ne hda.symm, ha1] at hb0; cases hb0
  by_cases hb : b = dx
  · subst hb
    rw [upd_same] at hb0 ⊢
    exact hb0
  · rw [upd_ne hb] at hb0
    rw [upd_ne hb, del_ne hba, upd_ne hba, upd_ne hb, upd_ne hba]
    exact hb0
end
def startD (N : List Str) (ds : List D) : Env := ds.map some ++ List.replicate (N.length - ds.length) none
theorem envr_start {K : PySem.W.Frag} {I : Hp} {N : List Str} {vs : List V} {ds : List D} (r : Rps K I vs ds) : EnvR K I (L2.start N vs) (startD N ds) := by
  unfold L2.start startD
  have hl := r.length
  refine ⟨by simp [hl], fun i d h => ?_⟩
  by_cases hi : i < ds.length
  · rw [List.getElem?_append_left (by simpa using hi)] at h
    rw [List.getElem?_append_left (by rw [List.length_map, hl]; exact hi)]
    rw [List.getElem?_map] at h ⊢
    cases e : ds[i]? with
    | none => rw [e] at h; exact nomatch h
    | some d' =>
      rw [e] at h
      cases h
      obtain ⟨v, hv, rv⟩ := r.get e
      exact ⟨v, by rw [hv]; rfl, rv⟩
  · rw [List.getElem?_append_right (by simpa using hi)] at h
    rw [List.getElem?_replicate] at h
    split at h <;> cases h
section
variable {base : Heap} {mg : Str → Option Value} {K : PySem.W.Frag} {P : Program} {w : World}
def ends (Q : DKt) : EndsD := { nx := fun _ M => FzV Q .non M, rt := FzV Q }
end
end BB
set_option maxHeartbeats 2000000
namespace BBE
open PySem
theorem meets_enum1 {v : Value} {o : Obj} {H : Heap → Prop} (B : Begins v o H) :
    Meets (Builtin.«enumerate.__new__» ⟨[.type "enumerate", v], []⟩) (fun _ R s => H s.heap ∧
      R (.ok (.ret (.ref (s.heap.push o).objs.size))) { s with heap := (s.heap.push o).push { cls := .type "enumerate", data := .fields #[.none, .bool false, .ref s.heap.objs.size, rawInt 0, .none, .none] } }) :=
  .of_wp fun prog w A R ⟨hp, g, d, tk, os⟩ ⟨hv, back⟩ => by
    have sub := sub_enumerate
    have starts : ∀ {A' : Around} {E Q : Value → Shared → Prop}, Q (.ref hp.objs.size) ⟨hp.push o, g, d, tk, os⟩ → wpAny (model prog w) A' (pyIter v) Q E ⟨hp, g, d, tk, os⟩ := fun q => B.iter prog w _ _ _ _ hv q
    wp_walk using starts
    refine wpAny_stack_any (fun _ => wpAny_pure ?_)
    split
    · rename_i c _ _ _ _ _
      rcases Bool.eq_false_or_eq_true (c == Value.type "enumerate") with z | z <;> (rw [z]; wp_walk using starts; exact ⟨_, rfl, back⟩)
    · wp_walk using starts
      exact ⟨_, rfl, back⟩
theorem enum1 {prog : Program} {w : World} {A : Around} {E : Value → Shared → Prop} {s : Shared} {v : Value} {o : Obj} {H : Heap → Prop} {Q : Value → Shared → Prop} (B : Begins v o H) (hv : H s.heap)
    (h : ∀ h', IsEnum h' (s.heap.objs.size + 1) s.heap.objs.size 0 .none → h'.get? s.heap.objs.size = some o → h'.objs.size = s.heap.objs.size + 2 → (∀ b u, s.heap.get? b = some u → h'.get? b = some u) → Q (.ref (s.heap.objs.size + 1)) { s with heap := h' }) :
    wpAny (model prog w) A (call (.type "enumerate") [v]) Q E s := by
  refine callType_new F.called_enumerate (by decide) (F.typeCall_enumerate_1 _) (F.newCall_enumerate_1 _) (fun obj => F.args_object_init_2 obj _) F.entry_enumerate_new (meets_enum1 B) ⟨hv, ?_⟩
  have sz : (s.heap.push o).objs.size = s.heap.objs.size + 1 := Heap.size_push ..
  rw [sz]
  have ie : IsEnum ((s.heap.push o).push { cls := .type "enumerate", data := .fields #[.none, .bool false, .ref s.heap.objs.size, rawInt 0, .none, .none] }) (s.heap.objs.size + 1) s.heap.objs.size 0 .none := by
    rw [← sz]
    exact Heap.get?_push_size (s.heap.push o) rfl
  exact ⟨⟨_, ie, rfl⟩, h _ ie (Heap.get?_push_of_some _ (Heap.get?_push_size _ B.free)) (by rw [Heap.size_push, sz]) fun b u x => Heap.get?_push_of_some _ (Heap.get?_push_of_some _ x)⟩
end BBE
namespace BB
open L2 PySem PySem.Spec PyProof.Rows
def ItR (side : Hp → Prop) (n : Nat) (row : Nat → List V) : It :=
  ⟨fun i H => side H ∧ i < n, fun i H v H' => ∃ T, v = .ref T ∧ H T = none ∧ H' = upd H T (.tup (row i)), fun i H => side H ∧ i = n⟩
theorem turn_rows {P : Program} {w : World} {K : PySem.W.Frag} {tg : Expr} {it : Addr} {fp wr : List Addr} {n : Nat} {row : Nat → List V} {side : Hp → Prop} {tn : Nat → Heap → Prop}
    (mem : it ∈ fp) (wr_fp : ∀ b ∈ wr, b ∈ fp) (obj : ∀ i h, tn i h → ∀ b ∈ fp, ∃ o, h.get? b = some o ∧ ∀ v, o.data ≠ .cell v) (keep : ∀ i h h', tn i h → (∀ b ∈ fp, ∀ o, h.get? b = some o → h'.get? b = some o) → tn i h')
    (big : ∀ i, i < n → (row i).length ≤ 1000)
    (step : ∀ (X : Cx), X.prog = P → X.w = w → X.K = K → X.A.handled = none → ∀ i pins s σ H, Inv X pins σ H s → side H → tn i s.heap → ∃ fp' Y St, GoesN P w X.A tg it fp' wr n Y St ∧ St i s.heap ∧ (∀ h, St (i + 1) h → tn (i + 1) h) ∧
      ∀ h₀ v h, Y i h₀ v h → i < n → ∃ T vals, v = .ref T ∧ h₀.objs.size ≤ T ∧ Vals (row i) vals.toList ∧ h.IsTuple T vals)
    (slf : ∀ (A : Around) (i : Nat) (s : Shared) (Q E : Value → Shared → Prop), tn i s.heap → Q (.ref it) s → wpAny (model P w) A (pyIter (.ref it)) Q E s) : Turn P w K tg (ItR side n row) fp it tn where
  mem := mem
  obj := obj
  keep := keep
  self := slf
  item := fun X hP hw hK hc i pins s σ H E I hf st ⟨hs, hi⟩ => by
    obtain ⟨fp', Y, St, G, st', toTn, hY⟩ := step X hP hw hK (I.ok.hd hc) i pins s σ H I hs st
    subst hP hw hK
    refine G.goes i s (fun u s2 => ∃ x H', Inv X pins σ H' s2 ∧ RelV x u ∧ (ItR side n row).yld i H x H' ∧ tn (i + 1) s2.heap ∧ ∀ b ∈ fp, H' b = none) E hi st' fun v h' tk y st2 hk _ => ?_
    obtain ⟨T, vals, rfl, hT, rv, ht⟩ := hY _ _ _ y hi
    have new : ObjOk X.prog X.w (upd H T (.tup (row i))) h' T (.tup (row i)) := ⟨Nat.le_trans (big i hi) (by rw [sizeLine_eq]; omega), vals.toList, rv, (show vals.toList.toArray = vals from Array.toArray_toList) ▸ ht⟩
    refine ⟨.ref T, _, I.turnedNew (t' := tk) (ch := wr) hk (fun b hb => hf b (wr_fp b hb)) hT new, rfl, ⟨T, rfl, I.hok.fresh hT, rfl⟩, toTn _ st2, fun b hb => ?_⟩
    obtain ⟨o, ho, _⟩ := obj i s.heap st b hb
    rw [upd_ne (Nat.ne_of_lt (Nat.lt_of_lt_of_le (Heap.lt_size ho) hT))]
    exact (hf b hb).1
  done := fun X hP hw hK hc i pins s σ H E I hf st ⟨hs, atEnd⟩ => by
    subst atEnd
    obtain ⟨fp', Y, St, G, st', toTn, hY⟩ := step X hP hw hK (I.ok.hd hc) i pins s σ H I hs st
    subst hP hw hK
    exact G.stops s _ E st' fun h' tk hk _ => I.turnedL (t' := tk) (ch := wr) hk fun b hb => hf b (wr_fp b hb)
def itObj (t : Bool) (a : Addr) : Obj := match t with
  | true => { cls := .type "tuple_iterator", data := .fields #[.ref a, .int 0 0] }
  | false => { cls := .type "list_iterator", data := .fields #[.ref a, .int 0 0] }
def itAt (t : Bool) (h : Heap) (it a : Addr) (i : Nat) : Prop := match t with
  | true => h.IsTupleIter it a i
  | false => h.IsListIter it a i
def conAt (t : Bool) (h : Heap) (a : Addr) (its : Array Value) : Prop := match t with
  | true => h.IsTuple a its
  | false => h.IsList a its
def sqAt (t : Bool) (K : PySem.W.Frag) (H : Hp) (a : Addr) (xs : List V) : Prop := match t with
  | true => SqT K H a xs
  | false => SqL K H a xs
theorem con_of {X : Cx} {pins : List (Addr × Obj)} {σ : L2.St} {H : Hp} {s : Shared} {t : Bool} {a : Addr} {xs : List V} (I : Inv X pins σ H s) (h : sqAt t X.K H a xs) : ∃ its : List Value, Vals xs its ∧ conAt t s.heap a its.toArray := by
  cases t with
  | true => obtain ⟨its, rv, p, _⟩ := I.tuple h; exact ⟨its, rv, p⟩
  | false => obtain ⟨its, rv, p, _⟩ := I.list h; exact ⟨its, rv, p.isList⟩
theorem begins_of (t : Bool) (a : Addr) (its : Array Value) : Begins (.ref a) (itObj t a) fun h => conAt t h a its := by
  cases t with
  | true => exact begins_tuple a its
  | false => exact begins_list a its
theorem draws_of {prog : Program} {w : World} {A : Around} (t : Bool) (hh : A.handled = none) (it a : Addr) (hne : a ≠ it) (its : Array Value) : Draws prog w A it [it, a] its.size (fun i v => its[i]? = some v) fun i h => itAt t h it a i ∧ conAt t h a its := by
  cases t with
  | true => exact Draws.tuple hh it a hne its
  | false => exact Draws.list hh it a hne its
theorem itAt_obj {t : Bool} {h : Heap} {it a : Addr} {i : Nat} (x : itAt t h it a i) : ∃ o, h.get? it = some o ∧ ∀ v, o.data ≠ .cell v := by
  cases t <;> (obtain ⟨o, ho, _, hd⟩ := x; exact ⟨o, ho, fun v z => by rw [hd] at z; cases z⟩)
theorem itAt_keep {t : Bool} {h h' : Heap} {it a : Addr} {i : Nat} (x : itAt t h it a i) (k : ∀ o, h.get? it = some o → h'.get? it = some o) : itAt t h' it a i := by
  cases t <;> (obtain ⟨o, ho, hr⟩ := x; exact ⟨o, k o ho, hr⟩)
theorem itAt_new {t : Bool} {h : Heap} {it a : Addr} (e : h.get? it = some (itObj t a)) : itAt t h it a 0 := by
  cases t <;> exact ⟨_, e, rfl, rfl⟩
theorem conAt_lt {t : Bool} {h : Heap} {a : Addr} {its : Array Value} (x : conAt t h a its) : a < h.objs.size := by
  cases t with
  | true => obtain ⟨o, ho, _⟩ := x; exact Heap.lt_size ho
  | false => obtain ⟨o, ho, _⟩ := x; exact Heap.lt_size ho
theorem vals_at {xs : List V} {its : List Value} {i : Nat} {u : Value} (r : Vals xs its) (h : its.toArray[i]? = some u) : ∃ x, xs[i]? = some x ∧ RelV x u := by
  have hi : i < its.length := by
    have := (Array.getElem?_eq_some_iff.mp h).1
    simpa using this
  obtain ⟨w, hw, rw'⟩ := r.get (i := i) (x := xs[i]'(by rw [r.length]; exact hi)) (by simp [r.length, hi])
  have e : w = u := by
    have h2 : its[i]? = some u := by simpa using h
    rw [hw] at h2
    exact Option.some.inj h2
  subst e
  exact ⟨_, by simp [r.length, hi], rw'⟩
section
variable {X : Cx}
theorem feet {X : Cx} {pins : List (Addr × Obj)} {σ : L2.St} {H : Hp} {s : Shared} {fp : List Addr} (I : Inv X pins σ H s) (beyond : ∀ b ∈ fp, s.heap.objs.size ≤ b) : ∀ b ∈ fp, FpOk X pins H b :=
  fun b mem => have z := beyond b mem; I.fpOk z (I.hok.fresh z)
theorem turn_enumA {P : Program} {w : World} {K : PySem.W.Frag} {elts : List Expr} {kk : Nat} {tpos : Pos} {t : Bool} {a e it : Addr} {xs : List V} (hei : e ≠ it) (hea : e ≠ a) (hia : a ≠ it) :
    Turn P w K (.Tuple elts kk tpos) (ItR (fun H => sqAt t K H a xs) xs.length fun i => [.int (i : Nat), xs.getD i .non]) [e, it] e (fun i h => (∃ old, IsEnum h e it ((0 : Int) + (i : Int)) old) ∧ itAt t h it a i) := by
  refine turn_rows (wr := [e, it]) (by simp) (fun b hb => hb) (fun i h st b hb => ?_) (fun i h h' st k => ?_) (fun i _ => by simp) (fun X hP hw hK hh i pins s σ H I hs st => ?_) (fun A i s Q E st q => ?_)
  · obtain ⟨⟨old, he⟩, hit⟩ := st
    rcases (by simpa using hb : b = e ∨ b = it) with rfl | rfl
    · exact ⟨_, he, fun v z => nomatch z⟩
    · exact itAt_obj hit
  · obtain ⟨⟨old, he⟩, hit⟩ := st
    exact ⟨⟨old, k e (by simp) _ he⟩, itAt_keep hit fun o q => k it (by simp) o q⟩
  · subst hP hw hK
    obtain ⟨its, rv, hc⟩ := con_of I hs
    have D := draws_of (prog := X.prog) (w := X.w) (A := X.A.in1) t hh it a hia its.toArray
    have hl : its.toArray.size = xs.length := by rw [List.size_toArray]; exact rv.length.symm
    have G := GoesN.enumFrom (elts := elts) (x1 := kk) (pos := tpos) 0 D e hei (by simp [hei, hea]) (by simp)
    rw [hl] at G
    refine ⟨_, _, _, G, ⟨st.1, st.2, hc⟩, fun h x => ⟨x.1, x.2.1⟩, fun h₀ v h y hi => ?_⟩
    obtain ⟨T, tk, u, rfl, hT, hu, ht⟩ := y
    obtain ⟨x, hx, rx⟩ := vals_at rv hu
    refine ⟨T, _, rfl, hT, ?_, ht⟩
    have hx' : xs.getD i .non = x := by rw [List.getD_eq_getElem?_getD, hx]; rfl
    show Vals [.int (i : Nat), xs.getD i .non] [.int (0 + (i : Int)) tk, u]
    rw [hx', Int.zero_add]
    exact .cons ⟨tk, rfl⟩ (.cons rx .nil)
  · obtain ⟨⟨old, he⟩, _⟩ := st
    exact wpAny_pyIter_enum he q
def iEnumA (K : PySem.W.Frag) (ta : TA) : TI := fun σ H R => ta σ H fun vs H1 => ∃ t a xs, vs = [.ref a] ∧ sqAt t K H1 a xs ∧ R (ItR (fun H => sqAt t K H a xs) xs.length fun i => [.int (i : Nat), xs.getD i .non]) H1
theorem pi_enumA {e : Expr} {ta : TA} {p pos tpos : Pos} {elts : List Expr} {kk : Nat} (hg : Gl X "enumerate") (hm : X.mg "enumerate" = none) (ha : PA X [e] ta) (hs : starEach [e] X.env = [(false, eval e X.env)] := by rfl) :
    PI X (.Tuple elts kk tpos) (.Call (.Name "enumerate" p) [e] [] pos) (iEnumA X.K ta) := by
  constructor
  intro pins s σ H R I h
  refine Call_ (ld_blt I hg hm boot_enumerate (PyProof.Rows.callWith_type1 (thn (ha.run pos pins s σ H _ I h) fun us s1 hh => ?_) hs rfl))
  obtain ⟨vs, H1, I1, r1, t, a, xs, rfl, hq, q⟩ := hh
  cases r1 with
  | cons r rr =>
    cases rr
    cases r
    obtain ⟨its, rv, hc⟩ := con_of I1 hq
    have hlt := conAt_lt hc
    refine BBE.enum1 (begins_of t a its.toArray) hc fun h' he hit hsz hk => wpAny_pyIter_enum he ?_
    refine ⟨s1.heap.objs.size + 1, [s1.heap.objs.size + 1, s1.heap.objs.size], _, _, H1, rfl, I1.kept (t' := s1.toks) hk, turn_enumA (t := t) (a := a) (Nat.succ_ne_self _) (by have : a < s1.heap.objs.size + 1 := Nat.lt_succ_of_lt hlt; exact (Nat.ne_of_gt this)) (Nat.ne_of_lt hlt), ⟨⟨.none, he⟩, itAt_new hit⟩, feet I1 fun b mem => ?_, q⟩
    rcases (by simpa using mem : b = s1.heap.objs.size + 1 ∨ b = s1.heap.objs.size) with rfl | rfl
    · exact Nat.le_add_right _ _
    · exact Nat.le_refl _
theorem turn_zipA {P : Program} {w : World} {K : PySem.W.Frag} {elts : List Expr} {kk : Nat} {tpos : Pos} {t1 t2 : Bool} {a1 a2 N : Addr} {xs ys : List V} (h1 : a1 < N) (h2 : a2 < N) :
    Turn P w K (.Tuple elts kk tpos) (ItR (fun H => sqAt t1 K H a1 xs ∧ sqAt t2 K H a2 ys) (min xs.length ys.length) fun i => [xs.getD i .non, ys.getD i .non]) [N + 4, N + 2, N + 3, N, N + 1] (N + 4)
      (fun i h => IsZip h (N + 4) (N + 2) (N + 3) .none ∧ IsTupOf2 h (N + 2) (.ref N) (.ref (N + 1)) ∧ (∃ x y, IsTupOf2 h (N + 3) x y) ∧ itAt t1 h N a1 i ∧ itAt t2 h (N + 1) a2 i) := by
  refine turn_rows (wr := [N + 4, N + 3, N, N + 1]) (by simp) (fun b hb => ?_) (fun i h st b hb => ?_) (fun i h h' st k => ?_) (fun i _ => by simp) (fun X hP hw hK hh i pins s σ H I hs st => ?_) (fun A i s Q E st q => ?_)
  · simp only [List.mem_cons, List.not_mem_nil, or_false] at hb ⊢
    rcases hb with z | z | z | z <;> simp [z]
  · obtain ⟨z1, z2, ⟨x, y, z3⟩, z4, z5⟩ := st
    simp only [List.mem_cons, List.not_mem_nil, or_false] at hb
    rcases hb with rfl | rfl | rfl | rfl | rfl
    · exact ⟨_, z1, fun v z => nomatch z⟩
    · exact ⟨_, z2, fun v z => nomatch z⟩
    · exact ⟨_, z3, fun v z => nomatch z⟩
    · exact itAt_obj z4
    · exact itAt_obj z5
  · obtain ⟨z1, z2, ⟨x, y, z3⟩, z4, z5⟩ := st
    exact ⟨k _ (by simp) _ z1, k _ (by simp) _ z2, ⟨x, y, k _ (by simp) _ z3⟩, itAt_keep z4 fun o q => k _ (by simp) o q, itAt_keep z5 fun o q => k _ (by simp) o q⟩
  · subst hP hw hK
    obtain ⟨its1, rv1, hc1⟩ := con_of I hs.1
    obtain ⟨its2, rv2, hc2⟩ := con_of I hs.2
    have D1 := draws_of (prog := X.prog) (w := X.w) (A := X.A.in1) t1 hh N a1 (Nat.ne_of_lt h1) its1.toArray
    have D2 := draws_of (prog := X.prog) (w := X.w) (A := X.A.in1) t2 hh (N + 1) a2 (Nat.ne_of_lt (Nat.lt_succ_of_lt h2)) its2.toArray
    have G := GoesN.zip2 (elts := elts) (x1 := kk) (pos := tpos) (zip_sep2 (N := N) (fp1 := [a1]) (fp2 := [a2]) (by simpa using h1) (by simpa using h2)) D1 D2
    have l1 : its1.toArray.size = xs.length := by rw [List.size_toArray]; exact rv1.length.symm
    have l2 : its2.toArray.size = ys.length := by rw [List.size_toArray]; exact rv2.length.symm
    rw [l1, l2] at G
    obtain ⟨z1, z2, z3, z4, z5⟩ := st
    refine ⟨_, _, _, G, ⟨z1, z2, z3, ⟨z4, hc1⟩, ⟨z5, hc2⟩⟩, fun h x => ⟨x.1, x.2.1, x.2.2.1, x.2.2.2.1.1, x.2.2.2.2.1⟩, fun h₀ v h y hi => ?_⟩
    obtain ⟨T, u1, u2, rfl, hT, hu1, hu2, ht⟩ := y
    obtain ⟨x1, hx1, rx1⟩ := vals_at rv1 hu1
    obtain ⟨x2, hx2, rx2⟩ := vals_at rv2 hu2
    refine ⟨T, _, rfl, hT, ?_, ht⟩
    have e1 : xs.getD i .non = x1 := by rw [List.getD_eq_getElem?_getD, hx1]; rfl
    have e2 : ys.getD i .non = x2 := by rw [List.getD_eq_getElem?_getD, hx2]; rfl
    show Vals [xs.getD i .non, ys.getD i .non] [u1, u2]
    rw [e1, e2]
    exact .cons rx1 (.cons rx2 .nil)
  · exact wpAny_pyIter_zip st.1 q
def iZip2A (K : PySem.W.Frag) (ta : TA) : TI := fun σ H R => ta σ H fun vs H1 => ∃ t1 t2 a1 a2 xs ys, vs = [.ref a1, .ref a2] ∧ sqAt t1 K H1 a1 xs ∧ sqAt t2 K H1 a2 ys ∧
  R (ItR (fun H => sqAt t1 K H a1 xs ∧ sqAt t2 K H a2 ys) (min xs.length ys.length) fun i => [xs.getD i .non, ys.getD i .non]) H1
theorem pi_zip2A {e1 e2 : Expr} {ta : TA} {p pos tpos : Pos} {elts : List Expr} {kk : Nat} (hg : Gl X "zip") (hm : X.mg "zip" = none) (ha : PA X [e1, e2] ta)
    (hs : starEach [e1, e2] X.env = (false, eval e1 X.env) :: starEach [e2] X.env := by rfl) (hpl : (backTo pos (starEach [e2] X.env)).any (·.1) = false := by rfl) :
    PI X (.Tuple elts kk tpos) (.Call (.Name "zip" p) [e1, e2] [] pos) (iZip2A X.K ta) := by
  constructor
  intro pins s σ H R I h
  refine Call_ (ld_blt I hg hm PyProof.Rows.boot_zip (PyProof.Rows.callWith_type1 (thn (ha.run pos pins s σ H _ I h) fun us s1 hh => ?_) hs hpl))
  obtain ⟨vs, H1, I1, r1, t1, t2, a1, a2, xs, ys, rfl, hq1, hq2, q⟩ := hh
  cases r1 with
  | cons r rr =>
    cases rr with
    | cons r' rr =>
      cases rr
      cases r
      cases r'
      obtain ⟨its1, rv1, hc1⟩ := con_of I1 hq1
      obtain ⟨its2, rv2, hc2⟩ := con_of I1 hq2
      refine zip_begins2 (begins_of t1 a1 its1.toArray) (begins_of t2 a2 its2.toArray) hc1 hc2 fun h' hz hTI hTO g1 g2 hsz hk => wpAny_pyIter_zip hz ?_
      refine ⟨s1.heap.objs.size + 4, _, _, _, H1, rfl, I1.kept (t' := s1.toks) hk, turn_zipA (conAt_lt hc1) (conAt_lt hc2), ⟨hz, hTI, ⟨_, _, hTO⟩, itAt_new g1, itAt_new g2⟩, feet I1 fun b mem => ?_, q⟩
      simp only [List.mem_cons, List.not_mem_nil, or_false] at mem
      rcases mem with rfl | rfl | rfl | rfl | rfl
      · exact Nat.le_add_right _ _
      · exact Nat.le_add_right _ _
      · exact Nat.le_add_right _ _
      · exact Nat.le_refl _
      · exact Nat.le_add_right _ _
end
end BB
set_option maxHeartbeats 4000000
namespace BBE
open L2 PySem PySem.Spec PyProof.Rows
theorem tup_mul01 (l : Addr) (items : Array Value) (n : Nat) (dd : Option Addr) (sl : Array (Option Value)) (x : Int) (u : Tok) :
    Meets (Builtin.«tuple.__mul__» ⟨[.ref l, .int x u], []⟩) (fun _ R s => s.heap.get? l = some ⟨.type "tuple", dd, .seq items n, sl⟩ ∧
      (x = 1 ∧ R (.ok (.ret (.ref l))) s ∨ (x ≤ 0 ∧ -(2 ^ 63) ≤ x ∧ items.isEmpty = false) ∧ R (.ok (.ret (.ref s.heap.objs.size))) { s with heap := s.heap.push { cls := .type "tuple", data := .seq #[] } })) :=
  .of_wp fun prog w A R ⟨hp, g, d, tk, os⟩ ⟨at1, two⟩ => by
    have ix := AutoSeq1.idx_int
    rcases two with ⟨one, back⟩ | ⟨⟨low, least, some1⟩, back⟩
    · subst one
      have same : (items.isEmpty || (1 : Int) == 1) = true := by cases items.isEmpty <;> rfl
      wp_walk using wpAny_loadPart' at1
      repeat (first
        | exact ⟨_, rfl, back⟩
        | (refine wpAny_ite_true (decide_eq_true same) ?_
           wp_walk using wpAny_loadPart' at1))
    · have inside : (decide (x < -(2 ^ 63)) || decide (x ≥ 2 ^ 63)) = false := by simp only [Bool.or_eq_false_iff, decide_eq_false_iff_not]; omega
      have other : (items.isEmpty || x == 1) = false := by simp only [some1, Bool.false_or, beq_eq_false_iff_ne]; omega
      have none1 : (decide (x ≤ 0) || items.isEmpty) = true := by simp only [low, decide_true, Bool.true_or]
      wp_walk using wpAny_loadPart' at1
      repeat (first
        | exact ⟨_, rfl, back⟩
        | (refine wpAny_ite_false (decide_eq_false (inside ▸ Bool.false_ne_true)) ?_
           wp_walk using wpAny_loadPart' at1)
        | (refine wpAny_ite_false (decide_eq_false (other ▸ Bool.false_ne_true)) ?_
           wp_walk using wpAny_loadPart' at1)
        | (refine wpAny_ite_true (decide_eq_true none1) ?_
           wp_walk using wpAny_loadPart' at1))
end BBE
namespace BB
open L2 PySem PySem.Spec PyProof.Rows
def rRep01 (K : PySem.W.Frag) : R2 := fun x y H Q => ∃ l k xs, x = .ref l ∧ y = .int k ∧ SqT K H l xs ∧ (k = 1 ∧ Q (.ref l) H ∨ (xs ≠ [] ∧ k ≤ 0 ∧ -(2 ^ 63) ≤ k) ∧ ∀ p, H p = none → Q (.ref p) (upd H p (.tup [])))
section
variable {X : Cx}
theorem op_rep01 : OpR X (binaryOp .Mult) (rRep01 X.K)
  | pins, s, σ, H, _, _, _, _, Q, I, rx, ry, ⟨l, k, xs, isRef, isInt, hT, two⟩ => by
    cases isRef; cases isInt; cases rx
    obtain ⟨t, rfl⟩ := ry
    obtain ⟨its, same, ⟨⟨cls, dd, data, sl⟩, at1, isTup, n, isSeq⟩, _⟩ := I.tuple hT
    cases isTup; cases isSeq
    have filled : xs ≠ [] → its.toArray.isEmpty = false := fun some1 => by
      cases its with
      | nil => cases same; exact absurd rfl some1
      | cons a b => rfl
    refine wpAny_binaryOp_repeat_ref (T := "tuple") (U := "int") (by decide) ⟨_, at1, rfl⟩ (fun s' => typeIs_int s' k t) noFill_tuple_mul F.fills_int_mul F.slot_int_rmul repeat_tuple F.slot_int_index.lookup ?_
    refine call_meets F.slot_int_rmul (typeIs_int s k t) F.entry_int_rmul (F.args_int_rmul_2 _ _) (int_rmul_tuple k t l its.toArray n dd sl) ⟨at1, rfl, ⟨_, at1, rfl⟩, ?_⟩
    refine call_meets F.slot_tuple_mul ⟨_, at1, rfl⟩ F.entry_tuple_mul (F.args_tuple_mul_2 _ _) (BBE.tup_mul01 l its.toArray n dd sl k t) ⟨at1, ?_⟩
    rcases two with ⟨one, q⟩ | ⟨⟨some1, low, least⟩, q⟩
    · exact .inl ⟨one, .ref l, H, I.tok _, rfl, q⟩
    · exact .inr ⟨⟨low, least, filled some1⟩, .ref s.heap.objs.size, _, I.laid (t' := s.toks) (o := .tup []) (fun _ _ e => Heap.get?_push_of_some _ e) (Nat.le_refl _) ⟨Nat.zero_le _, [], .nil, IsTup.new _ _⟩, rfl, q _ (I.hok.fresh (Nat.le_refl _))⟩
def rRepB (K : PySem.W.Frag) : R2 := fun x y H Q => ∃ l k xs, x = .ref l ∧ y = .int k ∧ SqT K H l xs ∧ (xs ≠ [] ∧ 2 ≤ k ∧ k ≤ 4000 ∧ xs.length ≤ 1000) ∧ ∀ p, H p = none → Q (.ref p) (upd H p (.tup (List.replicate k.toNat xs).flatten))
theorem op_repB : OpR X (binaryOp .Mult) (rRepB X.K)
  | pins, s, σ, H, _, _, _, _, Q, I, rx, ry, ⟨l, k, xs, isRef, isInt, hT, ⟨some1, low, high, few⟩, q⟩ => by
    cases isRef; cases isInt; cases rx
    obtain ⟨t, rfl⟩ := ry
    obtain ⟨its, same, ⟨⟨cls, dd, data, sl⟩, at1, isTup, n, isSeq⟩, _⟩ := I.tuple hT
    cases isTup; cases isSeq
    have len : its.toArray.size = xs.length := (show its.toArray.size = its.length by simp).trans same.length.symm
    have filled : its.toArray.isEmpty = false := by
      cases its with
      | nil => cases same; exact absurd rfl some1
      | cons a b => rfl
    have nat : k.toNat * xs.length ≤ 4000 * 1000 := Nat.mul_le_mul (by omega) few
    have all : ((its.toArray.size : Nat) : Int) * k ≤ 4000000 := by
      have e : k = ((k.toNat : Nat) : Int) := by omega
      have e2 : ((xs.length : Nat) : Int) * ((k.toNat : Nat) : Int) = ((k.toNat * xs.length : Nat) : Int) := by rw [Nat.mul_comm]; exact (Int.natCast_mul _ _).symm
      rw [len, e, e2]
      omega
    have fits : (List.replicate k.toNat xs).flatten.length ≤ sizeLine := by
      rw [PyProof.Rows.lm_len_rep_flat, sizeLine_eq]; omega
    have fits' : (List.replicate k.toNat its).flatten.length ≤ sizeLine := by
      rw [PyProof.Rows.lm_len_rep_flat, ← same.length, sizeLine_eq]; omega
    refine wpAny_binaryOp_repeat_ref (T := "tuple") (U := "int") (by decide) ⟨_, at1, rfl⟩ (fun s' => typeIs_int s' k t) noFill_tuple_mul F.fills_int_mul F.slot_int_rmul repeat_tuple F.slot_int_index.lookup ?_
    refine call_meets F.slot_int_rmul (typeIs_int s k t) F.entry_int_rmul (F.args_int_rmul_2 _ _) (int_rmul_tuple k t l its.toArray n dd sl) ⟨at1, rfl, ⟨_, at1, rfl⟩, ?_⟩
    refine call_meets F.slot_tuple_mul ⟨_, at1, rfl⟩ F.entry_tuple_mul (F.args_tuple_mul_2 _ _) (tuple_mulW l its.toArray n dd sl k t ?_ ?_ ?_ (by omega) ?_ (by rw [size_rep]; exact fits')) ⟨at1, ?_⟩
    · simp only [Bool.or_eq_false_iff, decide_eq_false_iff_not]; omega
    · simp only [filled, Bool.false_or, beq_eq_false_iff_ne]; omega
    · simp only [filled, Bool.or_false, decide_eq_false_iff_not]; omega
    · unfold Builtin.Tuple.tupleTooMany
      exact decide_eq_false (by rw [sizeLine_eq]; omega)
    · rw [size_rep]
      exact ⟨.ref s.heap.objs.size, _, I.laid (t' := s.toks) (o := .tup (List.replicate k.toNat xs).flatten) (fun _ _ e => Heap.get?_push_of_some _ e) (Nat.le_refl _) ⟨fits, _, same.rep k.toNat, IsTup.new _ _⟩, rfl, q _ (I.hok.fresh (Nat.le_refl _))⟩
abbrev rMulB (K : PySem.W.Frag) : R2 := fun x y H Q => rRep01 K x y H Q ∨ rRepB K x y H Q ∨ rMulA x y H Q
theorem op_mulB : OpR X (binaryOp .Mult) (rMulB X.K) := OpR.or op_rep01 (OpR.or op_repB op_mulA)
def mulE (M : Mem) : D → D → Option D
  | .tup xs, .int k => if xs ≠ [] ∧ -(2 ^ 63) ≤ k ∧ k ≤ 4000 ∧ xs.length ≤ 1000 then some (.tup (List.replicate k.toNat xs).flatten) else none
  | x, y => mulD M x y
theorem snd_mulE : SndR X (rMulB X.K) (rdO mulE) := by
  intro Δ I M H σ env G x y dx dy rx ry Q Qd k ⟨d, e, q⟩
  unfold mulE at e
  split at e
  · rename_i xs z
    by_cases h : xs ≠ [] ∧ -(2 ^ 63) ≤ z ∧ z ≤ 4000 ∧ xs.length ≤ 1000
    · rw [if_pos h] at e
      cases e
      obtain ⟨hne, h1, h2, h3⟩ := h
      obtain ⟨a, vs, rfl, h4, r1⟩ := rx.tup_inv
      rw [ry.int_inv]
      have hT := G.at_.sqT h4
      have hvs : vs ≠ [] := fun z => hne (by subst z; cases r1; rfl)
      by_cases e1 : z = 1
      · subst e1
        refine .inl ⟨a, 1, vs, rfl, rfl, hT, .inl ⟨rfl, k _ _ _ _ _ (Ext.refl I) G ?_ q⟩⟩
        have : (List.replicate (Int.toNat 1) xs).flatten = xs := by simp
        rw [this]
        exact .tup h4 r1
      · by_cases e2 : z ≤ 0
        · refine .inl ⟨a, z, vs, rfl, rfl, hT, .inr ⟨⟨hvs, e2, h1⟩, fun p hp => ?_⟩⟩
          obtain ⟨x2, G2⟩ := G.newI hp (.tup [])
          have : z.toNat = 0 := by omega
          rw [this] at q
          exact k _ _ _ _ _ x2 G2 (.tup (.inl (.inl upd_same)) .nil) q
        · refine .inr (.inl ⟨a, z, vs, rfl, rfl, hT, ⟨hvs, by omega, h2, by rw [r1.length]; exact h3⟩, fun p hp => ?_⟩)
          obtain ⟨x2, G2⟩ := G.newI hp (.tup (List.replicate z.toNat vs).flatten)
          exact k _ _ _ _ _ x2 G2 (.tup (.inl (.inl upd_same)) ((r1.rep z.toNat).ext x2)) q
    · rw [if_neg h] at e; cases e
  · exact .inr (.inr (snd_mul Δ I M H σ env G x y dx dy rx ry Q Qd k ⟨d, e, q⟩))
end
def dN (de : DE) : DE := fun env M Q => de env M fun d M1 => Q (nrm d) M1
section
variable {X : Cx} {Δ : DC} {e a b c o : Expr} {de da db dc : DE} {dt du : DT} {pos p apos cpos : Pos} {es : List Expr}
variable {ta tb tc te to ti : TE} {t1 t2 : TT} {tl : TA} {dl : DA} {x : Str}
theorem pd_nrm (h : PDe X Δ e te de) : PDe X Δ e te (dN de) := ⟨h.1, fun I M H σ env G Q Qd k q => h.2 I M H σ env G _ _ (fun d M1 I1 H1 v x1 G1 r1 q1 => k _ _ _ _ _ x1 G1 r1.nrm q1) q⟩
def rTupN (K : PySem.W.Frag) : List V → Hp → VK → Prop := fun xs H Q => ∃ p ys, xs = [.ref p] ∧ SqL K H p ys ∧ ∀ l (ob : Obj), H l = none → ob.cls = .type "tuple" → ob.dict = none → Q (.ref l) (upd H l (.frz ob (.tup ys)))
theorem call_tupN : CallR X (.type "tuple") (rTupN X.K)
  | pins, s, σ, H, _, _, Q, I, .cons rx .nil, ⟨p, ys, one, hq, q⟩ => by
    cases one; cases rx
    obtain ⟨its, same, isLst, few⟩ := I.list hq
    refine call_tuple_list isLst.isList (fun h' kp => ?_) ?_
    · have J : Inv X pins σ H { s with heap := h' } := I.kept (t' := s.toks) kp
      let ob : Obj := { cls := .type "tuple", data := .seq its.toArray }
      have new : ObjOk X.prog X.w (upd H h'.objs.size (.frz ob (.tup ys))) (h'.push ob) h'.objs.size (.frz ob (.tup ys)) := ⟨Heap.get?_push_size _ rfl, few, its, same, IsTup.new _ _⟩
      exact ⟨.ref h'.objs.size, _, J.laid (t' := s.toks) (fun _ _ e => Heap.get?_push_of_some _ e) (Nat.le_refl _) new, rfl, q _ _ (J.hok.fresh (Nat.le_refl _)) rfl rfl⟩
    · have := same.length
      simp only [List.size_toArray] <;> omega
def rdTupN : RDC := fun ds M Q => ∃ x, ds = [x] ∧ ∃ xs, lstOf M x = some xs ∧ Q (.ntup xs) M
theorem snd_tupN : SndC X (rTupN X.K) rdTupN := by
  intro Δ I M H σ env G vs ds r Q Qd k ⟨x, e, xs, e2, q⟩
  subst e
  obtain ⟨v, rfl, rv⟩ := r.one_inv
  obtain ⟨a, us, rfl, h1, h2⟩ := lst_of G.at_ rv e2
  refine ⟨a, us, rfl, .inl (.inl h1), fun l ob hl hc hd => ?_⟩
  obtain ⟨x2, G2⟩ := G.newI hl (.frz ob (.tup us))
  exact k _ _ _ _ _ x2 G2 (.ntup upd_same hc hd (h2.ext x2)) q
abbrev AsOne (X : Cx) (o : Expr) (m : Str) (apos cpos : Pos) (e : Expr) : Prop := attributeBase o m X.env (eval o X.env) = eval o X.env ∧ (apos.endLine == cpos.line) = true ∧ backTo cpos (starEach [e] X.env) = [(false, eval e X.env)] ∧
  ((backTo cpos (starEach [e] X.env)).all (fun x => !x.1) && (backToKw cpos (keywordEach [] X.env)).all (fun x => x.1.isSome) && decide ([e].length + ([] : List Keyword).length + (if ([] : List Keyword).isEmpty then 0 else 1) < 30)) = true
def tTupIx (K : PySem.W.Frag) (to te : TE) : TE := fun σ H Q => to σ H fun x H1 => ∃ p ob ys0, x = .ref p ∧ H1 p = some (.frz ob (.tup ys0)) ∧ ob.cls = .type "tuple" ∧ ob.dict = none ∧ te σ H1 fun y H2 =>
  ∃ ys : List Str, ∃ z j, y = .str z ∧ SqT K H2 p (ys.map V.str) ∧ ys[j]? = some z ∧ (∀ m, m < j → ys[m]? ≠ some z) ∧ Q (.int (j : Nat)) H2
theorem pe_tupIx (ho : PE X o to) (ha : PE X e te)
    (read : AsOne X o "index" apos cpos e := by exact ⟨rfl, rfl, rfl, rfl⟩) : PE X (.Call (.Attribute o "index" apos) [e] [] cpos) (tTupIx X.K to te) := by
  constructor
  intro pins s σ H Q I h
  have h1 := ho.run pins s σ H _ I h
  refine wpAny_Call_method_late read.1 read.2.2.2 read.2.1 read.2.2.1 (thn h1 fun v s1 q1 => ?_)
  obtain ⟨x, H1, I1, r1, p, ob, ys0, ex, hp, hc, hd, q1⟩ := q1
  subst ex
  cases r1
  have hob : s1.heap.get? p = some ob := (I1.hok p _ hp).1
  refine ⟨"tuple", "tuple.index", F.plainAttrs_tuple, F.slot_tuple_index, F.type_tuple_index, ⟨ob, hob, hc⟩, fun a ea => ⟨ob, by cases ea; exact hob, hd⟩, ?_⟩
  refine Calls.callWith_builtin rfl (Calls.evalArgs_plain (Calls.spliced_cons ?_))
  refine thn (ha.run pins s1 σ H1 _ I1 q1) fun u s2 q2 => ?_
  obtain ⟨y, H2, I2, r2, ys, z, j, ey, hT, hy, hno, q2⟩ := q2
  subst ey
  exact Calls.spliced_nil (mt_tup_index pins s2 σ H2 (.ref p) [.str z] (.ref p) [u] Q I2 rfl (.cons r2 .nil) ⟨p, ys, z, j, rfl, rfl, hT, hy, hno, q2⟩)
def ixOf (z : Str) : List Str → Nat
  | [] => 0
  | y :: ys => if y = z then 0 else ixOf z ys + 1
theorem ixOf_lt {z : Str} : ∀ {ys : List Str}, z ∈ ys → ixOf z ys < ys.length
  | y :: ys, h => by
    unfold ixOf
    by_cases e : y = z
    · rw [if_pos e]; simp
    · rw [if_neg e, List.length_cons]
      have : z ∈ ys := by
        rcases List.mem_cons.mp h with h | h
        · exact absurd h.symm e
        · exact h
      exact Nat.succ_lt_succ (ixOf_lt this)
theorem ixOf_get {z : Str} : ∀ {ys : List Str}, z ∈ ys → ys[ixOf z ys]? = some z
  | y :: ys, h => by
    unfold ixOf
    by_cases e : y = z
    · rw [if_pos e]; simp [e]
    · rw [if_neg e, List.getElem?_cons_succ]
      have : z ∈ ys := by
        rcases List.mem_cons.mp h with h | h
        · exact absurd h.symm e
        · exact h
      exact ixOf_get this
theorem ixOf_no {z : Str} : ∀ {ys : List Str} {m : Nat}, m < ixOf z ys → ys[m]? ≠ some z
  | [], m, h => by simp
  | y :: ys, 0, h => by
    unfold ixOf at h
    by_cases e : y = z
    · rw [if_pos e] at h; omega
    · simpa using e
  | y :: ys, m + 1, h => by
    unfold ixOf at h
    by_cases e : y = z
    · rw [if_pos e] at h; omega
    · rw [if_neg e] at h
      rw [List.getElem?_cons_succ]
      exact ixOf_no (by omega)
def dTupIx (da de : DE) : DE := fun env M Q => da env M fun x M1 => ∃ ys : List Str, x = .ntup (ys.map .str) ∧ de env M1 fun y M2 => ∃ z, y = .str z ∧ z ∈ ys ∧ Q (.int (ixOf z ys : Nat)) M2
theorem pd_tupIx (ho : PDe X Δ o to da) (ha : PDe X Δ e te de)
    (read : AsOne X o "index" apos cpos e := by exact ⟨rfl, rfl, rfl, rfl⟩) : PDe X Δ (.Call (.Attribute o "index" apos) [e] [] cpos) (tTupIx X.K to te) (dTupIx da de) :=
  ⟨pe_tupIx ho.1 ha.1 read, fun I M H σ env G Q Qd k q => ho.2 I M H σ env G _ _ (fun d M1 I1 H1 v x1 G1 r1 q1 => by
    obtain ⟨ys, e1, q1⟩ := q1
    subst e1
    obtain ⟨a, ob, vs, rfl, h1, hc, hd, rs⟩ := r1.ntup_inv
    have hv := rs.strs
    subst hv
    refine ⟨a, ob, _, rfl, G1.at_.ex _ _ h1, hc, hd, ha.2 I1 M1 H1 σ env G1 _ _ (fun d2 M2 I2 H2 u x2 G2 r2 q2 => ?_) q1⟩
    obtain ⟨z, e2, hz, q2⟩ := q2
    subst e2
    exact ⟨ys, z, ixOf z ys, r2.str_inv, .inl (.inr ⟨ob, G2.at_.ex _ _ (x2.frzT h1)⟩), ixOf_get hz, fun m hm => ixOf_no hm, k _ _ _ _ _ (x1.trans x2) G2 (.int _) q2⟩) q⟩
def tyD (M : Mem) : D → Option String
  | .non => some "NoneType"
  | .bl _ => some "bool"
  | .int _ => some "int"
  | .str _ => some "str"
  | .tup _ => some "tuple"
  | .ntup _ => some "tuple"
  | .htup _ => some "tuple"
  | .lst _ => some "list"
  | .frz _ => some "list"
  | .dK _ => some "dict"
  | .ref p => match M p with
    | .some (.lst _) => some "list"
    | some (.dK _) => some "dict"
    | some (.dT _) => some "dict"
    | _ => none
  | _ => none
theorem sqT_ty {K : PySem.W.Frag} {H : Hp} {a : Addr} {xs : List V} (h : SqT K H a xs) : TyX K H (.ref a) (.type "tuple") := by
  rcases h with (h | ⟨o, h⟩) | ⟨o, its, n, h, hc, _⟩
  · exact .base (.tup h)
  · exact .fTuple h
  · exact .kTuple h hc
theorem sqL_ty {K : PySem.W.Frag} {H : Hp} {a : Addr} {xs : List V} (h : SqL K H a xs) : TyX K H (.ref a) (.type "list") := by
  rcases h with (h | ⟨o, h⟩) | ⟨o, its, n, h, hc, _⟩
  · exact .base (.lst h)
  · exact .base (.frz h)
  · exact .kList h hc
theorem ty_of {K : PySem.W.Frag} {F I H : Hp} {M : Mem} (A : At K F I M H) {v : V} {d : D} {T : String} (r : Rp K I v d) (h : tyD M d = some T) : TyX K H v (.type T) := by
  cases d with
  | non => cases h; rw [r.non_inv]; exact .base .non
  | bl b => cases h; rw [r.bl_inv]; exact .base (.bl b)
  | int b => cases h; rw [r.int_inv]; exact .base (.int b)
  | str b => cases h; rw [r.str_inv]; exact .base (.str b)
  | tup xs => cases h; obtain ⟨a, vs, rfl, h1, h2⟩ := r.tup_inv; exact sqT_ty (A.sqT h1)
  | ntup xs => cases h; obtain ⟨a, ob, vs, rfl, h1, _⟩ := r.ntup_inv; exact .fTuple (A.ex _ _ h1)
  | htup xs => cases h; obtain ⟨a, vs, rfl, h1, _⟩ := r.htup_inv; exact sqT_ty (A.sqT (.inl (.inl h1)))
  | lst xs => cases h; obtain ⟨a, vs, rfl, h1, h2⟩ := r.lst_inv; exact .base (.lst (A.ex _ _ h1))
  | frz xs => cases h; obtain ⟨a, vs, rfl, h1, h2⟩ := r.frz_inv; exact sqL_ty (A.sqL h1)
  | dK xs =>
    cases h
    cases r with
    | dK h1 e1 h2 =>
      rename_i o kvs
      have e2 : o = .dK kvs ∨ ∃ ob, o = .frz ob (.dK kvs) := by
        unfold strip at e1
        split at e1
        · cases e1; exact .inr ⟨_, rfl⟩
        · cases e1
        · exact .inl e1
      rcases e2 with rfl | ⟨ob, rfl⟩
      · exact .base (.dK (A.ex _ _ h1))
      · exact .fDict (A.ex _ _ h1)
  | ref p =>
    rw [r.ref_inv]
    have h' : (match M p with | some (.lst _) => some "list" | some (.dK _) => some "dict" | some (.dT _) => some "dict" | _ => none) = some T := h
    split at h'
    · rename_i e; cases h'; obtain ⟨_, vs, h1, _⟩ := A.mem _ _ e; exact .base (.lst h1)
    · rename_i e; cases h'; obtain ⟨_, vs, h1, _⟩ := A.mem _ _ e; exact .base (.dK h1)
    · rename_i e; cases h'; obtain ⟨_, vs, h1, _⟩ := A.mem _ _ e; exact .base (.dT h1)
    · cases h'
  | _ => cases h
def rdIsi : RDC := fun ds M Q => ∃ x n, ds = [x, .ty n] ∧ ∃ T b, tyD M x = some T ∧ kitB T n = some b ∧ Q (.bl b) M
theorem snd_isi : SndC X (rIsi X.K) rdIsi := by
  intro Δ I M H σ env G vs ds r Q Qd k ⟨x, n, e, T, b, e1, e2, q⟩
  subst e
  obtain ⟨v, u, rfl, rv, ru⟩ := r.two_inv
  rw [ru.ty_inv]
  exact ⟨v, .ty n, .type T, .type n, b, rfl, .ty n, ty_of G.at_ rv e1, kit_ty e2, k _ _ _ _ _ (Ext.refl I) G (.bl b) q⟩
end
structure IsiC (K : PySem.W.Frag) (C : Addr) : Prop where
  cl : Cls K C
  atr : PySem.W.findIn K (.ref C) "__class__" = some (.some (.builtin "object.__class__"))
  got : PySem.W.specialIn K (.builtin "object.__class__") "__get__" = some (.some (.builtin "getset_descriptor.__get__"))
  tak : PySem.W.takesIn K (.builtin "object.__class__") = .some true
  all : PySem.W.mroIn K C (.type "object") = .some true
section
variable {X : Cx}
def rdIsiO (K : PySem.W.Frag) : RDC := fun ds M Q => ∃ x C, ds = [x, .ref C] ∧ ((∃ C' fs b, insOf M x = some (C', fs) ∧ IsiC K C' ∧ PySem.W.kitOne K (.ref C') (.ref C) = some b ∧ Q (.bl b) M) ∨
  ∃ T b, tyD M x = some T ∧ PySem.W.kitOne K (.type T) (.ref C) = some b ∧ Q (.bl b) M)
theorem snd_isiO : SndC X (rIsi X.K) (rdIsiO X.K) := by
  intro Δ I M H σ env G vs ds r Q Qd k ⟨x, C, e, q⟩
  subst e
  obtain ⟨v, u, rfl, rv, ru⟩ := r.two_inv
  rw [ru.ref_inv]
  rcases q with ⟨C', fs, b, e1, c, e2, q⟩ | ⟨T, b, e1, e2, q⟩
  · obtain ⟨a, dx, fvs, rfl, h1, _⟩ := ins_of G.at_ rv e1
    exact ⟨.ref a, .ref C, .ref C', .ref C, b, rfl, .own C, .base (.ins h1 c.cl c.atr c.got c.tak c.all), e2, k _ _ _ _ _ (Ext.refl I) G (.bl b) q⟩
  · exact ⟨v, .ref C, .type T, .ref C, b, rfl, .own C, ty_of G.at_ rv e1, e2, k _ _ _ _ _ (Ext.refl I) G (.bl b) q⟩
end
section
variable {X : Cx} {Δ : DC} {e a b c o : Expr} {de da db dc : DE} {pos p apos cpos : Pos} {es : List Expr} {ta tb tc te to ti : TE}
def dApp (da de : DE) : DE := fun env M Q => da env M fun x M1 => ∃ q xs0, x = .ref q ∧ M1 q = some (.lst xs0) ∧ de env M1 fun d M2 => ∃ xs, M2 q = some (.lst xs) ∧ xs.length < sizeLine ∧ Q .non (mset M2 q (.lst (xs ++ [d])))
theorem pd_app (ho : PDe X Δ o to da) (ha : PDe X Δ e te de)
    (walk : PE X o to → PE X e te → PE X (.Call (.Attribute o "append" apos) [e] [] cpos) (tBM X.K "list" rAppend to (tCons te tNil)) := by exact fun a b => pe_bm PySem.F.plainAttrs_list PySem.F.slot_list_append PySem.F.type_list_append mt_append a (pa_cons b pa_nil)) :
    PDe X Δ (.Call (.Attribute o "append" apos) [e] [] cpos) (tBM X.K "list" rAppend to (tCons te tNil)) (dApp da de) :=
  ⟨walk ho.1 ha.1, fun I M H σ env G Q Qd k q => ho.2 I M H σ env G _ _ (fun x M1 I1 H1 v x1 G1 r1 q1 => by
    obtain ⟨p, xs0, e1, m1, q1⟩ := q1
    subst e1
    rw [r1.ref_inv]
    obtain ⟨_, vs0, h0, _⟩ := G1.at_.mem _ _ m1
    refine ⟨.inl ⟨rfl, vs0, .inl (.inl h0)⟩, ha.2 I1 M1 H1 σ env G1 _ _ (fun d M2 I2 H2 u x2 G2 r2 q2 => ?_) q1⟩
    obtain ⟨xs, m2, hz, q2⟩ := q2
    obtain ⟨_, vs, h2, rs⟩ := G2.at_.mem _ _ m2
    exact ⟨p, vs, u, rfl, rfl, h2, by rw [rs.length]; exact hz, k _ _ _ _ _ (x1.trans x2) (G2.go (Ext.refl I2) (G2.at_.write (m' := .lst (xs ++ [d])) m2 (fun _ z => by cases z) ⟨_, upd_same, rs.append (.cons r2 .nil)⟩)) .non q2⟩) q⟩
def dJoin (da de : DE) : DE := fun env M Q => da env M fun x M1 => ∃ a, x = .str a ∧ de env M1 fun y M2 => ∃ ys : List Str, seqOf M2 y = some (ys.map .str) ∧ (ys.map (·.length)).sum + ys.length * a.length ≤ 16777216 ∧ Q (.str (Txt.join a ys)) M2
abbrev rJn (K : PySem.W.Frag) : V → List V → Hp → VK → Prop := fun x xs H Q => ∃ a p, ∃ ys : List Str, x = .str a ∧ xs = [.ref p] ∧ (SqL K H p (ys.map V.str) ∨ SqT K H p (ys.map V.str)) ∧ (ys.map (·.length)).sum + ys.length * a.length ≤ 16777216 ∧ Q (.str (Txt.join a ys)) H
theorem pd_join (ho : PDe X Δ o to da) (he : PDe X Δ e te de) (hs : starEach [e] X.env = [(false, eval e X.env)] := by rfl) (hbase : attributeBase o "join" X.env (eval o X.env) = eval o X.env := by rfl) (hline : (apos.endLine == cpos.line) = true := by rfl) :
    PDe X Δ (.Call (.Attribute o "join" apos) [e] [] cpos) (tM1 (rJn X.K) to te) (dJoin da de) :=
  ⟨pe_join ho.1 he.1 hs hbase hline, fun I M H σ env G Q Qd k q => ho.2 I M H σ env G _ _ (fun x M1 I1 H1 v x1 G1 r1 q1 => by
    obtain ⟨a, e1, q1⟩ := q1
    subst e1
    rw [r1.str_inv]
    refine ⟨⟨a, rfl⟩, he.2 I1 M1 H1 σ env G1 _ _ (fun y M2 I2 H2 u x2 G2 r2 q2 => ?_) q1⟩
    obtain ⟨ys, e2, hz, q2⟩ := q2
    obtain ⟨p, vs, rfl, h1, h2⟩ := seq_of G2.at_ r2 e2
    have hv := h2.strs
    subst hv
    exact ⟨a, p, ys, rfl, rfl, h1, hz, k _ _ _ _ _ (x1.trans x2) G2 (.str _) q2⟩) q⟩
end
end BB
set_option maxHeartbeats 4000000
namespace BB
open L2 PySem PySem.Spec PyProof.Rows
def fixOf : D → Option (List D)
  | .tup xs => some xs
  | .ntup xs => some xs
  | .lst xs => some xs
  | .frz xs => some xs
  | _ => none
def sqI (t : Bool) (K : PySem.W.Frag) (I : Hp) (a : Addr) (vs : List V) : Prop := match t with
  | true => SqT K I a vs
  | false => SqL K I a vs
theorem sqI_at {K : PySem.W.Frag} {F I J H : Hp} {M : Mem} {t : Bool} {a : Addr} {vs : List V} (h : sqI t K I a vs) (x : Ext I J) (A : At K F J M H) : sqAt t K H a vs := by
  cases t with
  | true => exact A.sqT (x.sqT h)
  | false => exact A.sqL (x.sqL h)
theorem fix_of {K : PySem.W.Frag} {I : Hp} {v : V} {d : D} {xs : List D} (r : Rp K I v d) (h : fixOf d = some xs) : ∃ t a vs, v = .ref a ∧ sqI t K I a vs ∧ Rps K I vs xs := by
  cases d with
  | tup ys => cases h; obtain ⟨a, vs, rfl, h1, h2⟩ := r.tup_inv; exact ⟨true, a, vs, rfl, h1, h2⟩
  | ntup ys => cases h; obtain ⟨a, ob, vs, rfl, h1, _, _, h2⟩ := r.ntup_inv; exact ⟨true, a, vs, rfl, .inl (.inr ⟨ob, h1⟩), h2⟩
  | lst ys => cases h; obtain ⟨a, vs, rfl, h1, h2⟩ := r.lst_inv; exact ⟨false, a, vs, rfl, .inl (.inl h1), h2⟩
  | frz ys => cases h; obtain ⟨a, vs, rfl, h1, h2⟩ := r.frz_inv; exact ⟨false, a, vs, rfl, h1, h2⟩
  | _ => cases h
theorem Rps.getD {K : PySem.W.Frag} {I : Hp} {vs : List V} {ds : List D} (r : Rps K I vs ds) {i : Nat} (h : i < ds.length) : Rp K I (vs.getD i .non) (ds.getD i .non) := by
  obtain ⟨v, hv, rv⟩ := r.get (i := i) (d := ds[i]) (by simp [h])
  rw [List.getD_eq_getElem?_getD, hv, List.getD_eq_getElem?_getD]
  rw [show ds[i]? = some ds[i] by simp [h]]
  exact rv
def rowsD (n : Nat) (f : Nat → List D) : List D := (List.range n).map fun i => .tup (f i)
theorem rowsD_len {n : Nat} {f : Nat → List D} : (rowsD n f).length = n := by simp [rowsD]
theorem rowsD_get {n : Nat} {f : Nat → List D} {i : Nat} {d : D} (h : (rowsD n f)[i]? = some d) : i < n ∧ d = .tup (f i) := by
  have hlt : i < n := by
    have := (List.getElem?_eq_some_iff.mp h).1
    rwa [rowsD_len] at this
  refine ⟨hlt, ?_⟩
  simp only [rowsD, List.getElem?_map, List.getElem?_range hlt] at h
  simpa using h.symm
theorem rows_ok {K : PySem.W.Frag} {I1 : Hp} {side : Hp → Prop} {n : Nat} {row : Nat → List V} {f : Nat → List D} (hs : ∀ F I M H, Ext I1 I → At K F I M H → side H) (hr : ∀ i, i < n → Rps K I1 (row i) (f i)) :
    ItOk K I1 (ItR side n row) (rowsD n f) (fun _ => True) := by
  refine ⟨fun F i I M H x A _ hi => ⟨hs F I M H x A, by rwa [rowsD_len] at hi⟩, fun F I M H x A _ => ⟨hs F I M H x A, rowsD_len⟩, fun F i d x' I M H H' x A _ hd y => ?_⟩
  obtain ⟨hlt, e⟩ := rowsD_get hd
  obtain ⟨T, rfl, hT, rfl⟩ := y
  subst e
  have hI := A.freeI hT
  exact ⟨upd I T (.tup (row i)), Ext.new hI, A.newI hT _, .tup (.inl (.inl upd_same)) ((hr i hlt).ext (x.trans (Ext.new hI)))⟩
section
variable {X : Cx} {Δ : DC} {e e1 e2 e3 : Expr} {pos p tpos : Pos} {elts : List Expr} {kk : Nat} {tl : TA} {dl : DA}
def enumD (xs : List D) : List D := rowsD xs.length fun i => [.int (i : Nat), xs.getD i .non]
def zip2D (xs ys : List D) : List D := rowsD (min xs.length ys.length) fun i => [xs.getD i .non, ys.getD i .non]
def dEnum (dl : DA) : DI := fun env M R => dl env M fun ds M1 => ∃ x xs, ds = [x] ∧ fixOf x = some xs ∧ R (enumD xs) (fun _ => True) M1
theorem pdi_enum (hg : Gl X "enumerate") (hm : X.mg "enumerate" = none) (ha : PDa X Δ [e] tl dl) (hs : starEach [e] X.env = [(false, eval e X.env)] := by rfl) :
    PDi X Δ (.Tuple elts kk tpos) (.Call (.Name "enumerate" p) [e] [] pos) (iEnumA X.K tl) (dEnum dl) :=
  ⟨pi_enumA hg hm ha.1 hs, fun I M H σ env G R Rd k q => ha.2 I M H σ env G _ _ (fun ds M1 I1 H1 vs x1 G1 r1 q1 => by
    obtain ⟨x, xs, e1, e2, q1⟩ := q1
    subst e1
    obtain ⟨v, rfl, rv⟩ := r1.one_inv
    obtain ⟨t, a, us, rfl, h1, h2⟩ := fix_of rv e2
    refine ⟨t, a, us, rfl, sqI_at h1 (Ext.refl I1) G1.at_, k _ _ M1 _ I1 H1 x1 G1 ?_ q1⟩
    have hl := h2.length
    rw [hl]
    exact rows_ok (fun F I M H x A => sqI_at h1 x A) fun i hi => .cons (.int _) (.cons (h2.getD hi) .nil)) q⟩
def dZip2 (dl : DA) : DI := fun env M R => dl env M fun ds M1 => ∃ x y xs ys, ds = [x, y] ∧ fixOf x = some xs ∧ fixOf y = some ys ∧ R (zip2D xs ys) (fun _ => True) M1
theorem pdi_zip2 (hg : Gl X "zip") (hm : X.mg "zip" = none) (ha : PDa X Δ [e1, e2] tl dl)
    (hs : starEach [e1, e2] X.env = (false, eval e1 X.env) :: starEach [e2] X.env := by rfl) (hpl : (backTo pos (starEach [e2] X.env)).any (·.1) = false := by rfl) :
    PDi X Δ (.Tuple elts kk tpos) (.Call (.Name "zip" p) [e1, e2] [] pos) (iZip2A X.K tl) (dZip2 dl) :=
  ⟨pi_zip2A hg hm ha.1 hs hpl, fun I M H σ env G R Rd k q => ha.2 I M H σ env G _ _ (fun ds M1 I1 H1 vs x1 G1 r1 q1 => by
    obtain ⟨x, y, xs, ys, e1, e2, e3, q1⟩ := q1
    subst e1
    obtain ⟨v, u, rfl, rv, ru⟩ := r1.two_inv
    obtain ⟨t1, a1, us1, rfl, h1, h2⟩ := fix_of rv e2
    obtain ⟨t2, a2, us2, rfl, h3, h4⟩ := fix_of ru e3
    refine ⟨t1, t2, a1, a2, us1, us2, rfl, sqI_at h1 (Ext.refl I1) G1.at_, sqI_at h3 (Ext.refl I1) G1.at_, k _ _ M1 _ I1 H1 x1 G1 ?_ q1⟩
    rw [h2.length, h4.length]
    exact rows_ok (fun F I M H x A => ⟨sqI_at h1 x A, sqI_at h3 x A⟩) fun i hi => .cons (h2.getD (by omega)) (.cons (h4.getD (by omega)) .nil)) q⟩
end
end BB
set_option maxHeartbeats 4000000
namespace BB
open L2 PySem PySem.Spec PyProof.Rows
abbrev DC.try_ (Δ : DC) (I0 : Hp) (W : WX) (Wd : DW) : DC := { F := Δ.F, I0 := I0, W := W, Wd := Wd }
abbrev noW : WX := fun _ _ _ _ => False
abbrev noD : DW := fun _ _ _ _ => False
section
variable {X : Cx} {Δ : DC} {x n : Str} {c : Value} {i : Nat} {body suite : List Stmt} {b₀ : Stmt} {np pos pos' : Pos} {tb : WX → TS} {db : DW → DS} {ts : Addr → Value → Option Addr → TS} {us : Addr → Value → List (Str × D) → DS}
theorem some_xe (hs : X.stack = X.env :: X.outer) (hf : X.env.frame = some X.env.locals) (hex : X.ex = []) (W : WX) : ∃ xe, Takes (X.tr X.pn xe) W ∧ PassesOwn (model X.prog X.w) X.A X.env xe := by
  obtain ⟨xe, e⟩ : ∃ xe, xe = fun e s' => wpAny (model X.prog X.w) X.A (leaving X.env e) (fun _ s'' => CX X.prog X.w X.outer X.H_0 X.s_0 (fun cls d H => ∃ σ, W cls d σ H) e s'') (fun _ _ => True) s' := ⟨_, rfl⟩
  refine ⟨xe, ?_, passes_of (X := X.tr X.pn xe) (E₁ := fun _ _ => True) e⟩
  have t := takes_of (X := X.tr X.pn xe) (E := fun cls d H => ∃ σ, W cls d σ H) (E₁ := fun _ _ => True) hs hf hex e
  exact t.imp fun _ _ σ _ h => ⟨σ, h⟩
theorem exc_some (K : PySem.W.Frag) (d : Option Addr) : ∃ I fs, ExcR K I fs d := by
  cases d with
  | none => exact ⟨fun _ => none, [], rfl⟩
  | some dd => exact ⟨fun a => if a = dd then some (.xd []) else none, [], [], if_pos rfl, .nil⟩
abbrev SuiteOk (X : Cx) (Δ : DC) (suite : List Stmt) (ts : Addr → Value → Option Addr → TS) (us : Addr → Value → List (Str × D) → DS) : Prop :=
  ∀ (a : Addr) (oe : Obj) (cls : Value) (d : Option Addr) (pn : List (Addr × Obj)) (I0 : Hp) (fs : List (Str × D)), Zc cls d oe → (∃ vs, oe.data = .fields vs) → ExcR X.K I0 fs d → PDss (X.suite a ((a, oe) :: pn)) (Δ.try_ I0 noW noD) suite (ts a cls d) (us a cls fs)
abbrev BodyOk (X : Cx) (Δ : DC) (body : List Stmt) (tb : WX → TS) (db : DW → DS) : Prop :=
  ∀ (I0 : Hp) (W : WX) (Wd : DW) (pn : List (Addr × Obj)) (xe : Value → Shared → Prop), Ext Δ.I0 I0 → XOk (X.tr pn xe) (Δ.try_ I0 W Wd) → PassesOwn (model X.prog X.w) X.A X.env xe → PDss (X.tr pn xe) (Δ.try_ I0 W Wd) body (tb W) (db Wd)
theorem suite_run (hsu : SuiteOk X Δ suite ts us) {cls : Value} {d : Option Addr} {fs : List (Str × D)} {I I' H' : Hp} {M' : Mem} {σ' : L2.St} {env' : Env} {a : Addr} (x : Ext I I') (G : Gd X.K Δ I' M' H' σ' env') (er : ExcR X.K I' fs d) {T : Ends} {Td : EndsD} (R : EndsR X Δ I T Td)
    (h : us a cls fs Td env' M') : ts a cls d T σ' H' := by
  have oe : ∃ oe : Obj, Zc cls d oe ∧ ∃ vs, oe.data = .fields vs := ⟨{ cls := cls, dict := d, data := .fields #[] }, ⟨rfl, rfl⟩, _, rfl⟩
  obtain ⟨oe, hz, hf⟩ := oe
  refine (hsu a oe cls d [] I' fs hz hf er).2 I' M' H' σ' env' ⟨Ext.refl I', G.at_, G.env⟩ T Td ⟨fun env M I2 H2 σ2 x2 G2 q => ?_, fun env M I2 H2 σ2 x2 G2 q => ?_, fun env M I2 H2 σ2 x2 G2 q => ?_, fun d M I2 H2 v x2 b2 A2 r2 q => ?_⟩ h
  · exact R.nx _ _ _ _ _ (x.trans x2) ⟨G.base.trans x2, G2.at_, G2.env⟩ q
  · exact R.bk _ _ _ _ _ (x.trans x2) ⟨G.base.trans x2, G2.at_, G2.env⟩ q
  · exact R.ct _ _ _ _ _ (x.trans x2) ⟨G.base.trans x2, G2.at_, G2.env⟩ q
  · exact R.rt _ _ _ _ _ (x.trans x2) (G.base.trans x2) A2 r2 q
theorem body_run (hs : X.stack = X.env :: X.outer) (hf : X.env.frame = some X.env.locals) (hex : X.ex = []) (hb : BodyOk X Δ body tb db) {W : WX} {Wd : DW} {I H : Hp} {M : Mem} {σ : L2.St} {env : Env} (G : Gd X.K Δ I M H σ env)
    (link : ∀ {I' M' H' σ' env' c fs d}, Ext I I' → Gd X.K Δ I' M' H' σ' env' → ExcR X.K I' fs d → Wd c fs env' M' → W c d σ' H') {T : Ends} {Td : EndsD} (R : EndsR X Δ I T Td) (h : db Wd Td env M) : tb W T σ H := by
  obtain ⟨xe, tk, po⟩ := some_xe hs hf hex W
  refine (hb I W Wd X.pn xe G.base ⟨tk, fun {I' M' H' σ' env' c fs d} G' er w => link G'.base ⟨G.base.trans G'.base, G'.at_, G'.env⟩ er w⟩ po).2 I M H σ env ⟨Ext.refl I, G.at_, G.env⟩ T Td ⟨fun env M I2 H2 σ2 x2 G2 q => ?_, fun env M I2 H2 σ2 x2 G2 q => ?_, fun env M I2 H2 σ2 x2 G2 q => ?_, fun d M I2 H2 v x2 b2 A2 r2 q => ?_⟩ h
  · exact R.nx _ _ _ _ _ x2 ⟨G.base.trans x2, G2.at_, G2.env⟩ q
  · exact R.bk _ _ _ _ _ x2 ⟨G.base.trans x2, G2.at_, G2.env⟩ q
  · exact R.ct _ _ _ _ _ x2 ⟨G.base.trans x2, G2.at_, G2.env⟩ q
  · exact R.rt _ _ _ _ _ x2 (G.base.trans x2) A2 r2 q
end
end BB
set_option maxHeartbeats 4000000
namespace BB
open L2 PySem PySem.Spec PyProof.Rows
def oexB (K : PySem.W.Frag) (C : Addr) : Bool := (match K.lookup C with
  | some ⟨.type c, _, .cls cd, sl⟩ => (match cd.mro, sl.toList with
    | .ref C' :: bm, [_, _, _, _, some (.builtin n), _] => decide (c = "type") && (decide (C' = C) && (decide (n = "ValueError.__new__") && (cd.hasDict && (!cd.hasDel && PySem.HandSPX.refsVE bm))))
    | _, _ => false)
  | _ => false) && (He.eqO (PySem.W.findIn K (.ref C) "__setattr__") (some (some (.builtin "object.__setattr__"))) && (decide (PySem.W.subIn K (.ref C) (.type "BaseException") = some true) &&
    (decide (PySem.W.typeIn K (.ref C) = some (.type "type")) && PySem.W.keepIn K (.ref C))))
theorem oexB_ok {K : PySem.W.Frag} {C : Addr} (h : oexB K C = true) : OexC K C := by
  obtain ⟨h1, h⟩ := He.ba h
  obtain ⟨h2, h⟩ := He.ba h
  obtain ⟨h3, h⟩ := He.ba h
  obtain ⟨h4, h5⟩ := He.ba h
  refine ⟨?_, He.eqO_ok h2, of_decide_eq_true h3, of_decide_eq_true h4, h5⟩
  split at h1
  · rename_i c dd cd sl ho
    split at h1
    · rename_i C' bm k0 k1 k2 k3 n k5 hm hs
      obtain ⟨e1, h1⟩ := He.ba h1
      obtain ⟨e2, h1⟩ := He.ba h1
      obtain ⟨e3, h1⟩ := He.ba h1
      obtain ⟨e4, h1⟩ := He.ba h1
      obtain ⟨e5, e6⟩ := He.ba h1
      have e1 := of_decide_eq_true e1
      have e2 := of_decide_eq_true e2
      have e3 := of_decide_eq_true e3
      subst e1 e2 e3
      obtain ⟨nm, bs, mro, ns, qn, hd, sn, sub, ab, col, del⟩ := cd
      dsimp only at hm e4 e5
      subst hm e4
      have e5 : del = false := by simpa using e5
      subst e5
      have hsl : sl = #[k0, k1, k2, k3, some (.builtin "ValueError.__new__"), k5] := by
        obtain ⟨l⟩ := sl
        simp only at hs
        rw [hs]
      subst hsl
      exact ⟨_, _, _, _, _, _, _, _, _, _, _, _, _, _, _, ho, e6⟩
    · cases h1
  · cases h1
inductive Bf where
  | oex (x : Str) | xf (x : Str) | isi (x : Str)
  | fnty (x m : Str)
  | kit (x y : Str) (b : Bool)
  | kitT (T : String) (x : Str) (b : Bool)
  | kitB (x : Str) (T : String) (b : Bool)
  | mthd (x m : Str)
  | bme (x m : Str) (id : String)
  | all (x : Str)
  | tne (x y : Str)
  | tups (x : Str) (zs : List Str)
def strsV : List Str → List Value → Bool
  | [], [] => true
  | z :: zs, .str w _ :: vs => decide (z = w) && strsV zs vs
  | _, _ => false
def tupsB (K : PySem.W.Frag) (a : Addr) (zs : List Str) : Bool := match K.lookup a with
  | some ⟨c, _, .seq its _, _⟩ => decide (c = .type "tuple") && (decide (its.size ≤ 1000) && strsV zs its.toList)
  | _ => false
def Bf.ok (K : PySem.W.Frag) : Bf → Bool
  | .oex x => oexB K (He.ga K x)
  | .xf x => xfB K (He.ga K x)
  | .isi x => He.eqO (PySem.W.findIn K (.ref (He.ga K x)) "__class__") (some (some (.builtin "object.__class__"))) && (He.eqO (PySem.W.specialIn K (.builtin "object.__class__") "__get__") (some (some (.builtin "getset_descriptor.__get__"))) &&
      (decide (PySem.W.takesIn K (.builtin "object.__class__") = some true) && decide (PySem.W.mroIn K (He.ga K x) (.type "object") = some true)))
  | .fnty x m => decide (PySem.W.typeIn K (.ref (He.ma K (He.ga K x) m)) = some (.type "function"))
  | .kit x y b => decide (PySem.W.kitOne K (.ref (He.ga K x)) (.ref (He.ga K y)) = some b)
  | .kitT T x b => decide (PySem.W.kitOne K (.type T) (.ref (He.ga K x)) = some b)
  | .kitB x T b => decide (PySem.W.kitOne K (.ref (He.ga K x)) (.type T) = some b)
  | .mthd x m => He.eqO (PySem.W.findIn K (.ref (He.ga K x)) m) (some (some (.ref (He.ma K (He.ga K x) m))))
  | .bme x m id => He.eqO (PySem.W.findIn K (.ref (He.ga K x)) m) (some (some (.builtin id)))
  | .all x => decide (PySem.W.mroIn K (He.ga K x) (.type "object") = some true)
  | .tne x y => !decide ((He.cT K (x, none)).2 = (He.cT K (y, none)).2)
  | .tups x zs => tupsB K (He.ga K x) zs
section
variable {K : PySem.W.Frag} {x y m : Str} {T : String} {b : Bool}
theorem oex_ok (c : (Bf.oex x).ok K = true) : OexC K (He.ga K x) := oexB_ok c
theorem xf_ok (c : (Bf.xf x).ok K = true) : XfC K (He.ga K x) := xfB_ok c
theorem fnty_ok (c : (Bf.fnty x m).ok K = true) : PySem.W.typeIn K (.ref (He.ma K (He.ga K x) m)) = some (.type "function") := of_decide_eq_true c
theorem kit_ok (c : (Bf.kit x y b).ok K = true) : PySem.W.kitOne K (.ref (He.ga K x)) (.ref (He.ga K y)) = some b := of_decide_eq_true c
theorem kitB_ok (c : (Bf.kitB x T b).ok K = true) : PySem.W.kitOne K (.ref (He.ga K x)) (.type T) = some b := of_decide_eq_true c
theorem mthd_ok (c : (Bf.mthd x m).ok K = true) : PySem.W.findIn K (.ref (He.ga K x)) m = some (some (.ref (He.ma K (He.ga K x) m))) := He.eqO_ok c
end
def exB (fs : List Bf) (K : PySem.W.Frag) : Bool := fs.all fun f => f.ok K
theorem exB_ok {fs : List Bf} {K : PySem.W.Frag} (h : exB fs K = true) (i : Nat) {f : Bf} (e : fs[i]? = some f := by rfl) : f.ok K = true := List.all_eq_true.mp h f (List.mem_of_getElem? e)
theorem raises_fa {X : Cx} {x : Str} (c : (He.Fa.exc x).ok X.K = true) : Raises X (.ref (He.ga X.K x)) := raises_own (He.exc_ok c).2.2.1 (He.exc_ok c).2.2.2
section
variable {base : Heap} {mg : Str → Option Value} {K : PySem.W.Frag} {P : Program} {w : World}
def CxOf (P : Program) (w : World) (K : PySem.W.Frag) (mg : Str → Option Value) (base : Heap) (N : List Str) (qual : Str) (scope : Scope) (f : Addr) (k : Nat) (X : Cx) : Prop :=
  ∃ cdv A outer s H Ev, X = cxOf (L2.CX P w) P w K mg base N qual scope f cdv A outer s H Ev ∧ Room k (A.deeper (envOfC qual scope s.heap.objs.size f cdv))
theorem fn_mkD {x qual : Str} {params : Arguments} {body : List Stmt} {scope : Scope} {dvs : List V} {kws : List (Str × V)} {f : Addr} {fd : FuncData} {N ps : List Str} {k : Nat} {sp : SpD} (F : FunD K x qual params body scope dvs kws f fd) (S : FnScope N ps scope)
    (len : ∀ ds M Q E, sp ds M Q E → ds.length = ps.length)
    (hbody : ∀ (X : Cx) (Δ : DC) (M : Mem) (ds : List D) (Q : DKt) (E : DX), CxOf P w K mg base N qual scope f k X → XOk X Δ → (Δ.Wd = fun c fs _ M' => FzV (fun _ M'' => E c fs M'') .non M') → sp ds M Q E →
      ∃ t d, PDss X Δ body t d ∧ d (ends Q) (startD N ds) M) : FnOk P w K mg base (L2.CX P w) (k + 1) f fd ps (liftSp K sp) := by
  refine F.ok S (fun vs H Q E ⟨F0, I, M, ds, Qd, Ed, A, r, h, _⟩ => r.length.trans (len _ _ _ _ h)) (fun cdv A outer s H vs Q E hr ⟨F0, I, M, ds, Qd, Ed, At0, r, h, hn, hx⟩ => ?_)
  obtain ⟨X, eX⟩ : ∃ X, X = cxOf (L2.CX P w) P w K mg base N qual scope f cdv A outer s H E := ⟨_, rfl⟩
  have XK : X.K = K := by rw [eX]; rfl
  have tk : Takes X (fun cls d _ H => E cls d H) := by
    subst eX
    exact takes_of rfl rfl rfl rfl
  obtain ⟨t, d, pd, q⟩ := hbody X { F := F0, I0 := I, W := fun cls d _ H => E cls d H, Wd := fun c fs _ M' => FzV (fun _ M'' => Ed c fs M'') .non M' } M ds Qd Ed ⟨cdv, A, outer, s, H, E, eX, hr⟩ ⟨tk, fun {I1 M1 H1 σ1 env1 c fs dd} G er w => by
      rw [XK] at G er
      obtain ⟨I2, M2, d', x2, A3, r3, q3⟩ := fzv w G.at_ (v := .non) .non
      refine hx c fs M2 I2 H1 dd (G.base.trans x2) A3 ?_ q3
      cases dd with
      | none => exact er
      | some dd => obtain ⟨fvs, e1, e2⟩ := er; exact ⟨fvs, x2.xd e1, e2.ext x2⟩⟩ rfl h
  subst eX
  refine ⟨t, pd.1, pd.2 I M H _ _ ⟨Ext.refl I, At0, envr_start r⟩ _ (ends Qd) ⟨fun env' M' I' H' σ' x G q' => ?_, fun _ _ _ _ _ _ _ q' => q', fun _ _ _ _ _ _ _ q' => q', fun d' M' I' H' v x b A' r' q' => ?_⟩ q⟩
  · obtain ⟨I2, M2, d', x2, A3, r3, q3⟩ := fzv q' G.at_ (v := .non) .non
    exact hn _ _ _ _ _ (x.trans x2) A3 r3 q3
  · obtain ⟨I2, M2, d', x2, A3, r3, q3⟩ := fzv q' A' r'
    exact hn _ _ _ _ _ (x.trans x2) A3 r3 q3
end
end BB
set_option maxHeartbeats 4000000
namespace BB
open L2 PySem PySem.Spec PyProof.Rows
def top (i : Nat) : Stmt := PySem.Challenge.pw_barredbox_k49_words_refused.main.body.getD i (.Pass ⟨0, 0, 0, 0⟩)
def mth (s : Stmt) (j : Nat) : Stmt := match s with
  | .ClassDef _ _ _ body _ _ _ _ _ _ _ => body.getD j (.Pass ⟨0, 0, 0, 0⟩)
  | _ => s
end BB
set_option maxHeartbeats 4000000
namespace BB
open L2 PySem PySem.Spec PyProof.Rows
end BB
set_option maxHeartbeats 0
namespace BBH
open L2 PySem PySem.Spec PyProof.Rows BB
def dd_0 : He.DefD := ⟨("_law_begin", none), "_law_begin", "_law_begin", defArgs (top 27), defBody (top 27), defScope (top 27), [], []⟩
def dd_1 : He.DefD := ⟨("_law_draw", none), "_law_draw", "_law_draw", defArgs (top 28), defBody (top 28), defScope (top 28), [], []⟩
def dd_2 : He.DefD := ⟨("_law_pick", none), "_law_pick", "_law_pick", defArgs (top 29), defBody (top 29), defScope (top 29), [], []⟩
def dd_3 : He.DefD := ⟨("_law_names", none), "_law_names", "_law_names", defArgs (top 30), defBody (top 30), defScope (top 30), [], []⟩
def dd_4 : He.DefD := ⟨("_law_parts", none), "_law_parts", "_law_parts", defArgs (top 31), defBody (top 31), defScope (top 31), [], []⟩
def dd_5 : He.DefD := ⟨("_law_hidden", none), "_law_hidden", "_law_hidden", defArgs (top 34), defBody (top 34), defScope (top 34), [], []⟩
def dd_6 : He.DefD := ⟨("Asker", some "__init__"), "__init__", "Asker.__init__", defArgs (mth (top 25) 0), defBody (mth (top 25) 0), defScope (mth (top 25) 0), [], []⟩
def dd_7 : He.DefD := ⟨("_law_maker", none), "_law_maker", "_law_maker", defArgs (top 35), defBody (top 35), defScope (top 35), [], []⟩
def dd_8 : He.DefD := ⟨("is_name", none), "is_name", "is_name", defArgs (top 16), defBody (top 16), defScope (top 16), [], []⟩
def dd_9 : He.DefD := ⟨("are_names", none), "are_names", "are_names", defArgs (top 18), defBody (top 18), defScope (top 18), [], []⟩
def dd_10 : He.DefD := ⟨("is_count", none), "is_count", "is_count", defArgs (top 17), defBody (top 17), defScope (top 17), [], []⟩
def dd_11 : He.DefD := ⟨("is_door", none), "is_door", "is_door", defArgs (top 19), defBody (top 19), defScope (top 19), [], []⟩
def dd_12 : He.DefD := ⟨("are_rooms", none), "are_rooms", "are_rooms", defArgs (top 20), defBody (top 20), defScope (top 20), [], []⟩
def dd_13 : He.DefD := ⟨("Plan", some "__init__"), "__init__", "Plan.__init__", defArgs (mth (top 21) 0), defBody (mth (top 21) 0), defScope (mth (top 21) 0), [], []⟩
def dd_14 : He.DefD := ⟨("_law_thing", none), "_law_thing", "_law_thing", defArgs (top 39), defBody (top 39), defScope (top 39), [], []⟩
def dd_15 : He.DefD := ⟨("_law_place", none), "_law_place", "_law_place", defArgs (top 38), defBody (top 38), defScope (top 38), [], []⟩
def dd_16 : He.DefD := ⟨("Asker", some "signs_told"), "signs_told", "Asker.signs_told", defArgs (mth (top 25) 3), defBody (mth (top 25) 3), defScope (mth (top 25) 3), [], []⟩
def dd_17 : He.DefD := ⟨("Asker", some "known"), "known", "Asker.known", defArgs (mth (top 25) 4), defBody (mth (top 25) 4), defScope (mth (top 25) 4), [], []⟩
def dd_18 : He.DefD := ⟨("NoWord", some "__init__"), "__init__", "NoWord.__init__", defArgs (mth (top 4) 0), defBody (mth (top 4) 0), defScope (mth (top 4) 0), [], []⟩
def dd_19 : He.DefD := ⟨("need_letters", none), "need_letters", "need_letters", defArgs (top 24), defBody (top 24), defScope (top 24), [], []⟩
def dd_20 : He.DefD := ⟨("Plan", some "letters"), "letters", "Plan.letters", defArgs (mth (top 21) 3), defBody (mth (top 21) 3), defScope (mth (top 21) 3), [], []⟩
def dd_21 : He.DefD := ⟨("_law_along", none), "_law_along", "_law_along", defArgs (top 32), defBody (top 32), defScope (top 32), [], []⟩
def dd_22 : He.DefD := ⟨("_law_noted", none), "_law_noted", "_law_noted", defArgs (top 36), defBody (top 36), defScope (top 36), [], []⟩
def dd_23 : He.DefD := ⟨("Plan", some "signs"), "signs", "Plan.signs", defArgs (mth (top 21) 4), defBody (mth (top 21) 4), defScope (mth (top 21) 4), [], []⟩
def dd_24 : He.DefD := ⟨("Asker", some "is_answer"), "is_answer", "Asker.is_answer", defArgs (mth (top 25) 5), defBody (mth (top 25) 5), defScope (mth (top 25) 5), [], []⟩
def dd_25 : He.DefD := ⟨("BadBox", some "__init__"), "__init__", "BadBox.__init__", defArgs (mth (top 7) 0), defBody (mth (top 7) 0), defScope (mth (top 7) 0), [], []⟩
def dd_26 : He.DefD := ⟨("Asker", some "ask"), "ask", "Asker.ask", defArgs (mth (top 25) 6), defBody (mth (top 25) 6), defScope (mth (top 25) 6), [], []⟩
def dd_27 : He.DefD := ⟨("_law_refused", none), "_law_refused", "_law_refused", defArgs (top 40), defBody (top 40), defScope (top 40), [], []⟩
def dd_28 : He.DefD := ⟨("law", none), "law", "law", defArgs (top 41), defBody (top 41), defScope (top 41), [], []⟩
def fn : List He.DefD := ([dd_0, dd_1, dd_2, dd_3, dd_4, dd_5, dd_6, dd_7, dd_8, dd_9, dd_10, dd_11, dd_12, dd_13, dd_14, dd_15, dd_16, dd_17, dd_18, dd_19, dd_20, dd_21, dd_22, dd_23, dd_24, dd_25, dd_26, dd_27, dd_28] : List He.DefD)
def fa : List He.Fa := ([.free "ValueError", .free "abs", .free "all", .free "bool", .free "enumerate", .free "int", .free "isinstance", .free "len", .free "list", .free "min", .free "range", .free "sorted", .free "str", .free "tuple", .free "zip", .cls "Asker", .cls "Plan", .exc "NoPlan", .exm "NoWord" "BoxError" true, .glo "Asker", .glo "BadBox", .glo "BoxError", .glo "NoMany", .glo "NoPair", .glo "NoPlan", .glo "NoWord", .glo "Plan", .glo "TooMany", .glo "_law_along", .glo "_law_begin"] : List He.Fa) ++ ([.glo "_law_draw", .glo "_law_hidden", .glo "_law_maker", .glo "_law_names", .glo "_law_noted", .glo "_law_parts", .glo "_law_pick", .glo "_law_place", .glo "_law_refused", .glo "_law_thing", .glo "are_names", .glo "are_rooms", .glo "is_count", .glo "is_door", .glo "is_name", .glo "law", .glo "need_letters", .int "LEAST_SIGNS" 2, .int "LONGEST_ASKED" 60, .int "MOST_LETTERS" 4, .int "MOST_NAME" 6, .int "MOST_ROOMS" 36, .int "MOST_SIGNS" 4, .meth "Asker" "ask", .meth "Asker" "is_answer", .meth "Asker" "known", .meth "Asker" "signs_told", .meth "Plan" "letters", .meth "Plan" "signs", .mkr "Asker"] : List He.Fa) ++ ([.mkr "Plan", .noat "Asker" "answers_by", .noat "Asker" "last_told", .noat "Asker" "model", .noat "Asker" "rows", .noat "BadBox" "word", .noat "NoWord" "at", .noat "Plan" "own_letters", .noat "Plan" "own_rooms", .noat "Plan" "own_signs", .str "SMALL" "abcdefghijklmnopqrstuvwxyz"] : List He.Fa)
def bf : List Bf := ([.mthd "BadBox" "__init__", .mthd "NoWord" "__init__", .fnty "BadBox" "__init__", .fnty "NoWord" "__init__", .kit "NoWord" "BadBox" false, .kit "NoWord" "NoMany" false, .kit "NoWord" "NoPair" false, .kit "NoWord" "NoPlan" false, .kit "NoWord" "NoWord" true, .kit "NoWord" "TooMany" false, .kitB "NoWord" "ValueError" true, .oex "BadBox", .oex "NoWord", .xf "NoWord", .xf "NoWord", .isi "NoWord"] : List Bf)
def loose : List PySem.Str := (["_wall", "BoxError", "NoPlan", "NoWord", "NoPair", "NoMany", "BadBox", "TooMany", "MOST_NAME", "MOST_LETTERS", "LEAST_SIGNS", "MOST_SIGNS", "MOST_ROOMS", "SMALL", "is_name", "is_count", "are_names", "is_door", "are_rooms", "Plan", "LONGEST_ASKED", "need_letters", "Asker", "_law_begin", "_law_draw", "_law_pick", "_law_names", "_law_parts", "_law_along", "_law_all_words"] : List PySem.Str) ++ (["_law_hidden", "_law_maker", "_law_noted", "_law_row", "_law_place", "_law_thing", "_law_refused"] : List PySem.Str)
abbrev R : PySem.W.OpenRow := PySem.W.OpenLaw.row PySem.Challenge.rw_barredbox_k49_words_refused
abbrev hk : PySem.W.Hook := He.hookX 6 fa fn [] [(("_law_maker" : PySem.Str), none)] (exB bf)
def ob (s : PySem.W.SharedT) : He.AlX := He.obsX 6 fa fn [] [(("_law_maker" : PySem.Str), none)] (exB bf) (HandSHeadRun.getT s)
theorem ob_eq (s : PySem.W.SharedT) : ob s = hk.obs s.abs := He.obsX_eq (HandSHeadRun.getT_eq s)
theorem run (w : World) : HandSHeadRun.RunEq R (PySem.W.view R.prog [41]) hk ob 9000 loose w := by
  intro os
  kernel_rfl
end BBH
set_option maxHeartbeats 4000000
namespace BB
open L2 PySem PySem.Spec PyProof.Rows
section
variable {X : Cx} {Δ : DC} {C f : Addr} {fd : FuncData} {ps : List Str} {k : Nat}
def dNeg (de : DE) : DE := fun env M Q => de env M fun x M1 => ∃ i, x = .int i ∧ Q (.int (-i)) M1
theorem pd_neg {e : Expr} {te : TE} {de : DE} {pos : Pos} (h : PDe X Δ e te de) : PDe X Δ (.UnaryOp .USub e pos) (tUn (rU fun i => .int (-i)) te) (dNeg de) :=
  ⟨pe_un un_neg h.1, fun I M H σ env G Q Qd k q => h.2 I M H σ env G _ _ (fun x M1 I1 H1 v x1 G1 r1 ⟨i, e, q1⟩ => by
    subst e
    exact ⟨i, r1.int_inv, k _ _ _ _ _ x1 G1 (.int _) q1⟩) q⟩
end
def blkB (N : List Str) (sc scope : Scope) (own : List (Str × Nat)) : Bool := decide (scope.kind = .function) && (scope.names.all (fun y => decide (scope.names.lookup y.1 = some y.2)) && (own.all (fun p => decide (N[p.2]? = some p.1)) &&
  (scope.names.all (fun y => !decide (y.2 = .free) || (decide (sc.names.lookup y.1 = some .cell) || decide (sc.names.lookup y.1 = some .free))) &&
    scope.names.all (fun y => !(decide (y.2 = .local) || decide (y.2 = .cell)) || (decide (y.1 ∈ own.map (·.1)) || decide (y.1 ∉ N))))))
theorem blkB_ok {N : List Str} {sc scope : Scope} {own : List (Str × Nat)} (h : blkB N sc scope own = true) : BlkOk N sc scope own := by
  obtain ⟨h1, h⟩ := He.ba h
  obtain ⟨h2, h⟩ := He.ba h
  obtain ⟨h3, h⟩ := He.ba h
  obtain ⟨h4, h5⟩ := He.ba h
  refine ⟨of_decide_eq_true h1, fun y hy => of_decide_eq_true (List.all_eq_true.mp h2 y hy), fun p hp => of_decide_eq_true (List.all_eq_true.mp h3 p hp), fun y hy e => ?_, fun y hy e => ?_⟩
  · have := List.all_eq_true.mp h4 y hy
    simpa [e] using this
  · have := List.all_eq_true.mp h5 y hy
    rcases e with e | e <;> simpa [e] using this
theorem kbn_of {K : PySem.W.Frag} {x qual : Str} {params : Arguments} {body : List Stmt} {scope : Scope} {kws : List (Str × V)} {f : Addr} {fd : FuncData} {ps : List Str} (F : FunD K x qual params body scope [] kws f fd) (n : Nat) (ks : List Str)
    (h : ∀ (kV doc pm : Value) (an : Option Addr) (cdv ct : Value) (us ws : List Value), us.length = n → ws.length = ks.length → bindArgs (PySem.W.fnOf x qual params body scope .none kV doc pm an cdv ct) ⟨us, ks.zip ws⟩ = pure (ps.zip (us ++ ws))) :
    KBn K fd ps n ks (fun us ws => us ++ ws) (fun vs zs => vs ++ zs) := by
  obtain ⟨_, _, _, kV, doc, pm, an, cdv, ct, _, rfl, _, _, dflt, _⟩ := F.ex
  rcases dflt with ⟨_, rfl⟩ | ⟨e, _⟩
  · exact ⟨fun s us ws _ l1 l2 => .of_eq (h kV doc pm an cdv ct us ws l1 l2), fun r rz => r.append rz⟩
  · exact absurd rfl e
end BB
set_option maxHeartbeats 4000000
namespace BB
open L2 PySem PySem.Spec PyProof.Rows
abbrev still (F I0 : Hp) : DC := { F := F, I0 := I0, W := fun _ _ _ _ => False, Wd := fun _ _ _ _ => False }
def lfE (K : PySem.W.Frag) (I0 : Hp) (de : DE) : TE := fun σ H Q => ∃ F I M env Qd, Gd K (still F I0) I M H σ env ∧ de env M Qd ∧ ∀ d M' I' H' v, Ext I I' → Gd K (still F I0) I' M' H' σ env → Rp K I' v d → Qd d M' → Q v H'
def lfT (K : PySem.W.Frag) (I0 : Hp) (dt : DT) : TT := fun σ H Q => ∃ F I M env Qd, Gd K (still F I0) I M H σ env ∧ dt env M Qd ∧ ∀ b M' I' H', Ext I I' → Gd K (still F I0) I' M' H' σ env → Qd b M' → Q b H'
def lfW (K : PySem.W.Frag) (I0 : Hp) (vs : List Nat) (dg : DG) : TG := fun v σ H Q => ∃ F I M env d Qd, Gd K (still F I0) I M H σ env ∧ Rp K I v d ∧ dg d env M Qd ∧
  ∀ env' M' I' H' σ', Ext I I' → Gd K (still F I0) I' M' H' σ' env' → L2.wipe σ' vs = L2.wipe σ vs → Qd env' M' → Q σ' H'
section
variable {X : Cx} {I0 : Hp} {e tg : Expr} {ifs : List Expr} {de : DE} {dt : DT} {dg : DG} {vs : List Nat}
theorem lf_e (h : ∀ F, ∃ te, PDe X (still F I0) e te de) (F : Hp) : PDe X (still F I0) e (lfE X.K I0 de) de :=
  ⟨⟨fun pins s σ H Q I ⟨F', I1, M, env, Qd, G, q, k⟩ => by
    obtain ⟨te, p, sn⟩ := h F'
    exact p.run pins s σ H Q I (sn I1 M H σ env G Q Qd k q)⟩, fun I M H σ env G Q Qd k q => ⟨F, I, M, env, Qd, G, q, k⟩⟩
theorem lf_t (h : ∀ F, ∃ t, PDts X (still F I0) ifs t dt) (F : Hp) : PDts X (still F I0) ifs (lfT X.K I0 dt) dt :=
  ⟨⟨fun pins s σ H Q I ⟨F', I1, M, env, Qd, G, q, k⟩ => by
    obtain ⟨te, p, sn⟩ := h F'
    exact p.run pins s σ H Q I (sn I1 M H σ env G Q Qd k q)⟩, fun I M H σ env G Q Qd k q => ⟨F, I, M, env, Qd, G, q, k⟩⟩
theorem lf_w (h : ∀ F, ∃ g, PDgw X (still F I0) vs tg g dg) (F : Hp) : PDgw X (still F I0) vs tg (lfW X.K I0 vs dg) dg :=
  ⟨⟨fun pins s σ H v u Q I r ⟨F', I1, M, env, d, Qd, G, rd, q, k⟩ => by
    obtain ⟨te, p, sn⟩ := h F'
    exact p.run pins s σ H v u Q I r (sn I1 M H σ env G v d rd Q Qd k q)⟩, fun I M H σ env G v d r Q Qd k q => ⟨F, I, M, env, d, Qd, G, r, q, k⟩⟩
end
section
variable {X : Cx} {Δ : DC} {de : DE} {dt : DT} {dg : DG} {wi : TI} {di : DI}
theorem pd_lcX {elt tg iter : Expr} {ifs : List Expr} {scope : Scope} {own : List (Str × Nat)} {pos : Pos} (hc : X.calm = true) (hN : X.N.Nodup) (hi : PDi X Δ tg iter wi di) (ok : BlkOk X.N X.env.scope scope own)
    (hg : ∀ (s : Shared) (H : Hp) (C : Addr) (cl : List (Str × Addr)) (fp : List Addr) (F : Hp), ∃ g, PDgw (X.blk s H scope (compEnvC scope cl C X.env) fp) (still F Δ.I0) (own.map (·.2)) tg g dg)
    (ht : ∀ (s : Shared) (H : Hp) (C : Addr) (cl : List (Str × Addr)) (fp : List Addr) (F : Hp), ∃ t, PDts (X.blk s H scope (compEnvC scope cl C X.env) fp) (still F Δ.I0) ifs t dt)
    (he : ∀ (s : Shared) (H : Hp) (C : Addr) (cl : List (Str × Addr)) (fp : List Addr) (F : Hp), ∃ te, PDe (X.blk s H scope (compEnvC scope cl C X.env) fp) (still F Δ.I0) elt te de) (hs : ∀ x, foldedSetIterable iter X.env x = pure x := by intro _; rfl) :
    PDe X Δ (.ListComp elt [⟨tg, iter, ifs, 0⟩] scope pos) (tLc wi (lfW X.K Δ.I0 (own.map (·.2)) dg) (lfT X.K Δ.I0 dt) (lfE X.K Δ.I0 de) (own.map (·.2))) (dLc di dg dt de (own.map (·.2))) :=
  pd_lc hc hN hi ok (fun s H C cl fp F => lf_w (hg s H C cl fp) F) (fun s H C cl fp F => lf_t (ht s H C cl fp) F) (fun s H C cl fp F => lf_e (he s H C cl fp) F) hs
variable {x n : Str} {c : Value} {i : Nat} {body suite : List Stmt} {b₀ : Stmt} {np pos pos' : Pos} {db : DW → DS} {us : Addr → Value → List (Str × D) → DS}
abbrev LinkOk (K : PySem.W.Frag) (Δ : DC) : Prop := ∀ {I M H σ env c fs d}, Gd K Δ I M H σ env → ExcR K I fs d → Δ.Wd c fs env M → Δ.W c d σ H
def lfB (X : Cx) (Δ : DC) (db : DW → DS) : WX → TS := fun W T σ H => ∃ I0 Wd I M env Td, Ext Δ.I0 I0 ∧ LinkOk X.K (Δ.try_ I0 W Wd) ∧ Gd X.K (Δ.try_ I0 W Wd) I M H σ env ∧ EndsR X (Δ.try_ I0 W Wd) I T Td ∧ db Wd Td env M
def lfU (X : Cx) (Δ : DC) (us : Addr → Value → List (Str × D) → DS) : Addr → Value → Option Addr → TS := fun a cls d T σ H => ∃ I0 fs I M env Td, ExcR X.K I0 fs d ∧ Gd X.K (Δ.try_ I0 noW noD) I M H σ env ∧ EndsR X (Δ.try_ I0 noW noD) I T Td ∧ us a cls fs Td env M
abbrev BodyX (X : Cx) (Δ : DC) (body : List Stmt) (db : DW → DS) : Prop :=
  ∀ (I0 : Hp) (W : WX) (Wd : DW) (pn : List (Addr × Obj)) (xe : Value → Shared → Prop), Ext Δ.I0 I0 → XOk (X.tr pn xe) (Δ.try_ I0 W Wd) → PassesOwn (model X.prog X.w) X.A X.env xe → ∃ t, PDss (X.tr pn xe) (Δ.try_ I0 W Wd) body t (db Wd)
abbrev SuiteX (X : Cx) (Δ : DC) (suite : List Stmt) (us : Addr → Value → List (Str × D) → DS) : Prop :=
  ∀ (a : Addr) (oe : Obj) (cls : Value) (d : Option Addr) (pn : List (Addr × Obj)) (I0 : Hp) (fs : List (Str × D)), Zc cls d oe → (∃ vs, oe.data = .fields vs) → ExcR X.K I0 fs d → ∃ t, PDss (X.suite a ((a, oe) :: pn)) (Δ.try_ I0 noW noD) suite t (us a cls fs)
theorem bodyX (h : BodyX X Δ body db) : BodyOk X Δ body (lfB X Δ db) db := fun I0 W Wd pn xe x0 xo po =>
  ⟨⟨fun pins s σ H D I ⟨I0', Wd', I1, M, env, Td, x1, lk, G, R, q⟩ => by
    obtain ⟨t, p, sn⟩ := h I0' W Wd' pn xe x1 ⟨xo.takes, fun {I M H σ env c fs d} G' er w => lk G' er w⟩ po
    exact p.run pins s σ H D I (sn I1 M H σ env G D Td ⟨R.nx, R.bk, R.ct, R.rt⟩ q)⟩, fun I M H σ env G T Td R q => ⟨I0, Wd, I, M, env, Td, x0, fun {I M H σ env c fs d} G' er w => xo.link G' er w, G, ⟨R.nx, R.bk, R.ct, R.rt⟩, q⟩⟩
theorem suiteX (h : SuiteX X Δ suite us) : SuiteOk X Δ suite (lfU X Δ us) us := fun a oe cls d pn I0 fs hz hf er =>
  ⟨⟨fun pins s σ H D I ⟨I0', fs', I1, M, env, Td, er', G, R, q⟩ => by
    obtain ⟨t, p, sn⟩ := h a oe cls d pn I0' fs' hz hf er'
    exact p.run pins s σ H D I (sn I1 M H σ env G D Td ⟨R.nx, R.bk, R.ct, R.rt⟩ q)⟩, fun I M H σ env G T Td R q => ⟨I0, fs, I, M, env, Td, er, G, ⟨R.nx, R.bk, R.ct, R.rt⟩, q⟩⟩
end
end BB
set_option maxHeartbeats 4000000
namespace BB
open L2 PySem PySem.Spec PyProof.Rows
section
variable {env : Env} {M : Mem} {Q : DKt} {T : EndsD} {de da db dc : DE} {dt du : DT} {dl dr : DA} {d : D} {i : Nat}
theorem i_var (h : env[i]? = some (some d)) (q : Q d M) : dVar i env M Q := ⟨d, h, q⟩
theorem i_c (q : Q d M) : dC d env M Q := q
theorem i_n (q : de env M fun x M1 => Q (nrm x) M1) : dN de env M Q := q
theorem i_op {rd : RD2} (q : da env M fun x M1 => db env M1 fun y M2 => rd x y M2 Q) : dOp rd da db env M Q := q
theorem i_rdo {f : Mem → D → D → Option D} {x y : D} (h : f M x y = some d) (q : Q d M) : rdO f x y M Q := ⟨d, h, q⟩
theorem i_test {P : Bool → Mem → Prop} (q : de env M fun x M1 => ∃ k, x = .bl k ∧ P k M1) : dTest de env M P := q
theorem i_chain {rd rd' : RD2} (q : da env M fun x M1 => db env M1 fun y M2 => rd x y M2 fun z M3 => ∃ k, z = .bl k ∧ (if k = true then dc env M3 fun w M4 => rd' y w M4 Q else Q (.bl false) M3)) : dChain rd rd' da db dc env M Q := q
theorem i_tru {P : Bool → Mem → Prop} (q : de env M fun d M1 => ∃ b, dTruth M1 d = some b ∧ P b M1) : dTru de env M P := q
theorem i_and {P : Bool → Mem → Prop} (q : dt env M fun c M1 => if c = true then du env M1 P else P false M1) : dAnd dt du env M P := q
theorem i_or {P : Bool → Mem → Prop} (q : dt env M fun c M1 => if c = true then P true M1 else du env M1 P) : dOr dt du env M P := q
theorem i_not {P : Bool → Mem → Prop} (q : dt env M fun c M1 => P (!c) M1) : dNot dt env M P := q
theorem i_andv (q : da env M fun x M1 => ∃ c, x = .bl c ∧ if c = true then db env M1 Q else Q (.bl false) M1) : dAndV da db env M Q := q
theorem i_orv (q : da env M fun x M1 => ∃ c, x = .bl c ∧ if c = true then Q (.bl true) M1 else db env M1 Q) : dOrV da db env M Q := q
theorem i_notv (q : da env M fun x M1 => ∃ c, dTruth M1 x = some c ∧ Q (.bl (!c)) M1) : dNotV da env M Q := q
theorem i_ifx (q : dt env M fun c M1 => if c = true then da env M1 Q else db env M1 Q) : dIf dt da db env M Q := q
theorem i_nil {P : List D → Mem → Prop} (q : P [] M) : dNil env M P := q
theorem i_cons {P : List D → Mem → Prop} (q : da env M fun x M1 => dr env M1 fun xs M2 => P (x :: xs) M2) : dCons da dr env M P := q
theorem i_tup (q : dl env M fun xs M1 => xs.length ≤ sizeLine ∧ Q (.tup xs) M1) : dTup dl env M Q := q
theorem i_lst (q : dl env M fun xs M1 => xs.length ≤ sizeLine ∧ Q (.lst xs) M1) : dLst dl env M Q := q
theorem i_lstM (q : dl env M fun xs M1 => xs.length ≤ sizeLine ∧ ∀ p, M1 p = none → Q (.ref p) (mset M1 p (.lst xs))) : dLstM dl env M Q := q
theorem i_neg (q : de env M fun x M1 => ∃ i, x = .int i ∧ Q (.int (-i)) M1) : dNeg de env M Q := q
theorem i_cb {rd : RDC} (q : dl env M fun ds M1 => rd ds M1 Q) : dCB rd dl env M Q := q
theorem i_rd1 {f : Mem → D → Option D} {x : D} (h : f M x = some d) (q : Q d M) : rd1 f [x] M Q := ⟨x, rfl, d, h, q⟩
theorem i_call {Wd : DW} {sp : SpD} {dds : List D} (q : dl env M fun us M1 => sp (us ++ dds) M1 Q fun c fs M' => Wd c fs env M') : dCall Wd sp dds dl env M Q := q
theorem i_callK {Wd : DW} {n m : Nat} {sp : SpD} {gD : List D → List D → List D} {dk : DA} (q : dl env M fun us M1 => dk env M1 fun zs M2 => us.length = n ∧ zs.length = m ∧ sp (gD us zs) M2 Q fun c fs M' => Wd c fs env M') : dCallK Wd n m sp gD dl dk env M Q := q
theorem i_meth {Wd : DW} {C : Addr} {m : Str} {sp : SpD} {dds : List D} (q : da env M fun x M1 => ∃ fs, insOf M1 x = some (C, fs) ∧ fs.lookup m = none ∧ dl env M1 fun us M2 => sp (x :: (us ++ dds)) M2 Q fun c fs M' => Wd c fs env M') : dMeth Wd C m sp dds da dl env M Q := q
theorem i_fld {C : Addr} {f : Str} (q : da env M fun x M1 => ∃ fs, insOf M1 x = some (C, fs) ∧ ∃ d, fs.lookup f = some d ∧ Q d M1) : dFld C f da env M Q := q
theorem i_tupIx (q : da env M fun x M1 => ∃ ys : List Str, x = .ntup (ys.map .str) ∧ de env M1 fun y M2 => ∃ z, y = .str z ∧ z ∈ ys ∧ Q (.int (ixOf z ys : Nat)) M2) : dTupIx da de env M Q := q
theorem i_app (q : da env M fun x M1 => ∃ q xs0, x = .ref q ∧ M1 q = some (.lst xs0) ∧ de env M1 fun d M2 => ∃ xs, M2 q = some (.lst xs) ∧ xs.length < sizeLine ∧ Q .non (mset M2 q (.lst (xs ++ [d])))) : dApp da de env M Q := q
theorem i_join (q : da env M fun x M1 => ∃ a, x = .str a ∧ de env M1 fun y M2 => ∃ ys : List Str, seqOf M2 y = some (ys.map .str) ∧ (ys.map (·.length)).sum + ys.length * a.length ≤ 16777216 ∧ Q (.str (Txt.join a ys)) M2) : dJoin da de env M Q := q
theorem i_sl {dlo dhi : DO} (q : de env M fun x M1 => dlo env M1 fun l M2 => dhi env M2 fun u M3 => ∃ d, slD M3 x l u = some d ∧ Q d M3) : dSl de dlo dhi env M Q := q
theorem i_part {P : Option Int → Mem → Prop} (q : de env M fun x M1 => ∃ i, x = .int i ∧ P (some i) M1) : dPart de env M P := q
theorem i_nopart {P : Option Int → Mem → Prop} (q : P none M) : dNoPart env M P := q
variable {ds ds' : DS} {dg : DG} {dgs : DGs} {di : DI}
theorem i_next (q : T.nx env M) : dNext T env M := q
theorem i_seq (q : ds { T with nx := FzS (ds' T) } env M) : dSeq ds ds' T env M := q
theorem i_drop (q : de env M fun _ M1 => T.nx env M1) : dDrop de T env M := q
theorem i_ret (q : de env M T.rt) : dRet de T env M := q
theorem i_retN (q : T.rt .non M) : dRetN T env M := q
theorem i_if (q : dt env M fun b M1 => if b = true then ds T env M1 else ds' T env M1) : dIfS dt ds ds' T env M := q
theorem i_raise {Wd : DW} {C : Addr} (q : Wd (.ref C) [] env M) : dRaise Wd C T env M := q
theorem i_raiseI {Wd : DW} {C : Addr} {fn : Str} (q : de env M fun d M1 => Wd (.ref C) [(fn, d)] env M1) : dRaiseI Wd C fn de T env M := q
theorem i_setF {C : Addr} {f : Str} (q : de env M fun d M1 => da env M1 fun x M2 => ∃ p fs, x = .ref p ∧ M2 p = some (.ins C fs) ∧ fs.length < 1000 ∧ T.nx env (mset M2 p (.ins C (putD f d fs)))) : dSetF C f da de T env M := q
theorem i_set (q : de env M fun d M1 => T.nx (env.set i (some d)) M1) : dSet i de T env M := q
theorem i_asg (q : de env M fun d M1 => dg d env M1 T.nx) : dAsg de dg T env M := q
theorem i_gname {P : Env → Mem → Prop} (q : P (env.set i (some d)) M) : gdName i d env M P := q
theorem i_gtupN {P : Env → Mem → Prop} {n : Nat} {xs : List D} {d : D} (e : nrm d = .tup xs) (h : xs.length = n) (q : dgs xs env M P) : gdTup n dgs d env M P := ⟨xs, e, h, q⟩
theorem i_gtup {P : Env → Mem → Prop} {n : Nat} {xs : List D} (h : xs.length = n) (q : dgs xs env M P) : gdTup n dgs (.tup xs) env M P := ⟨xs, rfl, h, q⟩
theorem i_gcons {P : Env → Mem → Prop} {x : D} {xs : List D} (q : dg x env M fun env' M' => dgs xs env' M' P) : gdCons dg dgs (x :: xs) env M P := ⟨x, xs, rfl, q⟩
theorem i_gnil {P : Env → Mem → Prop} (q : P env M) : gdNil [] env M P := ⟨rfl, q⟩
def wkD (M : Mem) (d : D) (R : List D → (Mem → Prop) → Mem → Prop) : Prop := match d with
  | .tup xs => R xs (fun _ => True) M
  | .lst xs => R xs (fun _ => True) M
  | .frz xs => R xs (fun _ => True) M
  | .str z => R (signs z) (fun _ => True) M
  | .ref p => ∃ xs, M p = some (.lst xs) ∧ R xs (fun M => M p = some (.lst xs)) M
  | _ => False
theorem wk_tup {xs : List D} {R : List D → (Mem → Prop) → Mem → Prop} (q : R xs (fun _ => True) M) : wkD M (.tup xs) R := q
theorem wk_lst {xs : List D} {R : List D → (Mem → Prop) → Mem → Prop} (q : R xs (fun _ => True) M) : wkD M (.lst xs) R := q
theorem wk_str {z : Str} {R : List D → (Mem → Prop) → Mem → Prop} (q : R (signs z) (fun _ => True) M) : wkD M (.str z) R := q
theorem i_seqI {R : List D → (Mem → Prop) → Mem → Prop} (q : de env M fun d M1 => wkD M1 d R) : dSeqI de env M R := q
theorem i_yes {P : Bool → Mem → Prop} (q : P true M) : dYes env M P := q
theorem i_all {bs : List Bool} {x : D} (h : lstOf M x = some (bs.map D.bl)) (q : Q (.bl (bs.all id)) M) : rdAll [x] M Q := ⟨x, rfl, bs, h, q⟩
theorem signs_at {z : Str} {i : Nat} {d : D} (h : (signs z)[i]? = some d) : ∃ c, z.cps.toList[i]? = some c ∧ d = .str ⟨#[c]⟩ := by
  unfold signs at h
  rw [List.getElem?_map] at h
  cases e : z.cps.toList[i]? with
  | none => rw [e] at h; exact nomatch h
  | some c => rw [e] at h; exact ⟨c, rfl, (Option.some.inj h).symm⟩
theorem atI_nat {α : Type} {xs : List α} {i : Nat} {x : α} (h : xs[i]? = some x) : atI xs (i : Int) = some x := by
  have hl : i < xs.length := (List.getElem?_eq_some_iff.mp h).1
  unfold atI ixN
  rw [if_pos (by omega), if_pos (by omega)]
  show xs[((i : Nat) : Int).toNat]? = some x
  rw [Int.toNat_natCast]
  exact h
theorem ix_seq_of {x : D} {xs : List D} {i : Nat} (h1 : ∀ z, x ≠ .str z) (h : seqOf M x = some xs) (e : xs[i]? = some d) : ixD M x (.int (i : Nat)) = some d := by
  have : ixD M x (.int (i : Nat)) = (seqOf M x).bind fun xs => atI xs (i : Int) := by
    cases x <;> first | rfl | exact absurd rfl (h1 _)
  rw [this, h]
  exact atI_nat e
theorem ix_tup {xs : List D} {i : Nat} (e : xs[i]? = some d) : ixD M (.tup xs) (.int (i : Nat)) = some d := ix_seq_of (fun _ z => by cases z) rfl e
theorem ix_lst {xs : List D} {i : Nat} (e : xs[i]? = some d) : ixD M (.lst xs) (.int (i : Nat)) = some d := ix_seq_of (fun _ z => by cases z) rfl e
theorem i_rng1 {R : List D → (Mem → Prop) → Mem → Prop} (q : dl env M fun ds M1 => ∃ j : Int, ds = [.int j] ∧ -(2 ^ 62) ≤ j ∧ j < 2 ^ 62 ∧ R (rngD 0 j.toNat) (fun _ => True) M1) : dRng1 dl env M R := q
theorem i_enum {R : List D → (Mem → Prop) → Mem → Prop} (q : dl env M fun ds M1 => ∃ x xs, ds = [x] ∧ fixOf x = some xs ∧ R (enumD xs) (fun _ => True) M1) : dEnum dl env M R := q
theorem i_zip2 {R : List D → (Mem → Prop) → Mem → Prop} (q : dl env M fun ds M1 => ∃ x y xs ys, ds = [x, y] ∧ fixOf x = some xs ∧ fixOf y = some ys ∧ R (zip2D xs ys) (fun _ => True) M1) : dZip2 dl env M R := q
theorem i_for (q : di env M fun xs keep M1 => ∃ P : Nat → Env → Mem → Prop, P 0 env M1 ∧ (∀ i env M, P i env M → keep M) ∧
  (∀ i d env M, xs[i]? = some d → P i env M → dg d env M fun env' M' => ds { T with nx := FzS (P (i + 1)), ct := FzS (P (i + 1)), bk := T.nx } env' M') ∧ ∀ env M, P xs.length env M → T.nx env M) : dFor di dg ds T env M := q
theorem i_lc {vs : List Nat} (q : di env M fun xs keep M1 => xs.length ≤ sizeLine ∧ ∃ P : Nat → List D → Mem → Prop, P 0 [] M1 ∧ (∀ i acc M, P i acc M → keep M) ∧
  (∀ i d acc M, xs[i]? = some d → P i acc M → dg d (wipeD env vs) M fun env2 M2 => dt env2 M2 fun b M3 => if b = true then de env2 M3 fun y M4 => P (i + 1) (acc ++ [y]) M4 else P (i + 1) acc M3) ∧ ∀ acc M, P xs.length acc M → Q (.lst acc) M) : dLc di dg dt de vs env M Q := q
theorem i_itt {A B : Prop} (q : A) : if true = true then A else B := by rw [if_pos rfl]; exact q
theorem i_itf {A B : Prop} (q : B) : if false = true then A else B := by rw [if_neg Bool.false_ne_true]; exact q
theorem i_nf {A B : Prop} (q : A) : if (!false) = true then A else B := q
theorem i_nt {A B : Prop} (q : B) : if (!true) = true then A else B := q
theorem i_dt {p : Prop} [Decidable p] {A B : Prop} (h : p) (q : A) : if decide p = true then A else B := by rw [if_pos (decide_eq_true h)]; exact q
theorem i_df {p : Prop} [Decidable p] {A B : Prop} (h : ¬p) (q : B) : if decide p = true then A else B := by rw [if_neg (by simpa using h)]; exact q
theorem i_isi {x : D} {n T : String} {b : Bool} (h1 : tyD M x = some T) (h2 : kitB T n = some b) (q : Q (.bl b) M) : rdIsi [x, .ty n] M Q := ⟨x, n, rfl, T, b, h1, h2, q⟩
theorem take_map_succ {α β : Type} {xs : List α} {i : Nat} {d : α} (f : α → β) (h : xs[i]? = some d) : (xs.take i).map f ++ [f d] = (xs.take (i + 1)).map f := by
  rw [List.take_succ, h, List.map_append]; rfl
theorem take_succ_of {α : Type} {xs : List α} {i : Nat} {d : α} (h : xs[i]? = some d) : xs.take i ++ [d] = xs.take (i + 1) := by
  rw [List.take_succ, h]; rfl
end
theorem kb_int_int : kitB "int" "int" = some true := by decide +kernel
theorem kb_int_bool : kitB "int" "bool" = some false := by decide +kernel
theorem kb_str_str : kitB "str" "str" = some true := by decide +kernel
theorem kb_tup_tup : kitB "tuple" "tuple" = some true := by decide +kernel
end BB
set_option maxHeartbeats 4000000
namespace BB
open L2 PySem PySem.Spec PyProof.Rows
section
variable {M : Mem} {Q : DKt}
theorem i_eqI {i j : Int} (q : Q (.bl (decide (i = j))) M) : rdEq (.int i) (.int j) M Q := ⟨.int i, .int j, rfl, rfl, rfl, rfl, q⟩
theorem i_neI {i j : Int} (q : Q (.bl (!decide (i = j))) M) : rdNe (.int i) (.int j) M Q := ⟨.int i, .int j, rfl, rfl, rfl, rfl, q⟩
theorem i_neSame {x y : D} {p : PyData} (h1 : pyOf M x = some p) (h2 : pyOf M y = some p) (h : SeqAt.shaped p = true) (q : Q (.bl false) M) : rdNe x y M Q := ⟨p, p, h1, h2, h, h, by
  rw [SeqAt.eqv_refl p (SeqAt.canLay_of_shaped h)]; exact q⟩
theorem i_eqSame {x y : D} {p : PyData} (h1 : pyOf M x = some p) (h2 : pyOf M y = some p) (h : SeqAt.shaped p = true) (q : Q (.bl true) M) : rdEq x y M Q := ⟨p, p, h1, h2, h, h, by
  rw [SeqAt.eqv_refl p (SeqAt.canLay_of_shaped h)]; exact q⟩
theorem cut_to {α : Type} (xs : List α) (n : Nat) : cutD xs none (some (n : Int)) = xs.take n := by
  unfold cutD
  rw [HT.sIx_none, HT.sIx_nat, List.drop_zero, Nat.sub_zero]
  by_cases h : n ≤ xs.length
  · rw [Nat.min_eq_left h]
  · rw [Nat.min_eq_right (by omega), List.take_of_length_le (Nat.le_refl _), List.take_of_length_le (by omega)]
theorem cut_from {α : Type} (xs : List α) (n : Nat) : cutD xs (some (n : Int)) none = xs.drop n := by
  unfold cutD
  rw [HT.sIx_none, HT.sIx_nat]
  by_cases h : n ≤ xs.length
  · rw [Nat.min_eq_left h, List.take_of_length_le (by rw [List.length_drop]; omega)]
  · rw [Nat.min_eq_right (by omega), List.drop_eq_nil_of_le (Nat.le_refl _), List.drop_eq_nil_of_le (by omega), List.take_nil]
theorem eqF_str (a b : Str) : eqF (.str a) (.str b) = decide (a = b) := by
  show (a == b) = _
  by_cases h : a = b
  · rw [decide_eq_true h, h]; exact beq_self_eq_true b
  · rw [decide_eq_false h]; exact beq_eq_false_iff_ne.mpr h
theorem inF_strs (z : Str) : ∀ zs : List Str, inF (.str z) (zs.map .str) = decide (z ∈ zs)
  | [] => rfl
  | y :: ys => by
    have ih := inF_strs z ys
    unfold inF at ih ⊢
    rw [List.map_cons, List.any_cons, ih, eqF_str]
    by_cases h : y = z
    · rw [decide_eq_true h, Bool.true_or, decide_eq_true (by rw [h]; exact List.mem_cons_self)]
    · rw [decide_eq_false h, Bool.false_or]
      by_cases h2 : z ∈ ys
      · rw [decide_eq_true h2, decide_eq_true (List.mem_cons_of_mem _ h2)]
      · rw [decide_eq_false h2, decide_eq_false (by intro w; rcases List.mem_cons.mp w with w | w; exact h w.symm; exact h2 w)]
theorem flat_strs' (zs : List Str) : (zs.map D.str).all flatD = true := by rw [List.all_map]; exact List.all_eq_true.mpr fun _ _ => rfl
theorem i_inS {z : Str} {zs : List Str} {neg : Bool} {y : D} (h : seqOf M y = some (zs.map .str)) (q : Q (.bl (if neg then !decide (z ∈ zs) else decide (z ∈ zs))) M) : rdIn neg (.str z) y M Q :=
  .inl ⟨zs.map .str, h, rfl, flat_strs' zs, by rw [inF_strs]; exact q⟩
theorem strs_at {zs : List Str} {i : Nat} {d : D} (h : (zs.map D.str)[i]? = some d) : ∃ z, zs[i]? = some z ∧ d = .str z := by
  rw [List.getElem?_map] at h
  cases e : zs[i]? with
  | none => rw [e] at h; exact nomatch h
  | some c => rw [e] at h; exact ⟨c, rfl, (Option.some.inj h).symm⟩
theorem enum_at {zs : List Str} {i : Nat} {d : D} (h : (enumD (zs.map D.str))[i]? = some d) : ∃ z, zs[i]? = some z ∧ d = .tup [.int (i : Nat), .str z] := by
  obtain ⟨hlt, e⟩ := rowsD_get h
  rw [List.length_map] at hlt
  refine ⟨zs[i], by simp [hlt], ?_⟩
  rw [e]
  simp [hlt]
theorem zip2_at {xs ys : List Str} {i : Nat} {d : D} (h : (zip2D (xs.map D.str) (ys.map D.str))[i]? = some d) : ∃ x y, xs[i]? = some x ∧ ys[i]? = some y ∧ d = .tup [.str x, .str y] := by
  obtain ⟨hlt, e⟩ := rowsD_get h
  rw [List.length_map, List.length_map] at hlt
  have h1 : i < xs.length := by omega
  have h2 : i < ys.length := by omega
  exact ⟨xs[i], ys[i], by simp [h1], by simp [h2], by rw [e]; simp [h1, h2]⟩
theorem rng_at {lo : Int} {n i : Nat} {d : D} (h : (rngD lo n)[i]? = some d) : i < n ∧ d = .int (lo + (i : Nat)) := by
  have hlt : i < n := by
    have := (List.getElem?_eq_some_iff.mp h).1
    simpa [rngD] using this
  refine ⟨hlt, ?_⟩
  simp only [rngD, List.getElem?_map, List.getElem?_range hlt] at h
  simpa using h.symm
theorem rng_len {lo : Int} {n : Nat} : (rngD lo n).length = n := by simp [rngD]
end
end BB
set_option maxHeartbeats 2000000
namespace BB
open L2 PySem PySem.Spec PyProof.Rows
end BB
set_option maxHeartbeats 2000000
namespace BB
open L2 PySem PySem.Spec PyProof.Rows
def FnAt (P : Program) (w : World) (K : PySem.W.Frag) (mg : Str → Option Value) (base : Heap) (CX : CXT) (A : Around) (f : Addr) (fd : FuncData) (ps : List Str) (sp : Sp) : Prop :=
  ∀ (outer : List PySem.Env) (s : Shared) (H : Hp) (args : Args) (us : List Value) (vs : List V) (Q : VK) (E : XK), Env0 P w K mg base A outer s H → BindsTo s fd args (ps.zip us) → Vals vs us → sp vs H Q E →
    codeAny (model P w) A (.call (.ref f) args) (CR CX outer P w H s Q E) s
end BB
set_option maxHeartbeats 2000000
namespace BB
open L2 PySem PySem.Spec PyProof.Rows
section
variable {X : Cx} {Δ : DC} {e : Expr} {pos p : Pos} {es : List Expr} {tl : TA} {dl : DA} {k i n : Nat} {f : Addr} {fd : FuncData} {ps : List Str} {sp : SpD} {x : Str} {ks : List Str} {kws : List Keyword} {tk : TA} {dk : DA}
variable {g : List Value → List Value → List Value} {gV : List V → List V → List V} {gD : List D → List D → List D}
end
end BB
set_option maxHeartbeats 2000000
namespace BB
open L2 PySem PySem.Spec PyProof.Rows
def perm {α : Type} (idx : List Nat) (us ws : List α) : List α := idx.filterMap fun i => (us ++ ws)[i]?
section
variable {X : Cx} {Δ : DC} {e : Expr} {pos p : Pos} {es : List Expr} {tl : TA} {dl : DA} {k i n : Nat} {f : Addr} {fd : FuncData} {ps : List Str} {sp : SpD} {x : Str} {ks : List Str} {kws : List Keyword} {tk : TA} {dk : DA}
variable {g : List Value → List Value → List Value} {gV : List V → List V → List V} {gD : List D → List D → List D}
end
end BB
set_option maxHeartbeats 2000000
namespace BB
open L2 PySem PySem.Spec PyProof.Rows
def Fine (n : Nat) (t : Str) : Prop := t.length ≤ n ∧ ∀ c ∈ t.cps.toList, c < 0x110000
theorem Fine.mono {m n : Nat} {t : Str} (h : Fine m t) (l : m ≤ n) : Fine n t := ⟨Nat.le_trans h.1 l, h.2⟩
theorem Fine.ok {n : Nat} {t : Str} (h : Fine n t) : PyData.strOk t = true := by
  unfold PyData.strOk
  rw [← Array.all_toList]
  exact List.all_eq_true.mpr fun c hc => decide_eq_true (h.2 c hc)
structure ReprOk (p : PyData) : Prop where
  shows : p.showable = true
  noD : p.hasDict = false
  flat : p.depth ≤ 32
  fits : p.shown.length ≤ sizeLine
  ok : SeqAt.shaped (.str p.shown) = true
end BB
set_option maxHeartbeats 4000000
namespace BB
open L2 PySem PySem.Spec PyProof.Rows
def kD : Key → D
  | .inl i => .int i
  | .inr z => .str z
def skey : D → Option Key
  | .int i => some (.inl i)
  | .str z => some (.inr z)
  | _ => none
def skeys : List D → Option (List Key)
  | [] => some []
  | d :: ds => match skey d, skeys ds with
    | some k, some ks => some (k :: ks)
    | _, _ => none
def tkey : D → Option (List Key)
  | .htup ds => skeys ds
  | _ => none
section
variable {K : PySem.W.Frag} {I J F H : Hp} {M : Mem} {v : V} {d : D}
theorem skey_of {k : Key} (r : Rp K I v d) (h : skey d = some k) : v = kV k := by
  cases d with
  | int i => cases h; exact r.int_inv
  | str z => cases h; exact r.str_inv
  | _ => cases h
theorem skeys_of : ∀ {ds : List D} {vs : List V} {ks : List Key}, Rps K I vs ds → skeys ds = some ks → vs = ks.map kV
  | [], _, _, r, h => by cases h; exact r.nil_inv
  | d :: ds, _, ks, r, h => by
    obtain ⟨v, vs, rfl, rv, rr⟩ := r.cons_inv
    rw [skeys] at h
    cases e1 : skey d with
    | none => rw [e1] at h; cases h
    | some k =>
      cases e2 : skeys ds with
      | none => rw [e1, e2] at h; cases h
      | some ks' => rw [e1, e2] at h; cases h; rw [skey_of rv e1, skeys_of rr e2]; rfl
end
section
variable {κ α : Type} [DecidableEq κ]
def valD (kvs : List (κ × α)) (k : κ) : Option α := (kvs.find? fun kv => decide (kv.1 = k)).map (·.2)
def putKD (kvs : List (κ × α)) (k : κ) (v : α) : List (κ × α) :=
  if (kvs.any fun kv => decide (kv.1 = k)) = true then kvs.map (fun kv => if kv.1 = k then (kv.1, v) else kv) else kvs ++ [(k, v)]
theorem valD_any (k : κ) : ∀ kvs : List (κ × α), (kvs.any fun kv => decide (kv.1 = k)) = (valD kvs k).isSome
  | [] => rfl
  | p :: r => by
    rw [List.any_cons]
    by_cases e : p.1 = k
    · rw [decide_eq_true e, valD, List.find?_cons, decide_eq_true e]; rfl
    · rw [decide_eq_false e, Bool.false_or, valD_any k r]; unfold valD; rw [List.find?_cons, decide_eq_false e]
theorem valD_cons (p : κ × α) (r : List (κ × α)) (k : κ) : valD (p :: r) k = if p.1 = k then some p.2 else valD r k := by
  unfold valD
  rw [List.find?_cons]
  by_cases e : p.1 = k
  · rw [decide_eq_true e, if_pos e]; rfl
  · rw [decide_eq_false e, if_neg e]
theorem valD_append (xs ys : List (κ × α)) (k : κ) : valD (xs ++ ys) k = (valD xs k).orElse fun _ => valD ys k := by
  induction xs with
  | nil => rfl
  | cons p r ih =>
    rw [List.cons_append, valD_cons, valD_cons, ih]
    by_cases e : p.1 = k
    · rw [if_pos e, if_pos e]; rfl
    · rw [if_neg e, if_neg e]
theorem valD_map (k j : κ) (y : α) (kvs : List (κ × α)) : valD (kvs.map fun kv => if kv.1 = k then (kv.1, y) else kv) j = (valD kvs j).map fun x => if j = k then y else x := by
  induction kvs with
  | nil => rfl
  | cons p r ih =>
    rw [List.map_cons, valD_cons, valD_cons, ih]
    by_cases e : p.1 = k
    · rw [if_pos e]
      by_cases e2 : p.1 = j
      · rw [if_pos e2, if_pos e2, Option.map_some, if_pos (e2.symm.trans e)]
      · rw [if_neg e2, if_neg e2]
    · rw [if_neg e]
      by_cases e2 : p.1 = j
      · rw [if_pos e2, if_pos e2, Option.map_some, if_neg (by rw [← e2]; exact e)]
      · rw [if_neg e2, if_neg e2]
theorem valD_put (kvs : List (κ × α)) (k j : κ) (y : α) : valD (putKD kvs k y) j = if j = k then some y else valD kvs j := by
  unfold putKD
  rw [valD_any]
  by_cases h : (valD kvs k).isSome = true
  · rw [if_pos h, valD_map]
    by_cases e : j = k
    · subst e
      rw [if_pos rfl]
      obtain ⟨x, hx⟩ := Option.isSome_iff_exists.mp h
      rw [hx, Option.map_some, if_pos rfl]
    · rw [if_neg e]
      cases valD kvs j with
      | none => rfl
      | some x => rw [Option.map_some, if_neg e]
  · rw [if_neg h, valD_append, valD_cons]
    have hn : valD kvs k = none := by cases hh : valD kvs k with
      | none => rfl
      | some x => rw [hh] at h; exact absurd rfl h
    by_cases e : j = k
    · subst e
      rw [hn, if_pos rfl, if_pos rfl]; rfl
    · rw [if_neg (fun z => e z.symm), if_neg e]
      cases valD kvs j <;> rfl
theorem putKD_len (kvs : List (κ × α)) (k : κ) (v : α) : (putKD kvs k v).length ≤ kvs.length + 1 := by
  unfold putKD
  split
  · rw [List.length_map]; omega
  · rw [List.length_append]; exact Nat.le_refl _
end
section
variable {K : PySem.W.Frag} {I J F H : Hp} {M : Mem}
theorem RpT.len : ∀ {kv : List (List Key × V)} {kd : List (List Key × D)}, RpT K I kv kd → kv.length = kd.length
  | _, _, .nil => rfl
  | _, _, .cons _ r => congrArg (· + 1) (RpT.len r)
theorem RpK.len : ∀ {kv : List (Key × V)} {kd : List (Key × D)}, RpK K I kv kd → kv.length = kd.length
  | _, _, .nil => rfl
  | _, _, .cons _ r => congrArg (· + 1) (RpK.len r)
def RpO (K : PySem.W.Frag) (I : Hp) : Option V → Option D → Prop
  | none, none => True
  | some v, some d => Rp K I v d
  | _, _ => False
theorem valV_consT {κ : Type} [DecidableEq κ] (p : κ × V) (r : List (κ × V)) (k : κ) : valV (p :: r) k = if p.1 = k then some p.2 else valV r k := by
  by_cases e : p.1 = k
  · rw [if_pos e, valV_pos e]
  · rw [if_neg e, valV_neg e]
theorem RpT.val : ∀ {kv : List (List Key × V)} {kd : List (List Key × D)} (k : List Key), RpT K I kv kd → RpO K I (valV kv k) (valD kd k)
  | _, _, _, .nil => trivial
  | (k1, v) :: kv, (_, d) :: kd, k, .cons a r => by
    rw [valV_consT, valD_cons]
    by_cases e : k1 = k
    · rw [if_pos e, if_pos e]; exact a
    · rw [if_neg e, if_neg e]; exact RpT.val k r
theorem RpK.val : ∀ {kv : List (Key × V)} {kd : List (Key × D)} (k : Key), RpK K I kv kd → RpO K I (valV kv k) (valD kd k)
  | _, _, _, .nil => trivial
  | (k1, v) :: kv, (_, d) :: kd, k, .cons a r => by
    rw [valV_consT, valD_cons]
    by_cases e : k1 = k
    · rw [if_pos e, if_pos e]; exact a
    · rw [if_neg e, if_neg e]; exact RpK.val k r
theorem RpT.snoc {k : List Key} {v : V} {d : D} (h : Rp K I v d) : ∀ {kv : List (List Key × V)} {kd : List (List Key × D)}, RpT K I kv kd → RpT K I (kv ++ [(k, v)]) (kd ++ [(k, d)])
  | _, _, .nil => .cons h .nil
  | _, _, .cons a r => .cons a (RpT.snoc h r)
theorem RpK.snoc {k : Key} {v : V} {d : D} (h : Rp K I v d) : ∀ {kv : List (Key × V)} {kd : List (Key × D)}, RpK K I kv kd → RpK K I (kv ++ [(k, v)]) (kd ++ [(k, d)])
  | _, _, .nil => .cons h .nil
  | _, _, .cons a r => .cons a (RpK.snoc h r)
theorem RpT.repl {k : List Key} {v : V} {d : D} (h : Rp K I v d) : ∀ {kv : List (List Key × V)} {kd : List (List Key × D)}, RpT K I kv kd → RpT K I (kv.map fun p => if p.1 = k then (p.1, v) else p) (kd.map fun p => if p.1 = k then (p.1, d) else p)
  | _, _, .nil => .nil
  | (k1, u) :: kv, (_, e) :: kd, .cons a r => by
    rw [List.map_cons, List.map_cons]
    by_cases q : k1 = k
    · rw [if_pos q, if_pos q]; exact .cons h (RpT.repl h r)
    · rw [if_neg q, if_neg q]; exact .cons a (RpT.repl h r)
theorem RpK.repl {k : Key} {v : V} {d : D} (h : Rp K I v d) : ∀ {kv : List (Key × V)} {kd : List (Key × D)}, RpK K I kv kd → RpK K I (kv.map fun p => if p.1 = k then (p.1, v) else p) (kd.map fun p => if p.1 = k then (p.1, d) else p)
  | _, _, .nil => .nil
  | (k1, u) :: kv, (_, e) :: kd, .cons a r => by
    rw [List.map_cons, List.map_cons]
    by_cases q : k1 = k
    · rw [if_pos q, if_pos q]; exact .cons h (RpK.repl h r)
    · rw [if_neg q, if_neg q]; exact .cons a (RpK.repl h r)
theorem RpO.some_eq {o : Option V} {p : Option D} (h : RpO K I o p) : o.isSome = p.isSome := by
  cases o <;> cases p <;> first | rfl | exact h.elim
theorem RpT.put {k : List Key} {v : V} {d : D} {kv : List (List Key × V)} {kd : List (List Key × D)} (r : RpT K I kv kd) (h : Rp K I v d) : RpT K I (putK kv k v) (putKD kd k d) := by
  unfold putK putKD
  rw [valV_any, valD_any, (RpT.val k r).some_eq]
  split
  · exact RpT.repl h r
  · exact RpT.snoc h r
theorem RpK.put {k : Key} {v : V} {d : D} {kv : List (Key × V)} {kd : List (Key × D)} (r : RpK K I kv kd) (h : Rp K I v d) : RpK K I (putK kv k v) (putKD kd k d) := by
  unfold putK putKD
  rw [valV_any, valD_any, (RpK.val k r).some_eq]
  split
  · exact RpK.repl h r
  · exact RpK.snoc h r
def dctT (M : Mem) : D → Option (List (List Key × D))
  | .ref p => match M p with | some (.dT kvs) => some kvs | _ => none
  | .dT kvs => some kvs
  | _ => none
def dctK (M : Mem) : D → Option (List (Key × D))
  | .ref p => match M p with | some (.dK kvs) => some kvs | _ => none
  | .dK kvs => some kvs
  | _ => none
inductive Look (M : Mem) : D → D → Option D → Prop
  | t {x y kvs k} : dctT M x = some kvs → tkey y = some k → Look M x y (valD kvs k)
  | k {x y kvs k} : dctK M x = some kvs → skey y = some k → Look M x y (valD kvs k)
def isDct (M : Mem) (x : D) : Prop := (∃ kvs, dctT M x = some kvs) ∨ ∃ kvs, dctK M x = some kvs
end
section
variable {X : Cx} {Δ : DC} {e a b c o i : Expr} {de da db dc dx dy : DE} {pos pos' apos cpos : Pos} {ta tb tc te to ti td ty tv tx : TE}
def dDGet (da db : DE) : DE := fun env M Q => da env M fun x M1 => db env M1 fun y M2 => ∃ d, Look M2 x y (some d) ∧ Q d M2
def dDGet2 (da db dc : DE) : DE := fun env M Q => da env M fun x M1 => isDct M1 x ∧ db env M1 fun y M2 => dc env M2 fun z M3 => ∃ o, Look M3 x y o ∧ Q (o.getD z) M3
def dDGet1 (da db : DE) : DE := fun env M Q => da env M fun x M1 => isDct M1 x ∧ db env M1 fun y M2 => ∃ o, Look M2 x y o ∧ Q (o.getD .non) M2
def dDPut (da db dv : DE) : DS := fun T env M => dv env M fun v M1 => da env M1 fun x M2 => db env M2 fun y M3 => ∃ p, x = .ref p ∧
  ((∃ kvs k, M3 p = some (.dT kvs) ∧ tkey y = some k ∧ kvs.length < sizeLine ∧ T.nx env (mset M3 p (.dT (putKD kvs k v)))) ∨
   ∃ kvs k, M3 p = some (.dK kvs) ∧ skey y = some k ∧ kvs.length < sizeLine ∧ T.nx env (mset M3 p (.dK (putKD kvs k v))))
def dNewT : DE := fun _ M Q => ∀ p, M p = none → Q (.ref p) (mset M p (.dT []))
def dNewK : DE := fun _ M Q => ∀ p, M p = none → Q (.ref p) (mset M p (.dK []))
theorem pd_newK : PDe X Δ (.Dict [] [] pos) tDNewK dNewK := ⟨pe_dnewK, fun I M H σ env G Q Qd k q => fun p hp =>
  k _ _ _ _ _ (Ext.refl I) (G.newM hp _ (.dK []) ⟨[], upd_same, .nil⟩) (.ref p) (q p (G.at_.freeM hp))⟩
end
end BB
set_option maxHeartbeats 4000000
namespace BB
open L2 PySem PySem.Spec PyProof.Rows
section
variable {X : Cx} {Δ : DC} {da db de : DE} {pos : Pos} {tk tv : TE} {tl : TA} {dl : DA} {es : List Expr} {k v : Expr}
def dTupH (dl : DA) : DE := fun env M Q => dl env M fun xs M1 => xs.length ≤ sizeLine ∧ Q (.htup xs) M1
theorem pd_tupH {x1} (h : PDa X Δ es tl dl) : PDe X Δ (.Tuple es x1 pos) (tTup tl) (dTupH dl) := by
  obtain ⟨p, s⟩ := h
  refine ⟨pe_tup p, fun I M H σ env G Q Qd k q => s I M H σ env G _ _ (fun ds M1 I1 H1 vs x1 G1 r1 ⟨z, q1⟩ => ⟨by rw [r1.length]; exact z, fun p hp => ?_⟩) q⟩
  obtain ⟨x2, G2⟩ := G1.newI hp (.tup vs)
  exact k _ _ _ _ _ (x1.trans x2) G2 (.htup upd_same (r1.ext x2)) q1
def dDispT (da db : DE) : DE := fun env M Q => ∀ p, M p = none → da env (mset M p (.dT [])) fun y M1 => db env M1 fun v M2 => M2 p = some (.dT []) ∧ ∃ k, tkey y = some k ∧ Q (.ref p) (mset M2 p (.dT [(k, v)]))
def dDispK (da db : DE) : DE := fun env M Q => ∀ p, M p = none → da env (mset M p (.dK [])) fun y M1 => db env M1 fun v M2 => M2 p = some (.dK []) ∧ ∃ k, skey y = some k ∧ Q (.ref p) (mset M2 p (.dK [(k, v)]))
end
end BB
set_option maxHeartbeats 4000000
namespace BB
open L2 PySem PySem.Spec PyProof.Rows
section
variable {env : Env} {M : Mem} {Q : DKt} {T : EndsD} {da db de dv : DE} {dl : DA} {i j : Nat}
theorem i_parD {i j : Nat} (q : da env M fun x M1 => db env M1 fun y M2 => T.nx ((env.set i (some x)).set j (some y)) M2) : dPar i j da db T env M := q
theorem i_tupH (q : dl env M fun xs M1 => xs.length ≤ sizeLine ∧ Q (.htup xs) M1) : dTupH dl env M Q := q
theorem i_dispT (q : ∀ p, M p = none → da env (mset M p (.dT [])) fun y M1 => db env M1 fun v M2 => M2 p = some (.dT []) ∧ ∃ k, tkey y = some k ∧ Q (.ref p) (mset M2 p (.dT [(k, v)]))) : dDispT da db env M Q := q
theorem i_dispK (q : ∀ p, M p = none → da env (mset M p (.dK [])) fun y M1 => db env M1 fun v M2 => M2 p = some (.dK []) ∧ ∃ k, skey y = some k ∧ Q (.ref p) (mset M2 p (.dK [(k, v)]))) : dDispK da db env M Q := q
theorem i_dget (q : da env M fun x M1 => db env M1 fun y M2 => ∃ d, Look M2 x y (some d) ∧ Q d M2) : dDGet da db env M Q := q
theorem i_dget1 (q : da env M fun x M1 => isDct M1 x ∧ db env M1 fun y M2 => ∃ o, Look M2 x y o ∧ Q (o.getD .non) M2) : dDGet1 da db env M Q := q
theorem i_dget2 (q : da env M fun x M1 => isDct M1 x ∧ db env M1 fun y M2 => dv env M2 fun z M3 => ∃ o, Look M3 x y o ∧ Q (o.getD z) M3) : dDGet2 da db dv env M Q := q
theorem i_dput (q : dv env M fun v M1 => da env M1 fun x M2 => db env M2 fun y M3 => ∃ p, x = .ref p ∧
  ((∃ kvs k, M3 p = some (.dT kvs) ∧ tkey y = some k ∧ kvs.length < sizeLine ∧ T.nx env (mset M3 p (.dT (putKD kvs k v)))) ∨
   ∃ kvs k, M3 p = some (.dK kvs) ∧ skey y = some k ∧ kvs.length < sizeLine ∧ T.nx env (mset M3 p (.dK (putKD kvs k v))))) : dDPut da db dv T env M := q
theorem i_while {dt : DT} {u : DS} (q : ∃ P : Nat → Env → Mem → Prop, (∃ m, P m env M) ∧ ∀ m env M, P m env M → dt env M fun b M1 =>
  if b = true then u { T with nx := FzS fun env M => ∃ m', m' < m ∧ P m' env M, ct := FzS fun env M => ∃ m', m' < m ∧ P m' env M, bk := T.nx } env M1 else T.nx env M1) : dWhile dt u T env M := q
theorem i_newT (q : ∀ p, M p = none → Q (.ref p) (mset M p (.dT []))) : dNewT env M Q := q
theorem i_newK (q : ∀ p, M p = none → Q (.ref p) (mset M p (.dK []))) : dNewK env M Q := q
end
end BB
set_option maxHeartbeats 4000000
namespace BB
open L2 PySem PySem.Spec PyProof.Rows
section
variable {X : Cx} {Δ : DC} {de : DE} {dt : DT} {dg : DG} {wi : TI} {di : DI} {t1 : TT} {te : TE} {g : TG}
theorem At.memF {K : PySem.W.Frag} {F F0 I H : Hp} {M : Mem} (A : At K F I M H) {p : Addr} {vs : List V} {ds : List D} (hp : F p = some (.lst vs)) (r : Rps K I vs ds) (hF : ∀ b u, F0 b = some u → b ≠ p ∧ F b = some u) : At K F0 I (mset M p (.lst ds)) H := by
  obtain ⟨h1, h2, h3⟩ := A.fr _ _ hp
  refine ⟨A.ex, fun b u e => ?_, fun b u e => ?_, fun b xs e => A.nt b xs (hF _ _ e).2⟩
  · by_cases hb : b = p
    · subst hb; rw [mset_same] at e; cases e; exact ⟨h2, _, h1, r⟩
    · rw [mset_ne hb] at e
      refine ⟨(A.mem _ _ e).1, (A.mem _ _ e).2.mono (Ext.refl I) (fun c v _ hc => hc) (fun c hc => ?_)⟩
      rw [mset_ne (mem_ne hc h3)]; exact hc
  · obtain ⟨hb, e⟩ := hF b u e
    obtain ⟨q1, q2, q3⟩ := A.fr _ _ e
    exact ⟨q1, q2, by rw [mset_ne hb]; exact q3⟩
def dLcM (di : DI) (dg : DG) (dt : DT) (de : DE) (vs : List Nat) : DE := fun env M Q => di env M fun xs keep M1 => xs.length ≤ sizeLine ∧ ∃ P : Nat → List D → Mem → Prop, P 0 [] M1 ∧ (∀ i acc M, P i acc M → keep M) ∧
  (∀ i d acc M, xs[i]? = some d → P i acc M → dg d (wipeD env vs) M fun env2 M2 => dt env2 M2 fun b M3 => if b = true then de env2 M3 fun y M4 => P (i + 1) (acc ++ [y]) M4 else P (i + 1) acc M3) ∧ ∀ acc M, P xs.length acc M → ∀ p, M p = none → Q (.ref p) (mset M p (.lst acc))
theorem snd_lcM {vs : List Nat} (si : SndI X Δ wi di) (sg : ∀ F, SndW X (Δ.blk F) vs g dg) (st : ∀ F, SndT X (Δ.blk F) t1 dt) (se : ∀ F, SndE X (Δ.blk F) te de) : SndE X Δ (tLc wi g t1 te vs) (dLcM di dg dt de vs) := fun I M H σ env G Q Qd k q =>
  si I M H σ env G _ _ (fun xs keep M1 J I1 H1 x1 G1 ok ⟨hz, P, p0, pk, ps, pd⟩ => by
    intro D hD
    have A1 := G1.at_.newF hD (.lst []) ⟨_, rfl⟩
    have F0 : ∀ (o : HO) b u, Δ.F b = some u → b ≠ D ∧ (upd Δ.F D o) b = some u := fun o b u e => by
      have hb : b ≠ D := ne_of_none (G1.at_.fr _ _ e).1 hD
      exact ⟨hb, by rw [upd_ne hb]; exact e⟩
    refine ⟨fun i m H => m = xs.length - i ∧ i ≤ xs.length ∧ ∃ I M acc us, Ext I1 I ∧ Gd X.K (Δ.blk (upd Δ.F D (.lst us))) I M H (L2.wipe σ vs) (wipeD env vs) ∧ Rps X.K I us acc ∧ acc.length ≤ i ∧ P i acc M,
      ⟨xs.length, by simp, Nat.zero_le _, I1, M1, [], [], Ext.refl _, ⟨G1.base, A1, G1.env.wipe vs⟩, .nil, Nat.le_refl _, p0⟩, ?_⟩
    rintro i m H2 ⟨rfl, hi, I2, M2, acc, us, x2, G2, r2, ha, p2⟩
    have hk := pk i acc M2 p2
    by_cases hlt : i < xs.length
    · refine .inr ⟨ok.go _ i I2 M2 H2 x2 G2.at_ hk hlt, fun H => ∃ I M acc us, Ext I1 I ∧ Gd X.K (Δ.blk (upd Δ.F D (.lst us))) I M H (L2.wipe σ vs) (wipeD env vs) ∧ Rps X.K I us acc ∧ acc.length ≤ i + 1 ∧ P (i + 1) acc M, fun H' w => ⟨xs.length - (i + 1), by omega, rfl, hlt, w⟩, fun x H' y => ?_⟩
      have hd : xs[i]? = some xs[i] := by simp [hlt]
      obtain ⟨I3, x3, A3, r3⟩ := ok.yld _ i xs[i] x I2 M2 H2 H' x2 G2.at_ hk hd y
      have G3 := G2.go x3 A3
      refine sg _ I3 M2 H' _ _ G3 x xs[i] r3 _ _ (fun env4 M4 I4 H4 σ4 x4 G4 w4 q4 => ⟨w4.trans wipe_idem, ?_⟩) (ps i xs[i] acc M2 hd p2)
      refine st _ I4 M4 H4 σ4 env4 G4 _ _ (fun b M5 I5 H5 x5 G5 q5 => ?_) q4
      have back : ∀ {I6 M6 H6 F6}, Gd X.K (Δ.blk F6) I6 M6 H6 σ4 env4 → Ext I2 I6 → Gd X.K (Δ.blk F6) I6 M6 H6 (L2.wipe σ vs) (wipeD env vs) := fun {I6 M6 H6 F6} G6 x6 => ⟨G6.base, G6.at_, G2.env.ext x6⟩
      cases b with
      | true =>
        rw [if_pos rfl] at q5 ⊢
        refine se _ I5 M5 H5 σ4 env4 G5 _ _ (fun y M6 I6 H6 u x6 G6 r6 q6 => ?_) q5
        have hFD : (upd Δ.F D (.lst us)) D = some (.lst us) := upd_same
        obtain ⟨hD1, hD2, hD3⟩ := G6.at_.fr _ _ hFD
        refine ⟨us, hD1, by rw [r2.length]; omega, I6, M6, acc ++ [y], us ++ [u], (((x2.trans x3).trans x4).trans x5).trans x6, ?_, (r2.ext (((x3.trans x4).trans x5).trans x6)).append (.cons r6 .nil), by simp; omega, q6⟩
        have A6 := G6.at_.writeF (o' := .lst (us ++ [u])) hFD ⟨_, rfl⟩
        have e : upd (upd Δ.F D (.lst us)) D (.lst (us ++ [u])) = upd Δ.F D (.lst (us ++ [u])) := upd_upd
        rw [e] at A6
        exact ⟨G6.base, A6, G2.env.ext (((x3.trans x4).trans x5).trans x6)⟩
      | false =>
        rw [if_neg Bool.false_ne_true] at q5 ⊢
        exact ⟨I5, M5, acc, us, ((x2.trans x3).trans x4).trans x5, back G5 ((x3.trans x4).trans x5), r2.ext ((x3.trans x4).trans x5), by omega, q5⟩
    · have e : i = xs.length := by omega
      subst e
      refine .inl ⟨ok.stop _ I2 M2 H2 x2 G2.at_ hk, ?_⟩
      obtain ⟨hD1, hD2, hD3⟩ := G2.at_.fr _ _ (show (upd Δ.F D (.lst us)) D = some (.lst us) from upd_same)
      have A7 := G2.at_.memF (F0 := Δ.F) (p := D) upd_same r2 (F0 _)
      exact k _ _ _ _ _ (x1.trans x2) ⟨G1.base.trans x2, A7, G1.env.ext x2⟩ (.ref D) (pd acc M2 p2 D hD3)) q
end
section
variable {X : Cx} {Δ : DC} {e o : Expr} {de da : DE} {apos cpos : Pos} {te to : TE} {K : PySem.W.Frag} {I : Hp}
theorem Rps.eraseIdx : ∀ {vs : List V} {ds : List D} (i : Nat), Rps K I vs ds → Rps K I (vs.eraseIdx i) (ds.eraseIdx i)
  | _, _, _, .nil => .nil
  | _, _, 0, .cons _ r => r
  | _, _, i + 1, .cons a r => .cons a (Rps.eraseIdx i r)
def dPopI (da de : DE) : DE := fun env M Q => da env M fun x M1 => ∃ q xs0, x = .ref q ∧ M1 q = some (.lst xs0) ∧ de env M1 fun i M2 => ∃ (xs : List D) (j : Nat) (d : D), i = .int (j : Nat) ∧ j < 2 ^ 62 ∧ M2 q = some (.lst xs) ∧ xs[j]? = some d ∧ Q d (mset M2 q (.lst (xs.eraseIdx j)))
theorem i_popI {env : Env} {M : Mem} {Q : DKt} (q : da env M fun x M1 => ∃ q xs0, x = .ref q ∧ M1 q = some (.lst xs0) ∧ de env M1 fun i M2 => ∃ (xs : List D) (j : Nat) (d : D), i = .int (j : Nat) ∧ j < 2 ^ 62 ∧ M2 q = some (.lst xs) ∧ xs[j]? = some d ∧ Q d (mset M2 q (.lst (xs.eraseIdx j)))) : dPopI da de env M Q := q
theorem i_lcM {di : DI} {dg : DG} {dt : DT} {de : DE} {vs : List Nat} {env : Env} {M : Mem} {Q : DKt} (q : di env M fun xs keep M1 => xs.length ≤ sizeLine ∧ ∃ P : Nat → List D → Mem → Prop, P 0 [] M1 ∧ (∀ i acc M, P i acc M → keep M) ∧
  (∀ i d acc M, xs[i]? = some d → P i acc M → dg d (wipeD env vs) M fun env2 M2 => dt env2 M2 fun b M3 => if b = true then de env2 M3 fun y M4 => P (i + 1) (acc ++ [y]) M4 else P (i + 1) acc M3) ∧ ∀ acc M, P xs.length acc M → ∀ p, M p = none → Q (.ref p) (mset M p (.lst acc))) : dLcM di dg dt de vs env M Q := q
end
end BB
set_option maxHeartbeats 4000000
namespace BB
open L2 PySem PySem.Spec PyProof.Rows
section
variable {X : Cx}
def putAllK (kvs more : List (List Key × V)) : List (List Key × V) := more.foldl (fun acc p => putK acc p.1 p.2) kvs
theorem KT.putAll {H : Hp} : ∀ {more : List (List Key × V)} {ps : List (List Key × Addr × Value)} {kvs : List (List Key × V)} {xs : List (List Key × Addr × Value)}, KT H more ps → KT H kvs xs → KT H (putAllK kvs more) (storedAllH xs ps)
  | _, _, _, _, .nil, r => r
  | (k, v) :: more, (k', c, u) :: ps, kvs, xs, .cons h t, r => by
    obtain ⟨e1, e2, e3⟩ := h
    have e1 : k = k' := e1
    subst e1
    have ih := KT.putAll t (r.put k e2 e3)
    exact ih
end
end BB
set_option maxHeartbeats 4000000
namespace BB
open L2 PySem PySem.Spec PyProof.Rows
section
variable {X : Cx} {Δ : DC} {K : PySem.W.Frag} {F I J H : Hp} {M : Mem}
theorem RpT.isEmpty {kv : List (List Key × V)} {kd : List (List Key × D)} (r : RpT K I kv kd) : kv.isEmpty = kd.isEmpty := by cases r <;> rfl
def pk (p : Nat × Nat) : List Key := [Sum.inl (p.1 : Int), Sum.inl (p.2 : Int)]
def bits : List Nat → Nat
  | [] => 0
  | c :: r => bits r ||| (1 <<< c)
theorem RpT.keys : ∀ {kv : List (List Key × V)} {kd : List (List Key × D)}, RpT K I kv kd → kv.map (·.1) = kd.map (·.1)
  | _, _, .nil => rfl
  | _, _, .cons _ r => congrArg (_ :: ·) (RpT.keys r)
def putAllD (kvs more : List (List Key × D)) : List (List Key × D) := more.foldl (fun acc p => putKD acc p.1 p.2) kvs
theorem RpT.putAll : ∀ {mv : List (List Key × V)} {md : List (List Key × D)} {kv : List (List Key × V)} {kd : List (List Key × D)}, RpT K I mv md → RpT K I kv kd → RpT K I (putAllK kv mv) (putAllD kd md)
  | _, _, _, _, .nil, r => r
  | (k, v) :: mv, (_, d) :: md, kv, kd, .cons a t, r => by
    have ih := RpT.putAll t (r.put (k := k) a)
    exact ih
variable {e o : Expr} {de da : DE} {apos cpos : Pos} {te to : TE}
def dUpdT (da de : DE) : DE := fun env M Q => da env M fun x M1 => ∃ p kvs0, x = .ref p ∧ M1 p = some (.dT kvs0) ∧ de env M1 fun y M2 => ∃ kvs more, M2 p = some (.dT kvs) ∧ dctT M2 y = some more ∧ y ≠ .ref p ∧ kvs ≠ [] ∧ kvs.length + more.length ≤ sizeLine ∧ Q .non (mset M2 p (.dT (putAllD kvs more)))
end
end BB
set_option maxHeartbeats 4000000
namespace BB
open L2 PySem PySem.Spec PyProof.Rows
section
variable {X : Cx} {Δ : DC} {K : PySem.W.Frag} {F I J H : Hp} {M : Mem} {tg e : Expr} {td : TE} {de : DE}
theorem Rps.keys : ∀ ks : List Key, Rps K I (ks.map kV) (ks.map kD)
  | [] => .nil
  | .inl i :: r => .cons (.int i) (Rps.keys r)
  | .inr z :: r => .cons (.str z) (Rps.keys r)
def keyD (kv : List Key × D) : D := .htup (kv.1.map kD)
theorem RpT.at : ∀ {kv : List (List Key × V)} {kd : List (List Key × D)} {i : Nat} {k : List Key} {v : V} {d : D}, RpT K I kv kd → kv[i]? = some (k, v) → (kd.map keyD)[i]? = some d → d = .htup (k.map kD)
  | _, _, i, _, _, _, .nil, h, _ => by cases i <;> cases h
  | _, _, 0, _, _, _, .cons _ r, h, h2 => by cases h; cases h2; rfl
  | _, _, i + 1, _, _, _, .cons _ r, h, h2 => RpT.at (i := i) r h h2
def dKeys (de : DE) : DI := fun env M R => de env M fun x M1 => ∃ kvs, x = .dT kvs ∧ R (kvs.map keyD) (fun _ => True) M1
end
end BB
set_option maxHeartbeats 4000000
namespace BB
open L2 PySem PySem.Spec PyProof.Rows
section
variable {prog : Program} {w : World} {A : Around} {E : Value → Shared → Prop} {R : Result → Shared → Prop} {I S : Addr} {fp wr : List Addr} {P : Nat → Value → Prop} {St : Nat → Heap → Prop}
end
end BB
set_option maxHeartbeats 4000000
namespace BB
open L2 PySem PySem.Spec PyProof.Rows
section
variable {X : Cx}
end
end BB
set_option maxHeartbeats 4000000
namespace BB
open L2 PySem PySem.Spec PyProof.Rows
section
variable {env : Env} {M : Mem} {Q : DKt} {da de : DE} {R : List D → (Mem → Prop) → Mem → Prop}
theorem i_keys (q : de env M fun x M1 => ∃ kvs, x = .dT kvs ∧ R (kvs.map keyD) (fun _ => True) M1) : dKeys de env M R := q
theorem i_updT (q : da env M fun x M1 => ∃ p kvs0, x = .ref p ∧ M1 p = some (.dT kvs0) ∧ de env M1 fun y M2 => ∃ kvs more, M2 p = some (.dT kvs) ∧ dctT M2 y = some more ∧ y ≠ .ref p ∧ kvs ≠ [] ∧ kvs.length + more.length ≤ sizeLine ∧ Q .non (mset M2 p (.dT (putAllD kvs more)))) : dUpdT da de env M Q := q
end
end BB
set_option maxHeartbeats 4000000
namespace BB
open L2 PySem PySem.Spec PyProof.Rows
theorem exV_ok {P : Program} {w : World} {H : Hp} {h : Heap} {a : Addr} {cls : Value} {d : Option Addr} {o : Obj} (e : h.get? a = some o) (z : Zc cls d o) (f : ∃ vs, o.data = .fields vs) : ObjOk P w H h a (ExV cls d a) := by
  obtain ⟨vs, f⟩ := f
  exact ⟨⟨o, vs, e, z, f⟩, ⟨o, e⟩, fun _ _ ⟨o', v', q, r⟩ k => ⟨o', v', k o' q, r⟩⟩
section
variable {X : Cx} {pins : List (Addr × Obj)} {σ : L2.St} {H : Hp} {s : Shared}
theorem track {a : Addr} {o : HO} (I : Inv X pins σ H s) (hn : H a = none) (h0 : X.s_0.heap.get? a = none) (hL : a ≠ X.env.locals) (hC : ∀ x c, X.env.cells.lookup x = some c → c ≠ a) (hP : ∀ p ∈ X.pn ++ pins, p.1 ≠ a)
    (new : ObjOk X.prog X.w (upd H a o) s.heap a o) : Inv X pins σ (upd H a o) s := by
  have old : ∀ {b u}, X.s_0.heap.get? b = some u → b ≠ a := fun {b u} e z => by rw [z, h0] at e; cases e
  have has : ∀ {b u}, H b = some u → b ≠ a := fun {b u} e z => by rw [z, hn] at e; cases e
  have B := I.base
  refine ⟨I.ok, I.os, I.bare, ⟨B.keep, B.slot, fun b u e n x => ?_, B.there, fun b xs e => ?_, fun b u xs e => ?_, fun b ps e => ?_⟩, I.loc, I.cell, ?_, fun x c e => ?_, fun p hp => ?_, fun b u e => ?_, I.len⟩
  · rw [upd_ne (old e)]; exact B.free b u e n x
  · have q := B.tups b xs e
    rw [upd_ne (has q)]; exact q
  · have q := B.frzs b u xs e
    rw [upd_ne (has q)]; exact q
  · obtain ⟨m, q⟩ := B.tbls b ps e
    exact ⟨m, by rw [upd_ne (has q)]; exact q⟩
  · rw [upd_ne hL.symm]; exact I.free
  · rw [upd_ne (hC x c e)]; exact I.freeC x c e
  · obtain ⟨q1, q2, q3⟩ := I.pin p hp
    exact ⟨q1, by rw [upd_ne (hP p hp)]; exact q2, q3⟩
  · by_cases hb : b = a
    · subst hb
      rw [upd_same] at e; cases e
      exact new
    · rw [upd_ne hb] at e
      refine (I.hok b u e).stay (fun c v _ q => q) (fun c q => ?_) fun c xs q => ?_
      · rw [upd_ne (has q)]; exact q
      · rw [upd_ne (has q)]; exact q
end
def wKeep (K : PySem.W.Frag) (c : Value) (i : Nat) (ts : Addr → Value → Option Addr → TS) (Wout : WX) (D : Ends) : WX := fun cls d σ H => ∃ b, PySem.W.exmOne K cls c = some b ∧
  (b = true → ∀ a, H a = none → ts a cls d { nx := fun σ' H' => H' a = none → D.nx (σ'.set i none) (upd H' a (ExV cls d a)), rt := D.rt, bk := fun σ' H' => D.bk (σ'.set i none) H', ct := fun σ' H' => D.ct (σ'.set i none) H' } (σ.set i (some (.ref a))) H) ∧ (b = false → Wout cls d σ H)
section
variable {X : Cx} {x n : Str} {c : Value} {i : Nat} {body suite : List Stmt} {b₀ : Stmt} {np pos pos' : Pos} {tb : WX → TS} {ts : Addr → Value → Option Addr → TS} {Wout : WX}
theorem ps_tryKeep (hs : X.stack = X.env :: X.outer) (hf : X.env.frame = some X.env.locals) (hex : X.ex = []) (hN : X.N.Nodup) (hi : X.N[i]? = some n) (hln : X.env.kindOf n = some .local) (hc : Names X x c) (tk : Takes X Wout)
    (hb : ∀ (W : WX) (pn : List (Addr × Obj)) (xe : Value → Shared → Prop), Takes (X.tr pn xe) W → PassesOwn (model X.prog X.w) X.A X.env xe → PSs (X.tr pn xe) body (tb W))
    (hsu : ∀ (a : Addr) (oe : Obj) (cls : Value) (d : Option Addr) (pn : List (Addr × Obj)), Zc cls d oe → (∃ vs, oe.data = .fields vs) → PSs (X.suite a ((a, oe) :: pn)) (b₀ :: suite) (ts a cls d)) :
    PS X (.Try body [.ExceptHandler (some (.Name x np)) (some n) (b₀ :: suite) pos'] [] [] pos) (fun D σ H => tb (wKeep X.K c i ts Wout D) D σ H) := by
  refine ⟨fun pins s σ H D I0 h => wpAny_Try_except ?_⟩
  obtain ⟨W, hW⟩ : ∃ W, W = wKeep X.K c i ts Wout D := ⟨_, rfl⟩
  rw [← hW] at h
  obtain ⟨CL, hCL⟩ : ∃ CL : List ExceptHandler, CL = [.ExceptHandler (some (.Name x np)) (some n) (b₀ :: suite) pos'] := ⟨_, rfl⟩
  rw [← hCL]
  have meet : ∀ u s', XE (X.tr (X.pn ++ pins) (fun e s₁ => wpAny (model X.prog X.w) X.A (noteFrame e X.env) (fun _ s₂ => wpAny (model X.prog X.w) X.A (setFlight e none) (fun _ s₃ => wpAny (model X.prog X.w) X.A (handleBy e X.env CL) (SP X pins D) X.xe s₃) X.xe s₂) X.xe s₁)) W u s' →
      wpAny (model X.prog X.w) X.A (noteFrame u X.env) (fun _ s₂ => wpAny (model X.prog X.w) X.A (setFlight u none) (fun _ s₃ => wpAny (model X.prog X.w) X.A (handleBy u X.env CL) (SP X pins D) X.xe s₃) X.xe s₂) X.xe s' := by
    intro u s' xx
    obtain ⟨a, G, t, pins', σ', H', cls, d, eu, J0, inG, up, sky, na, os, ag, wish⟩ := xx
    subst eu
    have J : Inv X pins σ' H' t := J0.ofTry I0.ok
    have fr : X.A.frames = some (X.env :: X.outer) := I0.ok.frames.trans (congrArg some hs)
    have gone : G.get? a = none ∧ a ∉ frs (X.env :: X.outer) := by
      have feet : ∀ {h : Heap} {o : Obj} {vs : Array Value}, h.FunFrames G (X.env :: X.outer) → h.get? a = some o → o.data = .fields vs → a ∉ frs (X.env :: X.outer) := fun ff e q hm => by
        obtain ⟨_, o2, e2, hne⟩ := ff.mem hm
        cases e.symm.trans e2
        exact hne _ q
      rw [show (X.tr (X.pn ++ pins) _).stack = X.env :: X.outer from hs] at sky
      rcases sky with ⟨_, g, ff, o, vs, e, _, q, _⟩ | fl | fl
      · exact ⟨g, feet ff e q⟩
      · obtain ⟨_, _, e, _, q⟩ := fl.there
        exact ⟨fl.2.1, feet fl.2.2.1 e q⟩
      · obtain ⟨_, _, _, _, _, e, _, q, _⟩ := fl.2.2.2
        exact ⟨fl.2.1, feet fl.2.2.1 e q⟩
    have notT : t.heap.get? a = none := by
      cases e : t.heap.get? a with
      | none => rfl
      | some o =>
        have e2 := inG a o e (by rw [show (X.tr (X.pn ++ pins) _).stack = X.env :: X.outer from hs]; exact gone.2)
        rw [gone.1] at e2; cases e2
    have not0 : X.s_0.heap.get? a = none := by
      cases e : X.s_0.heap.get? a with
      | none => rfl
      | some o =>
        obtain ⟨o2, e2⟩ := J.base.there a o e (by rw [hex]; exact List.not_mem_nil)
        rw [notT] at e2; cases e2
    have aL : a ≠ X.env.locals := fun z => by
      obtain ⟨m, ⟨o, _, _, e, _⟩, _⟩ := J.loc
      rw [← z, notT] at e; cases e
    have aC : ∀ y k, X.env.cells.lookup y = some k → k ≠ a := fun y k e z => by
      obtain ⟨_, o, eo, _⟩ := J.cell y k e
      rw [z, notT] at eo; cases eo
    have aP : ∀ p ∈ X.pn ++ pins, p.1 ≠ a := fun p hp z => by
      have := (J.pin p hp).1
      rw [z, notT] at this; cases this
    have aF : a ∉ X.fs := fun hm => gone.2 (by
      obtain ⟨e, he, q⟩ := List.mem_filterMap.mp hm
      exact List.mem_filterMap.mpr ⟨e, List.mem_cons_of_mem _ he, q⟩)
    rw [hW] at wish
    obtain ⟨b, hb1, yes, no⟩ := wish
    rw [show (X.tr (X.pn ++ pins) _).stack = X.env :: X.outer from hs] at sky
    refine Sky.land Zc.steady fr hf sky fun h3 fl up3 => ?_
    have at3 : Inv X pins σ' H' { s' with heap := h3 } := J.landed inG fl.1 (up.trans up3) os ag
    obtain ⟨o3, v3, e3, z3, f3⟩ := fl.there
    have in3 := at3.suite e3 f3 na aL aF
    rw [hCL]
    refine wpAny_handleBy_cons (codeAny_handlers_test ?_) (fun q => by cases q)
    have asked : wpAny (model X.prog X.w) (X.A.mark (some (.ref a))) (eval (.Name x np) X.env) (fun v s4 => v = c ∧ s4 = { s' with heap := h3 }) (fun _ _ => False) { s' with heap := h3 } := by
      obtain ⟨g1, g2, g3 | ⟨g3, g4, g5⟩⟩ := hc
      · exact ld_glob (X := X.suite a ((a, o3) :: (X.pn ++ pins))) in3 g1 g3 ⟨rfl, rfl⟩ g2
      · exact ld_blt (X := X.suite a ((a, o3) :: (X.pn ++ pins))) in3 g1 g3 g4 ⟨rfl, rfl⟩ g5 g2
    refine wpAny_mono asked (fun v s4 q => ?_) fun _ _ q => q.elim
    obtain ⟨rfl, rfl⟩ := q
    have kind : PySem.W.Looks (model X.prog X.w) h3 (typeOf (.ref a)) cls := fun A Q E s k q => wpAny_typeOf_ref (k _ _ e3) (z3.1.symm ▸ q)
    refine (PySem.W.exm_one (M := model X.prog X.w) at3.kIn kind hb1).here ?_
    cases b with
    | false =>
      show wpAny _ X.A (handleBy (.ref a) X.env []) _ _ _
      refine wpAny_handleBy_nil ?_
      obtain ⟨_, _, _, o, vs, T, _, _, e, _, f, hv, _⟩ := id fl
      have on : wpAny (model X.prog X.w) X.A (setFlight (.ref a) X.env.frame) (fun _ s4 => wpAny (model X.prog X.w) X.A (throw (.ref a) : Sem Flow) (SP X pins D) X.xe s4) X.xe { s' with heap := h3 } := by
        rw [hf]
        refine HandSPX.setFlight_upZ fl fun h4 held up4 => wpAny_throw (tk _ _ ⟨a, G, t, pins, σ', H', cls, d, rfl, J, inG, (up.trans up3).trans up4, .inr (.inr ?_), na, os, ag, no rfl⟩)
        rw [hs]; exact held
      unfold PySem.passOn
      refine wpAny_bind (wpAny_field e f hv ?_)
      rw [if_neg (by simp : ¬ ((Value.ref T == Value.none) = true))]
      first | exact wpAny_bind on | exact wpAny_bind (wpAny_pure (wpAny_bind on))
    | true =>
      refine codeAny_handlers_suite_as (HandSPX.lands_againZ fl fun h4 fl4 up4 => ?_)
      have at4 : Inv X pins σ' H' { s' with heap := h4 } := J.landed inG fl4.1 ((up.trans up3).trans up4) os ag
      obtain ⟨o4, v4, e4, z4, f4⟩ := fl4.there
      refine store_ok (X := X.suite a ((a, o4) :: (X.pn ++ pins))) (v := .ref a) (at4.suite e4 f4 na aL aF) hN hi (.inl hln) rfl (fun s5 in5 => ?_) (.inr hln)
      refine wpAny_mono ((hsu a o4 cls d (X.pn ++ pins) z4 ⟨_, f4⟩).run [] s5 _ H' _ in5 (yes rfl a na)) (fun f s6 out => ?_) fun _ _ z => z.elim
      cases f with
      | next =>
        obtain ⟨σ6, H6, in6, q6⟩ := out
        obtain ⟨p1, p2, _⟩ := in6.pin (a, o4) (List.mem_append_left _ List.mem_cons_self)
        have kept : Inv X pins σ6 (upd H6 a (ExV cls d a)) s6 := track (in6.unsuite I0.ok) p2 not0 aL aC aP (exV_ok p1 z4 ⟨_, f4⟩)
        exact gone_ok kept hN hi hln fun s7 in7 => ⟨_, _, in7, q6 p2⟩
      | brk =>
        obtain ⟨σ6, H6, in6, q6⟩ := out
        exact gone_ok (in6.unsuite I0.ok) hN hi hln fun s7 in7 => ⟨_, _, in7, q6⟩
      | cont =>
        obtain ⟨σ6, H6, in6, q6⟩ := out
        exact gone_ok (in6.unsuite I0.ok) hN hi hln fun s7 in7 => ⟨_, _, in7, q6⟩
      | ret u =>
        obtain ⟨v6, σ6, H6, in6, r6, q6⟩ := out
        exact gone_ok (in6.unsuite I0.ok) hN hi hln fun s7 in7 => ⟨_, _, _, in7, r6, q6⟩
  refine wpAny_mono ((hb W (X.pn ++ pins) _ meet PassesOwn.looking).run [] s σ H D (I0.toTry _) h) (fun f s1 out => ?_) fun e s1 q => q
  cases f with
  | next =>
    obtain ⟨σ1, H1, J1, q1⟩ := out
    exact wpAny_execs_nil ⟨σ1, H1, J1.ofTry I0.ok, q1⟩
  | brk =>
    obtain ⟨σ1, H1, J1, q1⟩ := out
    exact ⟨σ1, H1, J1.ofTry I0.ok, q1⟩
  | cont =>
    obtain ⟨σ1, H1, J1, q1⟩ := out
    exact ⟨σ1, H1, J1.ofTry I0.ok, q1⟩
  | ret u =>
    obtain ⟨v1, σ1, H1, J1, r1, q1⟩ := out
    exact ⟨v1, σ1, H1, J1.ofTry I0.ok, r1, q1⟩
end
end BB
set_option maxHeartbeats 4000000
namespace BB
open L2 PySem PySem.Spec PyProof.Rows
theorem ExcR.ext {K : PySem.W.Frag} {I J : Hp} {fs : List (Str × D)} {d : Option Addr} (x : Ext I J) (h : ExcR K I fs d) : ExcR K J fs d := by
  cases d with
  | none => exact h
  | some dd => obtain ⟨fvs, h1, h2⟩ := h; exact ⟨fvs, x.xd h1, RpF.ext x h2⟩
theorem Rp.exc {K : PySem.W.Frag} {I : Hp} {a : Addr} {c : Value} {d : Option Addr} {fs : List (Str × D)} (h : I a = some (ExV c d a)) (er : ExcR K I fs d) : Rp K I (.ref a) (.exc c fs) := by
  cases d with
  | none => cases er; exact .exc0 h
  | some dd => obtain ⟨fvs, h1, h2⟩ := er; exact .excD h h1 h2
theorem Rp.exc_inv {K : PySem.W.Frag} {I : Hp} {v : V} {c : Value} {fs : List (Str × D)} (h : Rp K I v (.exc c fs)) : ∃ a d, v = .ref a ∧ I a = some (ExV c d a) ∧ ExcR K I fs d := by
  cases h with
  | exc0 h => exact ⟨_, none, rfl, h, rfl⟩
  | excD h h1 h2 => exact ⟨_, some _, rfl, h, _, h1, h2⟩
def seenX (a : Addr) (c : Value) (fs : List (Str × D)) : Option D → Option D
  | some (.ref b) => if b = a then some (.exc c fs) else some (.ref b)
  | o => o
theorem EnvR.seen {K : PySem.W.Frag} {I : Hp} {σ : L2.St} {env : Env} {a : Addr} {c : Value} {d : Option Addr} {fs : List (Str × D)} (R : EnvR K I σ env) (h : I a = some (ExV c d a)) (er : ExcR K I fs d) : EnvR K I σ (env.map (seenX a c fs)) := by
  refine ⟨by rw [List.length_map]; exact R.len, fun i x hx => ?_⟩
  rw [List.getElem?_map] at hx
  cases e : env[i]? with
  | none => rw [e] at hx; cases hx
  | some o =>
    rw [e] at hx
    have hx : seenX a c fs o = some x := Option.some.inj hx
    cases o with
    | none => cases hx
    | some y =>
      by_cases hy : y = .ref a
      · subst hy
        have e2 : seenX a c fs (some (.ref a)) = some (.exc c fs) := if_pos rfl
        rw [e2] at hx
        cases hx
        obtain ⟨v, hv, rv⟩ := R.get i (.ref a) e
        rw [rv.ref_inv] at hv
        exact ⟨_, hv, Rp.exc h er⟩
      · have e2 : seenX a c fs (some y) = some y := by
          cases y <;> first | rfl | exact if_neg (fun z => hy (by rw [z]))
        rw [e2] at hx
        cases hx
        exact R.get i _ e
def wKeepD (K : PySem.W.Frag) (c : Value) (i : Nat) (us : Addr → Value → List (Str × D) → DS) (Wout : DW) (T : EndsD) : DW := fun cls fs env M => ∃ b, PySem.W.exmOne K cls c = some b ∧
  (b = true → ∀ a, us a cls fs { nx := fun env' M' => T.nx ((env'.set i none).map (seenX a cls fs)) M', rt := T.rt, bk := fun env' M' => T.bk (env'.set i none) M', ct := fun env' M' => T.ct (env'.set i none) M' } (env.set i (some (.ref a))) M) ∧ (b = false → Wout cls fs env M)
def dTryKeep (K : PySem.W.Frag) (c : Value) (i : Nat) (us : Addr → Value → List (Str × D) → DS) (Wd : DW) (db : DW → DS) : DS := fun T env M => db (wKeepD K c i us Wd T) T env M
section
variable {X : Cx} {Δ : DC} {x n : Str} {c : Value} {i : Nat} {body suite : List Stmt} {b₀ : Stmt} {np pos pos' : Pos} {tb : WX → TS} {db : DW → DS} {ts : Addr → Value → Option Addr → TS} {us : Addr → Value → List (Str × D) → DS}
theorem pds_tryKeep (hs : X.stack = X.env :: X.outer) (hf : X.env.frame = some X.env.locals) (hex : X.ex = []) (hN : X.N.Nodup) (hi : X.N[i]? = some n) (hln : X.env.kindOf n = some .local) (hc : Names X x c) (xo : XOk X Δ)
    (hb : BodyOk X Δ body tb db) (hsu : SuiteOk X Δ (b₀ :: suite) ts us) :
    PDs X Δ (.Try body [.ExceptHandler (some (.Name x np)) (some n) (b₀ :: suite) pos'] [] [] pos) (fun D σ H => tb (wKeep X.K c i ts Δ.W D) D σ H) (dTryKeep X.K c i us Δ.Wd db) := by
  refine ⟨ps_tryKeep hs hf hex hN hi hln hc xo.takes (fun W pn xe tk po => (hb Δ.I0 W noD pn xe (Ext.refl _) ⟨tk, fun _ _ h => h.elim⟩ po).1) (fun a oe cls d pn hz hd => ?_), fun I M H σ env G T Td R h => ?_⟩
  · obtain ⟨I0, fs, er⟩ := exc_some X.K d
    exact (hsu a oe cls d pn I0 fs hz hd er).1
  · refine body_run hs hf hex hb G (fun {I' M' H' σ' env' cls fs d} x' G' er w => ?_) R h
    obtain ⟨b, e, yes, no⟩ := w
    refine ⟨b, e, fun hy a ha => ?_, fun hn => xo.link G' er (no hn)⟩
    have R' := R.ext x'
    refine suite_run hsu (I := I') (Td := { nx := fun env' M' => Td.nx ((env'.set i none).map (seenX a cls fs)) M', rt := Td.rt, bk := fun env' M' => Td.bk (env'.set i none) M', ct := fun env' M' => Td.ct (env'.set i none) M' }) (Ext.refl I') (G'.set (.ref a)) er ⟨fun env M I2 H2 σ2 x2 G2 q => ?_, fun env M I2 H2 σ2 x2 G2 q => ?_, fun env M I2 H2 σ2 x2 G2 q => ?_, R'.rt⟩ (yes hy a)
    · intro hn
      have hI : I2 a = none := G2.at_.freeI hn
      have x3 : Ext I2 (upd I2 a (ExV cls d a)) := Ext.new hI
      refine R'.nx _ _ (upd I2 a (ExV cls d a)) _ _ (x2.trans x3) ⟨G2.base.trans x3, G2.at_.newI hn _, ?_⟩ q
      exact EnvR.seen (G2.env.setN.ext x3) upd_same (er.ext (x2.trans x3))
    · exact R'.bk _ _ _ _ _ x2 ⟨G2.base, G2.at_, G2.env.setN⟩ q
    · exact R'.ct _ _ _ _ _ x2 ⟨G2.base, G2.at_, G2.env.setN⟩ q
theorem pds_tryKeepX (hs : X.stack = X.env :: X.outer) (hf : X.env.frame = some X.env.locals) (hex : X.ex = []) (hN : X.N.Nodup) (hi : X.N[i]? = some n) (hln : X.env.kindOf n = some .local) (hc : Names X x c) (xo : XOk X Δ)
    (hb : BodyX X Δ body db) (hsu : SuiteX X Δ (b₀ :: suite) us) :
    PDs X Δ (.Try body [.ExceptHandler (some (.Name x np)) (some n) (b₀ :: suite) pos'] [] [] pos) (fun D σ H => lfB X Δ db (wKeep X.K c i (lfU X Δ us) Δ.W D) D σ H) (dTryKeep X.K c i us Δ.Wd db) :=
  pds_tryKeep hs hf hex hN hi hln hc xo (bodyX hb) (suiteX hsu)
end
structure ExcQ (K : PySem.W.Frag) (C : Addr) : Prop where
  xf : XfC K C
  atr : PySem.W.findIn K (.ref C) "__class__" = some (.some (.builtin "object.__class__"))
  got : PySem.W.specialIn K (.builtin "object.__class__") "__get__" = some (.some (.builtin "getset_descriptor.__get__"))
  tak : PySem.W.takesIn K (.builtin "object.__class__") = .some true
  all : PySem.W.mroIn K C (.type "object") = .some true
theorem excQ_ok {K : PySem.W.Frag} {x : Str} (c1 : (Bf.xf x).ok K = true) (c : (Bf.isi x).ok K = true) : ExcQ K (He.ga K x) := by
  obtain ⟨h1, c⟩ := He.ba c
  obtain ⟨h2, c⟩ := He.ba c
  obtain ⟨h3, h4⟩ := He.ba c
  exact ⟨xf_ok c1, He.eqO_ok h1, He.eqO_ok h2, of_decide_eq_true h3, of_decide_eq_true h4⟩
def rIsiE (K : PySem.W.Frag) : List V → Hp → VK → Prop := fun xs H Q => ∃ (a C : Addr) (d : Option Addr) (c : V) (cv : Value) (b : Bool), xs = [.ref a, c] ∧ H a = some (ExV (.ref C) d a) ∧ (∀ dd, d = some dd → ∃ fs, H dd = some (.xd fs)) ∧ ExcQ K C ∧ (∀ u, RelV c u → u = cv) ∧ PySem.W.kitOne K (.ref C) cv = some b ∧ Q (.bl b) H
theorem call_isiE {X : Cx} : CallR X (.builtin "isinstance") (rIsiE X.K) := by
  intro pins s σ H xs us Q I r h
  obtain ⟨a, C, d, c, cv, b, rfl, h1, hd, q, hcv, hk, hq⟩ := h
  match us, r with
  | [_, u], .cons rx (.cons rt .nil) =>
    cases rx
    cases hcv _ rt
    obtain ⟨⟨o, vs, e, z, f⟩, _⟩ := I.hok a _ h1
    obtain ⟨od, J⟩ : ∃ od, PySem.W.InstAt s.heap a o C od := by
      have no : PySem.W.notCls o = true := by unfold PySem.W.notCls; rw [f]
      cases d with
      | none => exact ⟨none, e, z.1, no, by rw [z.2]; trivial⟩
      | some dd =>
        obtain ⟨fs, hx⟩ := hd dd rfl
        obtain ⟨mA, hns, _⟩ := I.hok dd _ hx
        obtain ⟨od, ho, _⟩ := lookIn_ns hns
        exact ⟨some od, e, z.1, no, by rw [z.2]; exact ho⟩
    obtain ⟨cd, hcl, _⟩ := PySem.W.any_some q.xf.hdC
    exact PySem.W.kia_one (PySem.W.kitx_exc (x := a) (ox := o) (od := od) (by rw [hcl]; rfl) q.xf.ga q.xf.gg q.xf.exC q.atr q.got q.tak q.all) I.kIn J hk (fun z => nomatch z) fun tk => ⟨.bl b, H, I.tok _, rfl, hq⟩
abbrev rIsiX (K : PySem.W.Frag) : List V → Hp → VK → Prop := fun xs H Q => rIsi K xs H Q ∨ rIsiE K xs H Q
theorem call_isiX {X : Cx} : CallR X (.builtin "isinstance") (rIsiX X.K) := CallR.or call_isi call_isiE
def rdIsiX (K : PySem.W.Frag) : RDC := fun ds M Q => rdIsiO K ds M Q ∨ ∃ C fs C' b, ds = [.exc (.ref C) fs, .ref C'] ∧ ExcQ K C ∧ PySem.W.kitOne K (.ref C) (.ref C') = some b ∧ Q (.bl b) M
theorem snd_isiX {X : Cx} : SndC X (rIsiX X.K) (rdIsiX X.K) := by
  intro Δ I M H σ env G vs ds r Q Qd k h
  rcases h with h | ⟨C, fs, C', b, e, hq, hk, q⟩
  · exact .inl (snd_isiO Δ I M H σ env G vs ds r Q Qd k h)
  · subst e
    obtain ⟨v, u, rfl, rv, ru⟩ := r.two_inv
    rw [ru.ref_inv]
    obtain ⟨a, d, rfl, h1, er⟩ := rv.exc_inv
    refine .inr ⟨a, C, d, .ref C', .ref C', b, rfl, G.at_.ex _ _ h1, fun dd hd => ?_, hq, fun u hu => hu, hk, k _ _ _ _ _ (Ext.refl I) G (.bl b) q⟩
    subst hd
    obtain ⟨fvs, h2, _⟩ := er
    exact ⟨fvs, G.at_.ex _ _ h2⟩
def rdIsiY (K : PySem.W.Frag) : RDC := fun ds M Q => rdIsi ds M Q ∨ ∃ C fs T b, ds = [.exc (.ref C) fs, .ty T] ∧ ExcQ K C ∧ PySem.W.kitOne K (.ref C) (.type T) = some b ∧ Q (.bl b) M
theorem snd_isiY {X : Cx} : SndC X (rIsiX X.K) (rdIsiY X.K) := by
  intro Δ I M H σ env G vs ds r Q Qd k h
  rcases h with h | ⟨C, fs, T, b, e, hq, hk, q⟩
  · exact .inl (snd_isi Δ I M H σ env G vs ds r Q Qd k h)
  · subst e
    obtain ⟨v, u, rfl, rv, ru⟩ := r.two_inv
    rw [ru.ty_inv]
    obtain ⟨a, d, rfl, h1, er⟩ := rv.exc_inv
    refine .inr ⟨a, C, d, .ty T, .type T, b, rfl, G.at_.ex _ _ h1, fun dd hd => ?_, hq, fun u hu => hu, hk, k _ _ _ _ _ (Ext.refl I) G (.bl b) q⟩
    subst hd
    obtain ⟨fvs, h2, _⟩ := er
    exact ⟨fvs, G.at_.ex _ _ h2⟩
theorem i_isiX {K : PySem.W.Frag} {M : Mem} {Q : DKt} {C C' : Addr} {fs : List (Str × D)} {b : Bool} (h1 : ExcQ K C) (h2 : PySem.W.kitOne K (.ref C) (.ref C') = some b) (q : Q (.bl b) M) : rdIsiX K [.exc (.ref C) fs, .ref C'] M Q := .inr ⟨C, fs, C', b, rfl, h1, h2, q⟩
theorem i_isiY {K : PySem.W.Frag} {M : Mem} {Q : DKt} {C : Addr} {T : String} {fs : List (Str × D)} {b : Bool} (h1 : ExcQ K C) (h2 : PySem.W.kitOne K (.ref C) (.type T) = some b) (q : Q (.bl b) M) : rdIsiY K [.exc (.ref C) fs, .ty T] M Q := .inr ⟨C, fs, T, b, rfl, h1, h2, q⟩
end BB
set_option maxHeartbeats 4000000
namespace BB
open L2 PySem PySem.Spec PyProof.Rows
section
variable {κ α : Type} [DecidableEq κ]
end
section
variable {K : PySem.W.Frag} {I : Hp}
end
section
variable {X : Cx}
variable {Δ : DC} {a b : Expr} {ta tb : TE} {da db : DE} {p p2 pos pos2 : Pos}
end
end BB
set_option maxHeartbeats 4000000
namespace PySem
namespace HandSPX
section
variable {M : Model} {A : Around} {E : Value → Shared → Prop} {h : Heap} {g : Array GenState} {d : Drawn} {t : Nat} {os : OsState}
variable {nm q : Str} {C N : Addr} {bs bm bmB : List Value} {hdct : Bool} {sn : List Str} {sub : List Value} {ab : Bool} {col : Option Bool} {dd : Option Addr} {k0 k1 k2 k3 k5 : Option Value} {B newId initId : String}
end
section
variable {prog : Program} {w : World} {A : Around} {E : Value → Shared → Prop} {R : Result → Shared → Prop} {h : Heap} {g : Array GenState} {d : Drawn} {t : Nat} {os : OsState}
variable {nm q : Str} {C N : Addr} {bs bm bmB : List Value} {hdct : Bool} {sn : List Str} {sub : List Value} {ab : Bool} {col : Option Bool} {dd : Option Addr} {k0 k1 k2 k3 k5 : Option Value} {B newId initId : String}
end
end HandSPX
end PySem
set_option maxHeartbeats 4000000
namespace BB
open L2 PySem PySem.Spec PyProof.Rows
section
variable {X : Cx} {e : Expr}
end
end BB
set_option maxHeartbeats 4000000
namespace BB
open L2 PySem PySem.Spec PyProof.Rows
section
variable {X : Cx} {Δ : DC} {e : Expr} {te : TE} {de : DE} {x fn : Str} {C fI : Addr} {p pos kpos : Pos} {k : Nat} {fd : FuncData} {ps : List Str}
def ExcF (K : PySem.W.Frag) (C : Addr) (fn : Str) : Prop := XfC K C ∧ PySem.W.findIn K (.ref C) fn = some none
def tXv (K : PySem.W.Frag) (f : Str) (te : TE) : TE := fun σ H Q => te σ H fun x H1 => ∃ (a C dd : Addr) (fs : List (Str × V)) (v : V), x = .ref a ∧ ExcF K C f ∧ H1 a = some (ExV (.ref C) (some dd) a) ∧ H1 dd = some (.xd fs) ∧ fs.lookup f = some v ∧ Q v H1
theorem pe_xv (he : PE X e te) (hb : attributeBase e fn X.env (eval e X.env) = eval e X.env) : PE X (.Attribute e fn pos) (tXv X.K fn te) := by
  refine ⟨fun pins s σ H Q I h => ?_⟩
  refine attr_of hb (thn (he.run pins s σ H _ I h) fun u s1 hh => ?_)
  obtain ⟨x, H1, I1, rx, a, C, dd, fs, v, ex, ⟨T, hno⟩, ha, ea, l, q⟩ := hh
  subst ex
  obtain rfl : u = Value.ref a := rx
  obtain ⟨⟨oe, vs, ho, hz, hd⟩, _⟩ := I1.hok a _ ha
  have hx : ObjOk X.prog X.w H1 s1.heap dd (.xd fs) := I1.hok dd _ ea
  obtain ⟨mA, hns, hr⟩ := hx
  obtain ⟨od, ho2, hl⟩ := lookIn_ns hns
  obtain ⟨u, hu, ru⟩ := RelO.some_of (v := v) (o := mA fn) (by rw [← l]; exact hr fn)
  have J : PySem.W.InstAt s1.heap a oe C (some od) := ⟨ho, hz.1, by unfold PySem.W.notCls; rw [hd] <;> rfl, by rw [hz.2]; exact ho2⟩
  exact HandSPX.exc_get I1.kIn J T.ga T.gg T.exC (PySem.W.findObj_own T.hdC hno rfl (by rw [hl, hu])) (handed_of ru) ⟨v, H1, I1.tok _, ru, q⟩
def dXv (K : PySem.W.Frag) (f : Str) (de : DE) : DE := fun env M Q => de env M fun x M1 => ∃ (C : Addr) (fs : List (Str × D)) (d : D), x = .exc (.ref C) fs ∧ ExcF K C f ∧ fs.lookup f = some d ∧ Q d M1
theorem pd_xv (ha : PDe X Δ e te de) (hb : attributeBase e fn X.env (eval e X.env) = eval e X.env := by rfl) : PDe X Δ (.Attribute e fn pos) (tXv X.K fn te) (dXv X.K fn de) :=
  ⟨pe_xv ha.1 hb, fun I M H σ env G Q Qd k h => ha.2 I M H σ env G _ _ (fun d M1 I1 H1 v x1 G1 r1 ⟨C, fs, d', ex, hF, hl, q⟩ => by
    subst ex
    obtain ⟨a, dd, rfl, h1, er⟩ := r1.exc_inv
    cases dd with
    | none => cases er; cases hl
    | some dd =>
      obtain ⟨fvs, h2, h3⟩ := er
      obtain ⟨v', l', r'⟩ := h3.look hl
      exact ⟨a, C, dd, fvs, v', rfl, hF, G1.at_.ex _ _ h1, G1.at_.ex _ _ h2, l', k _ _ _ _ _ x1 G1 r' q⟩) h⟩
end
end BB
set_option maxHeartbeats 4000000
namespace BB
open L2 PySem PySem.Spec PyProof.Rows PySem.Froz
def TSet (P : Program) (w : World) (h : Heap) (a : Addr) (l : List Str) : Prop :=
  ∃ D, h.get? a = some (sObj "set" D) ∧ TxOk P w D l ∧ Ris D.2.2.place.toList ∧ (w.params.followText "set-order" = true ∨ D.2.2.led = true) ∧ l.Nodup ∧ ∃ vs, Vals (l.map V.str) vs ∧ (D.1.toList.map (·.2)).Perm vs
section
variable {P : Program} {w : World} {A : Around} {E : Value → Shared → Prop} {s : Shared} {a : Addr} {l : List Str}
theorem TSet.at {h h' : Heap} (T : TSet P w h a l) (k : ∀ o, h.get? a = some o → h'.get? a = some o) : TSet P w h' a l := by
  obtain ⟨D, e, r⟩ := T
  exact ⟨D, k _ e, r⟩
end
end BB
set_option maxHeartbeats 4000000
namespace BB
open L2 PySem PySem.Spec PyProof.Rows PySem.Froz
section
variable {P : Program} {w : World} {A : Around} {E : Value → Shared → Prop} {s : Shared}
end
end BB
set_option maxHeartbeats 4000000
namespace BB
open L2 PySem PySem.Spec PyProof.Rows PySem.Froz
section
variable {P : Program} {w : World} {A : Around} {E : Value → Shared → Prop} {s : Shared} {a : Addr} {m : List Str}
end
section
variable {X : Cx}
end
end BB
set_option maxHeartbeats 4000000
namespace BB
open L2 PySem PySem.Spec PyProof.Rows
def isT (z : Str) : Value → Bool
  | .str y _ => y == z
  | _ => false
section
variable {X : Cx}
end
section
variable {X : Cx} {Δ : DC} {e o : Expr} {da de : DE} {apos cpos : Pos} {to te : TE}
end
end BB
set_option maxHeartbeats 4000000
namespace BB
open L2 PySem PySem.Spec PyProof.Rows
def Made (H H1 : Hp) (P c' : Addr) (q : Str) (ps : Array Value) : Prop :=
  (H1 = H ∧ ∃ pos, codeAmong pos ps.toList = some (.ref c')) ∨
  (H c' = none ∧ ∃ qs : Array Value, H1 = upd (upd H P (.tbl qs)) c' (LamX.CodeO c' q) ∧ TriplesOk qs.toList ∧ ∀ pos cv, codeAmong pos qs.toList = some cv → codeAmong pos ps.toList = some cv ∨ cv = .ref c')
structure Fn0 (X : Cx) (s : Shared) (H : Hp) (params : Arguments) (body : Expr) (scope : Scope) (f c' : Addr) : Prop where
  obj : ∃ pm ctv, s.heap.get? f = some (PySem.W.kla_obj "<lambda>" (X.env.qual ++ "<lambda>") params body scope (cloFrom X.env.cells scope.names []) pm c' ctv)
  un : H f = none
  fr : f ∉ frs X.stack
section
variable {X : Cx} {pins : List (Addr × Obj)} {σ : L2.St} {H : Hp} {s : Shared} {c P : Addr} {params : Arguments} {body : Expr} {scope : Scope} {pos : Pos} {ps : Array Value}
end
theorem At.made {K : PySem.W.Frag} {F I H H1 : Hp} {M : Mem} {P c' : Addr} {q : Str} {ps : Array Value} (A : At K F I M H) (hP : M P = some (.tab q)) (hH : H P = some (.tbl ps)) (known : ∀ pos cv, codeAmong pos ps.toList = some cv → ∃ c, cv = .ref c ∧ I c = some (LamX.CodeO c q))
    (m : Made H H1 P c' q ps) : ∃ J, Ext I J ∧ At K F J M H1 ∧ J c' = some (LamX.CodeO c' q) := by
  rcases m with ⟨rfl, pos, hc⟩ | ⟨noC, qs, rfl, tri, old⟩
  · obtain ⟨c, e, h⟩ := known pos _ hc
    cases e
    exact ⟨I, Ext.refl I, A, h⟩
  · have ne : c' ≠ P := fun z => by rw [z, hH] at noC; cases noC
    have x : Ext I (upd I c' (LamX.CodeO c' q)) := Ext.new (A.freeI noC)
    have A1 := A.newI noC (LamX.CodeO c' q)
    have A2 := A1.write (m' := .tab q) (o := .tbl qs) hP (fun _ z => by cases z) ⟨qs, upd_same, tri, fun pos cv hc => by
      rcases old pos cv hc with h | h
      · obtain ⟨c, e, hI⟩ := known pos cv h
        exact ⟨c, e, by rw [upd_ne (fun z => by rw [z, A.freeI noC] at hI; cases hI)]; exact hI⟩
      · exact ⟨c', h, upd_same⟩⟩
    have eM : mset M P (.tab q) = M := by
      funext b
      by_cases hb : b = P
      · rw [hb, mset_same, hP]
      · rw [mset_ne hb]
    have eH : upd (upd H c' (LamX.CodeO c' q)) P (.tbl qs) = upd (upd H P (.tbl qs)) c' (LamX.CodeO c' q) := by
      funext b
      by_cases h1 : b = P
      · rw [h1, upd_same, upd_ne ne.symm, upd_same]
      · by_cases h2 : b = c'
        · rw [h2, upd_ne ne, upd_same, upd_same]
        · rw [upd_ne h1, upd_ne h2, upd_ne h2, upd_ne h1]
    rw [eM, eH] at A2
    exact ⟨_, x, A2, upd_same⟩
end BB
set_option maxHeartbeats 4000000
namespace BB
open L2 PySem PySem.Spec PyProof.Rows
section
variable {X : Cx} {pins : List (Addr × Obj)} {σ : L2.St} {H : Hp} {s : Shared} {params : Arguments} {body : Expr} {scope : Scope} {f c' g : Addr} {N : List Str} {q : Str} {sc : Scope} {cd : Value} {Eg : XK} {pn : List (Addr × Obj)} {xe : Value → Shared → Prop} {W : WX} {k : Nat} {a : Str} {p1 p2 : Pos}
end
end BB
set_option maxHeartbeats 4000000
namespace BB
open L2 PySem PySem.Spec PyProof.Rows
abbrev ThkD := DX → Mem → DKt → Prop
theorem Ext.code {I J : Hp} (x : Ext I J) {c : Addr} {q : Str} (h : I c = some (LamX.CodeO c q)) : J c = some (LamX.CodeO c q) := by
  obtain ⟨o, h1, e⟩ := x.1 c _ h
  rw [h1]
  exact congrArg some (strip_ext e)
section
variable {X : Cx} {pins : List (Addr × Obj)} {σ : L2.St} {H : Hp} {s : Shared} {params : Arguments} {body : Expr} {scope : Scope} {f c' g : Addr} {N : List Str} {q : Str} {sc : Scope} {cd : Value} {Eg : XK} {k : Nat} {a : Str} {I0 : Hp} {env : Env} {db : DW → DE}
end
section
variable {base : Heap} {mg : Str → Option Value} {K : PySem.W.Frag} {P : Program} {w : World}
end
section
variable {X : Cx} {Δ : DC} {params : Arguments} {body : Expr} {scope : Scope} {g c P : Addr} {q x a : Str} {k kl : Nat} {spT : Addr → ThkD → Mem → DKt → DX → Prop} {db : DW → DE} {p lpos pos : Pos}
end
end BB
set_option maxHeartbeats 4000000
namespace BB
open L2 PySem PySem.Spec PyProof.Rows
section
variable {base : Heap} {mg : Str → Option Value} {K : PySem.W.Frag} {P : Program} {w : World}
end
theorem walk_ofT {l : PySem.W.OpenLaw} {n k : Nat} {q : Program} {loose : List Str} {XP : (Str → Option Value) → Heap → Prop} {YP : World → Heap → Prop} {d : DefRec} {x : Str}
    (most : l.most = some n) (inSize : n ≤ sizeLine) (plain : d.params.defaults = []) (hr : Room k callerA)
    (F : ∀ (w : World) (mg : Str → Option Value) (fa : Addr) (h : Heap), YP w h → h.Ns mainGlobals mg → mg d.name = some (.ref fa) →
      ∃ (K : PySem.W.Frag) (fd : FuncData) (cs : List (Addr × Addr)) (sp : Sp), K.In h ∧ (∀ p ∈ cs, h.get? p.2 = some { cls := .none, data := .fields #[] }) ∧ (∀ p ∈ cs, K.lookup p.2 = none) ∧ (∀ p ∈ cs, PySem.W.CodeHd h p.1 p.2) ∧ (∀ (s : Shared) (u : Value), BindsTo s fd ⟨[u], []⟩ [(x, u)]) ∧
        (∀ (H : Hp) (a : Addr) (ns : List Int), ns.length ≤ n → (∀ p ∈ cs, H p.2 = some (.tbl #[])) → SqL K H a (ns.map V.int) → sp [.ref a] H (fun v _ => v = .bl true) fun _ _ _ => False) ∧
        ∀ base : Heap, K.In base → base.Ns mainGlobals mg → (∀ p ∈ cs, LamX.TabB base mg p.1 p.2) → FnOk l.prog w K mg base (L2.CX l.prog w) k fa fd [x] sp) :
    PySem.W.WalkO q loose XP YP l.row.toRowW d [] (fun f vs => PySem.call f vs) :=
  Att.attach_call most plain fun w s₀ s₁ mg mb fa o pm cd doc a vs ns G Y _ _ _ named at1 nums len noGen => by
    obtain ⟨K, fd, cs, sp, KX, isT, noT, code, binds, asks, promise⟩ := F w mg fa _ Y G.T.g named
    exact LamX.law_callTs KX G.T.g G.T.b G.T.builtins G.T.nolimit noGen isT noT code G.T.bmain at1 nums (Nat.le_trans len inSize) hr promise binds (fun H hH hS => asks H a ns len hH hS) fun H e s' h => by
      obtain ⟨_, _, _, _, _, _, _, _, _, _, _, _, no⟩ := h
      exact no
end BB
set_option maxHeartbeats 4000000
namespace BB
open L2 PySem PySem.Spec PyProof.Rows
def rIsiET (K : PySem.W.Frag) : List V → Hp → VK → Prop := fun xs H Q => ∃ (a C : Addr) (d : Option Addr) (tp : Addr) (cs : List Addr) (b : Bool), xs = [.ref a, .ref tp] ∧ H tp = some (.tup (cs.map V.ref)) ∧ H a = some (ExV (.ref C) d a) ∧ (∀ dd, d = some dd → ∃ fs, H dd = some (.xd fs)) ∧ ExcQ K C ∧
  PySem.W.kitAny K (.ref C) (cs.map Value.ref) = some b ∧ Q (.bl b) H
theorem refs_vals : ∀ {cs : List Addr} {ws : List Value}, Vals (cs.map V.ref) ws → ws = cs.map Value.ref
  | [], _, .nil => rfl
  | c :: cs, _, .cons r t => by
    cases r
    rw [refs_vals t]; rfl
theorem call_isiET {X : Cx} : CallR X (.builtin "isinstance") (rIsiET X.K) := by
  intro pins s σ H xs us Q I r h
  obtain ⟨a, C, d, tp, cs, b, rfl, hT, h1, hd, q, hk, hq⟩ := h
  match us, r with
  | [_, u], .cons rx (.cons rt .nil) =>
    cases rx
    cases (show u = Value.ref tp from rt)
    obtain ⟨_, its, rv, o, e1, e2, n, e3⟩ := (show ObjOk X.prog X.w H s.heap tp (.tup (cs.map V.ref)) from I.hok tp _ hT)
    have e4 := refs_vals rv
    subst e4
    obtain ⟨oc, od', dt, sl⟩ := o
    simp only at e2 e3
    subst e2 e3
    obtain ⟨⟨o, vs, e, z, f⟩, _⟩ := I.hok a _ h1
    obtain ⟨od, J⟩ : ∃ od, PySem.W.InstAt s.heap a o C od := by
      have no : PySem.W.notCls o = true := by unfold PySem.W.notCls; rw [f]
      cases d with
      | none => exact ⟨none, e, z.1, no, by rw [z.2]; trivial⟩
      | some dd =>
        obtain ⟨fs, hx⟩ := hd dd rfl
        obtain ⟨mA, hns, _⟩ := I.hok dd _ hx
        obtain ⟨od, ho, _⟩ := lookIn_ns hns
        exact ⟨some od, e, z.1, no, by rw [z.2]; exact ho⟩
    obtain ⟨cd, hcl, _⟩ := PySem.W.any_some q.xf.hdC
    exact PySem.W.kia_tup (PySem.W.kitx_exc (x := a) (ox := o) (od := od) (by rw [hcl]; rfl) q.xf.ga q.xf.gg q.xf.exC q.atr q.got q.tak q.all) I.kIn J e1 hk (fun z => nomatch z) fun tk => ⟨.bl b, H, I.tok _, rfl, hq⟩
def rdIsiXT (K : PySem.W.Frag) : RDC := fun ds M Q => ∃ (C : Addr) (fs : List (Str × D)) (cs : List Addr) (b : Bool), ds = [.exc (.ref C) fs, .htup (cs.map D.ref)] ∧ ExcQ K C ∧ PySem.W.kitAny K (.ref C) (cs.map Value.ref) = some b ∧ Q (.bl b) M
theorem rps_refs {K : PySem.W.Frag} {I : Hp} : ∀ {cs : List Addr} {vs : List V}, Rps K I vs (cs.map D.ref) → vs = cs.map V.ref
  | [], _, .nil => rfl
  | c :: cs, _, .cons r t => by rw [r.ref_inv, rps_refs t]; rfl
theorem snd_isiXT {X : Cx} : SndC X (rIsiET X.K) (rdIsiXT X.K) := by
  intro Δ I M H σ env G vs ds r Q Qd k h
  obtain ⟨C, fs, cs, b, e, hq, hk, q⟩ := h
  subst e
  obtain ⟨v, u, rfl, rv, ru⟩ := r.two_inv
  obtain ⟨a, d, rfl, h1, er⟩ := rv.exc_inv
  obtain ⟨tp, ws, rfl, h2, rw_⟩ := ru.htup_inv
  have := rps_refs rw_
  subst this
  refine ⟨a, C, d, tp, cs, b, rfl, G.at_.ex _ _ h2, G.at_.ex _ _ h1, fun dd hd => ?_, hq, hk, k _ _ _ _ _ (Ext.refl I) G (.bl b) q⟩
  subst hd
  obtain ⟨fvs, h3, _⟩ := er
  exact ⟨fvs, G.at_.ex _ _ h3⟩
theorem i_isiXT {K : PySem.W.Frag} {M : Mem} {Q : DKt} {C : Addr} {fs : List (Str × D)} {cs : List Addr} {b : Bool} (h1 : ExcQ K C) (h2 : PySem.W.kitAny K (.ref C) (cs.map Value.ref) = some b) (q : Q (.bl b) M) : rdIsiXT K [.exc (.ref C) fs, .htup (cs.map D.ref)] M Q := ⟨C, fs, cs, b, rfl, h1, h2, q⟩
end BB
set_option maxHeartbeats 4000000
namespace HT
open PySem PySem.Spec PyProof.Rows
section
variable {prog : Program} {w : World} {A : Around} {E : Value → Shared → Prop} {s : Shared}
end
end HT
namespace BB
open L2 PySem PySem.Spec PyProof.Rows
section
variable {X : Cx} {Δ : DC} {e : Expr} {te : TE} {de : DE}
def dOrX (da db : DE) : DE := fun env M Q => da env M fun x M1 => ∃ c, dTruth M1 x = some c ∧ if c = true then Q x M1 else db env M1 Q
theorem pd_orX {a b : Expr} {rest : List Expr} {pos : Pos} {ta tb : TE} {da db : DE} (ha : PDe X Δ a ta da) (hb : PDe X Δ (.BoolOp .Or (b :: rest) pos) tb db) : PDe X Δ (.BoolOp .Or (a :: b :: rest) pos) (tOrT X.K ta tb) (dOrX da db) := by
  obtain ⟨pa, sa⟩ := ha
  obtain ⟨pb, sb⟩ := hb
  refine ⟨pe_orT pa pb, fun I M H σ env G Q Qd k q => sa I M H σ env G _ _ (fun d M1 I1 H1 v x1 G1 r1 ⟨c, e, q1⟩ => ⟨c, tru_of G1.at_ r1 e, ?_⟩) q⟩
  cases c with
  | false => rw [if_neg Bool.false_ne_true] at q1 ⊢; exact sb I1 M1 H1 σ env G1 Q Qd (fun b M' I' H' v x => k b M' I' H' v (x1.trans x)) q1
  | true => rw [if_pos rfl] at q1 ⊢; exact k _ _ _ _ _ x1 G1 r1 q1
variable {pos p : Pos} {k n : Nat} {f C : Addr} {fd : FuncData} {ps : List Str} {sp : SpD} {x : Str} {ks : List Str} {kws : List Keyword} {tk : TA} {dk : DA} {g : List Value → List Value → List Value} {gV : List V → List V → List V} {gD : List D → List D → List D}
end
end BB
set_option maxHeartbeats 4000000
namespace BB
open L2 PySem PySem.Spec PyProof.Rows PyProof.Rows.G
section
variable {X : Cx} {Δ : DC} {e o : Expr} {te to : TE} {de da : DE}
variable {p2 pos : Pos} {lo hi : Option Expr} {tlo thi : TO} {dl dh : DO}
end
end BB
set_option maxHeartbeats 4000000
namespace BB
open L2 PySem PySem.Spec PyProof.Rows PyProof.Rows.G
theorem Rps.perm {K : PySem.W.Frag} {I : Hp} {us vs : List V} (p : us.Perm vs) : ∀ {ds : List D}, Rps K I vs ds → ∃ es, Rps K I us es ∧ es.Perm ds := by
  induction p with
  | nil => exact fun r => ⟨_, r, .refl _⟩
  | cons v _ ih =>
    intro ds r
    cases r with
    | cons a r =>
      obtain ⟨es, h1, h2⟩ := ih r
      exact ⟨_, .cons a h1, h2.cons _⟩
  | swap v u l =>
    intro ds r
    cases r with
    | cons a r =>
      cases r with
      | cons b r => exact ⟨_, .cons b (.cons a r), .swap _ _ _⟩
  | trans _ _ ih1 ih2 =>
    intro ds r
    obtain ⟨es, h1, h2⟩ := ih2 r
    obtain ⟨fs, h3, h4⟩ := ih1 h1
    exact ⟨fs, h3, h4.trans h2⟩
section
variable {X : Cx} {Δ : DC}
theorem Rps.mem {K : PySem.W.Frag} {I : Hp} : ∀ {vs : List V} {ds : List D}, Rps K I vs ds → ∀ v ∈ vs, ∃ d ∈ ds, Rp K I v d
  | _, _, .nil, _, h => by cases h
  | _, _, .cons a r, v, h => by
    rcases List.mem_cons.mp h with rfl | h
    · exact ⟨_, List.mem_cons_self, a⟩
    · obtain ⟨d, hd, q⟩ := Rps.mem r v h
      exact ⟨d, List.mem_cons_of_mem _ hd, q⟩
theorem pd_lcXM {elt tg iter : Expr} {ifs : List Expr} {scope : Scope} {own : List (Str × Nat)} {pos : Pos} {wi : TI} {di : DI} {dg : DG} {dt : DT} {de : DE} (hc : X.calm = true) (hN : X.N.Nodup) (hi : PDi X Δ tg iter wi di) (ok : BlkOk X.N X.env.scope scope own)
    (hg : ∀ (s : Shared) (H : Hp) (C : Addr) (cl : List (Str × Addr)) (fp : List Addr) (F : Hp), ∃ g, PDgw (X.blk s H scope (compEnvC scope cl C X.env) fp) (still F Δ.I0) (own.map (·.2)) tg g dg)
    (ht : ∀ (s : Shared) (H : Hp) (C : Addr) (cl : List (Str × Addr)) (fp : List Addr) (F : Hp), ∃ t, PDts (X.blk s H scope (compEnvC scope cl C X.env) fp) (still F Δ.I0) ifs t dt)
    (he : ∀ (s : Shared) (H : Hp) (C : Addr) (cl : List (Str × Addr)) (fp : List Addr) (F : Hp), ∃ te, PDe (X.blk s H scope (compEnvC scope cl C X.env) fp) (still F Δ.I0) elt te de) (hs : ∀ x, foldedSetIterable iter X.env x = pure x := by intro _; rfl) :
    PDe X Δ (.ListComp elt [⟨tg, iter, ifs, 0⟩] scope pos) (tLc wi (lfW X.K Δ.I0 (own.map (·.2)) dg) (lfT X.K Δ.I0 dt) (lfE X.K Δ.I0 de) (own.map (·.2))) (dLcM di dg dt de (own.map (·.2))) :=
  ⟨(pd_lcX hc hN hi ok hg ht he hs).1, snd_lcM hi.2 (fun F => (lf_w (hg X.s_0 X.H_0 0 [] []) F).2) (fun F => (lf_t (ht X.s_0 X.H_0 0 [] []) F).2) (fun F => (lf_e (he X.s_0 X.H_0 0 [] []) F).2)⟩
end
end BB
set_option maxHeartbeats 4000000
namespace BB
open L2 PySem PySem.Spec PyProof.Rows
section
variable {X : Cx}
end
theorem alike_strs : ∀ xs ys : List Str, PySem.W.alikeAll (xs.map PyData.str) (ys.map PyData.str) = true
  | [], _ => by rw [List.map_nil, PySem.W.alikeAll]
  | _ :: _, [] => by rw [List.map_nil, List.map_cons, PySem.W.alikeAll]
  | x :: xs, y :: ys => by rw [List.map_cons, List.map_cons, PySem.W.alikeAll, alike_strs xs ys, PySem.W.alike]; rfl
theorem depth_strsA : ∀ zs : List Str, PyData.depthAll (zs.map PyData.str) = 0
  | [] => by rw [List.map_nil, PyData.depthAll]
  | z :: zs => by rw [List.map_cons, PyData.depthAll, depth_strsA zs, PyData.depth]; rfl
end BB
set_option maxHeartbeats 4000000
namespace BB
open L2 PySem PySem.Spec PyProof.Rows
def orb (m : Nat) : Nat → Nat → Nat → Nat × Nat
  | 0, x, acc => (x, acc)
  | f + 1, x, acc => orb m f ((x * 5 + 1) % (m + 1)) (acc ||| 2 ^ x)
theorem orb_met (m : Nat) : ∀ (f k acc : Nat), (orb m f (lcgN m k) acc).1 = lcgN m (k + f) ∧ ∀ j, (orb m f (lcgN m k) acc).2.testBit j = true → acc.testBit j = true ∨ ∃ b, b < k + f ∧ lcgN m b = j
  | 0, k, acc => ⟨rfl, fun j h => .inl h⟩
  | f + 1, k, acc => by
    obtain ⟨h1, h2⟩ := orb_met m f (k + 1) (acc ||| 2 ^ lcgN m k)
    have e : orb m (f + 1) (lcgN m k) acc = orb m f (lcgN m (k + 1)) (acc ||| 2 ^ lcgN m k) := rfl
    rw [e]
    refine ⟨by rw [h1]; exact congrArg _ (by omega), fun j hj => ?_⟩
    rcases h2 j hj with h | ⟨b, hb, hbj⟩
    · rw [Nat.testBit_or, Bool.or_eq_true, Nat.testBit_two_pow, decide_eq_true_iff] at h
      rcases h with h | h
      · exact .inl h
      · exact .inr ⟨k, by omega, h⟩
    · exact .inr ⟨b, by omega, hbj⟩
structure FullM (m : Nat) : Prop where
  back : lcgN m (m + 1) = 0
  all : ∀ j, j ≤ m → ∃ b, b ≤ m ∧ lcgN m b = j
theorem FullM.of {m : Nat} (h : orb m (m + 1) 0 0 = (0, 2 ^ (m + 1) - 1)) : FullM m := by
  obtain ⟨h1, h2⟩ := orb_met m (m + 1) 0 0
  have e : orb m (m + 1) (lcgN m 0) 0 = (0, 2 ^ (m + 1) - 1) := h
  rw [e] at h1 h2
  rw [Nat.zero_add] at h1 h2
  refine ⟨h1.symm, fun j hj => ?_⟩
  rcases h2 j (by rw [Nat.testBit_two_pow_sub_one, decide_eq_true_iff]; omega) with z | ⟨b, hb, hbj⟩
  · rw [Nat.zero_testBit] at z; cases z
  · exact ⟨b, by omega, hbj⟩
def WideM (m : Nat) : Prop := m = 7 ∨ m = 31 ∨ m = 127 ∨ m = 511 ∨ m = 2047
theorem full7 : FullM 7 := .of (by decide +kernel)
theorem full31 : FullM 31 := .of (by decide +kernel)
theorem full127 : FullM 127 := .of (by decide +kernel)
theorem full511 : FullM 511 := .of (by decide +kernel)
theorem full2047 : FullM 2047 := .of (by decide +kernel)
theorem WideM.full {m : Nat} (h : WideM m) : FullM m := by
  rcases h with rfl | rfl | rfl | rfl | rfl
  · exact full7
  · exact full31
  · exact full127
  · exact full511
  · exact full2047
theorem FullM.per {m : Nat} (F : FullM m) (k : Nat) : lcgN m (m + 1 + k) = lcgN m k := by
  induction k with
  | zero => exact F.back
  | succ k ih => exact congrArg (fun x => (x * 5 + 1) % (m + 1)) ih
theorem FullM.go {m i j : Nat} (F : FullM m) (hi : i ≤ m) (hj : j ≤ m) : ∃ k, lcgI m i k = j ∧ k ≤ m := by
  obtain ⟨u, hu, rfl⟩ := F.all i hi
  obtain ⟨v, hv, rfl⟩ := F.all j hj
  by_cases c : u ≤ v
  · exact ⟨v - u, by rw [lcgN_add, Nat.add_sub_cancel' c], by omega⟩
  · refine ⟨m + 1 + v - u, ?_, by omega⟩
    rw [lcgN_add, show u + (m + 1 + v - u) = m + 1 + v by omega, F.per]
theorem FullM.run {m j : Nat} (F : FullM m) (h : Int) (hj : j ≤ m) : ∃ n, runI m (SetTable.bits h) n = j ∧ n ≤ m + 12 := by
  obtain ⟨k, hk, hkm⟩ := F.go (runI_le m (SetTable.bits h) 12) hj
  exact ⟨12 + k, (runI_tail (bits_lt h) k).trans hk, by omega⟩
theorem FullM.met {m j : Nat} (F : FullM m) (h : Int) (hj : j ≤ m) : ∃ k, way m h k = j ∧ k < 10 * SetTable.turns m := by
  obtain ⟨n, hn, hnm⟩ := F.run h hj
  obtain ⟨k, hk, e⟩ := run_nth m (SetTable.bits h) n
  have ht : m + 12 < SetTable.turns m := by unfold SetTable.turns; omega
  refine ⟨k, ?_, by omega⟩
  have := congrArg SetTable.Probe.j e
  exact this.trans hn
theorem way_in (m : Nat) (h : Int) (k : Nat) : way m h k ≤ m := by
  have h0 : SetTable.bits h % (m + 1) ≤ m := Nat.le_of_lt_succ (Nat.mod_lt _ (Nat.succ_pos m))
  have h1 := (runEnd_bd h0).1
  have h2 := (runEnd_bd h0).2.1
  have h3 := nth_in k (runAt m (SetTable.bits h % (m + 1)) (SetTable.bits h)) (m := m) (by
    unfold runAt
    show SetTable.bits h % (m + 1) + (SetTable.runEnd m (SetTable.bits h % (m + 1)) - SetTable.bits h % (m + 1)) ≤ m
    omega)
  exact Nat.le_trans (Nat.le_add_right _ _) h3
structure TabW (t : SetTable) (hs : List Int) : Prop where
  ris : Ris t.place.toList
  dm : t.dummies = #[]
  sz : t.place.size = hs.length
  mok : WideM t.mask
  bd : ∀ x ∈ t.place.toList, x ≤ t.mask
  reach : ∀ (i : Nat) (h : Int) (j : Nat), hs[i]? = some h → t.place.toList[i]? = some j → ∃ k, way t.mask h k = j ∧ ∀ c, c < k → way t.mask h c ∈ t.place.toList
section
variable {t : SetTable} {hs : List Int}
theorem TabW.plen (T : TabW t hs) : t.place.toList.length = hs.length := Array.length_toList.trans T.sz
theorem TabW.first (T : TabW t hs) (few : hs.length ≤ t.mask) (h : Int) : ∃ n, n < 10 * SetTable.turns t.mask ∧ way t.mask h n ∉ t.place.toList ∧ ∀ c, c < n → way t.mask h c ∈ t.place.toList := by
  obtain ⟨j, hjm, hj⟩ := st_missing t.place.toList (t.mask + 1) (by rw [T.plen]; omega)
  obtain ⟨k, rfl, hk⟩ := T.mok.full.met h (Nat.lt_succ_iff.mp hjm)
  obtain ⟨n, hnk, hn, least⟩ := st_least (p := fun c => way t.mask h c ∉ t.place.toList) k hj
  exact ⟨n, by omega, hn, fun c hc => Classical.byContradiction (least c hc)⟩
theorem TabW.put (T : TabW t hs) {h : Int} {n : Nat} (hn : way t.mask h n ∉ t.place.toList) (hb : ∀ c, c < n → way t.mask h c ∈ t.place.toList) :
    (t.put (way t.mask h n)).2 = SetTable.below t.place (way t.mask h n) ∧ SetTable.below t.place (way t.mask h n) ≤ hs.length ∧
    TabW (t.put (way t.mask h n)).1 (hs.take (SetTable.below t.place (way t.mask h n)) ++ h :: hs.drop (SetTable.below t.place (way t.mask h n))) ∧
    (t.put (way t.mask h n)).1.mask = t.mask ∧ (t.put (way t.mask h n)).1.led = t.led ∧ (t.put (way t.mask h n)).1.fill = hs.length + 1 := by
  have wm := way_in t.mask h n
  generalize ej : way t.mask h n = j at hn wm ⊢
  have bl : SetTable.below t.place j ≤ t.place.toList.length := by
    rw [Array.length_toList]; exact (below_cut T.ris j).1
  have bh : SetTable.below t.place j ≤ hs.length := T.plen ▸ bl
  have place := put_place t j
  have same : ∀ {x}, x ∈ (t.put j).1.place.toList ↔ x = j ∨ x ∈ t.place.toList := fun {x} => by rw [place]; exact mem_ins
  have size : (t.put j).1.place.size = hs.length + 1 := by
    rw [← Array.length_toList, place, len_ins _ bl, T.plen]
  refine ⟨rfl, bh, TabW.mk (ris_insert T.ris fun e => hn (List.mem_of_getElem? (by rw [Array.getElem?_toList]; exact e))) (put_dm T.dm j) (by rw [len_ins _ bh, size]) T.mok (fun x hx => ?_) (fun i g k hg hk => ?_), rfl, rfl, ?_⟩
  · rcases same.mp hx with rfl | hx
    · exact wm
    · exact T.bd x hx
  · have old : ∀ {i' : Nat}, hs[i']? = some g → t.place.toList[i']? = some k → ∃ c, way t.mask g c = k ∧ ∀ c', c' < c → way t.mask g c' ∈ (t.put j).1.place.toList := fun {i'} a b => by
      obtain ⟨c, h1, h2⟩ := T.reach i' g k a b
      exact ⟨c, h1, fun c' hc => same.mpr (.inr (h2 c' hc))⟩
    show ∃ c, way t.mask g c = k ∧ ∀ c', c' < c → way t.mask g c' ∈ (t.put j).1.place.toList
    rw [tins_get hs bh] at hg
    rw [place, tins_get _ bl] at hk
    generalize SetTable.below t.place j = b at hg hk
    rcases Nat.lt_trichotomy i b with lt | rfl | gt
    · rw [if_pos lt] at hg hk; exact old hg hk
    · rw [if_neg (Nat.lt_irrefl _), if_pos rfl] at hg hk
      cases hg; cases hk
      exact ⟨n, ej, fun c' hc => same.mpr (.inr (hb c' hc))⟩
    · rw [if_neg (by omega), if_neg (by omega)] at hg hk; exact old hg hk
  · unfold SetTable.fill
    rw [size, put_dm T.dm j]; rfl
end
section
variable {m : Nat}
end
end BB
set_option maxHeartbeats 4000000
namespace BB
open L2 PySem PySem.Spec PyProof.Rows
section
variable {P : Program} {w : World} {A : Around} {E : Value → Shared → Prop} {s : Shared}
def KeyIn (w : World) (h : Heap) (n : Int) (v : Value) : Prop := ∃ k b, v = .ref b ∧ NestedIs h k (.ref b) ∧ k.depth ≤ 8 ∧ k.hash w = n
structure NSet (w : World) (h : Heap) (a : Addr) (es : Array (Int × Value)) (ep : Nat) (t : SetTable) : Prop where
  ob : ∃ o, h.get? a = some o ∧ o.ExactSet ∧ o.data = .set es ep t
  tab : TabW t (es.toList.map (·.1))
  good : ∀ e ∈ es.toList, KeyIn w h e.1 e.2
  apart : es.toList.Pairwise fun x y => ∀ k, NestedIs h k x.2 → ¬ NestedIs h k y.2
  led : w.params.followText "set-order" = true ∨ t.led = true
  room : es.size * 5 < t.mask * 3
  few : es.size < 1200
variable {a : Addr} {es : Array (Int × Value)} {ep : Nat} {t : SetTable}
theorem fits_of {t : SetTable} {es : Array (Int × Value)} (T : TabW t (es.toList.map (·.1))) (h : es.size ≤ t.mask) : t.fits es.size = true := by
  have h1 := T.sz
  rw [List.length_map, Array.length_toList] at h1
  unfold SetTable.fits SetTable.fill
  rw [T.dm, Bool.and_eq_true, beq_iff_eq, decide_eq_true_eq]
  exact ⟨h1, by show t.place.size + 0 ≤ t.mask; omega⟩
theorem NSet.fits (R : NSet w s.heap a es ep t) : t.fits es.size = true := fits_of R.tab (by have := R.room; omega)
theorem KeyIn.same {h h' : Heap} {n : Int} {v : Value} {o : Obj} (k : KeyIn w h n v) (ho : h.get? a = some o) (hd : o.data = .set es ep t) (sb : Heap.SameBut a h h') : KeyIn w h' n v := by
  obtain ⟨k, b, e, hk, r⟩ := k
  refine ⟨k, b, e, NestedIs.at (fun c o' vs m hc hs => ?_) k _ hk, r⟩
  have ne : c ≠ a := fun z => by
    subst z
    rw [ho] at hc
    cases hc
    rw [hd] at hs
    cases hs
  rw [sb.2 c ne]; exact hc
end
end BB
set_option maxHeartbeats 4000000
namespace BB
open L2 PySem PySem.Spec PyProof.Rows
section
variable {P : Program} {w : World} {A : Around} {E : Value → Shared → Prop} {s : Shared} {a : Addr} {es : Array (Int × Value)} {ep : Nat} {t : SetTable}
end
end BB
set_option maxHeartbeats 4000000
namespace BB
open L2 PySem PySem.Spec PyProof.Rows
section
variable {P : Program} {w : World} {A : Around} {E : Value → Shared → Prop} {s : Shared} {a : Addr} {es : Array (Int × Value)} {ep : Nat} {t : SetTable}
theorem KeyIn.keep {h h' : Heap} {n : Int} {v : Value} (k : KeyIn w h n v) (hk : ∀ b o, h.get? b = some o → h'.get? b = some o) : KeyIn w h' n v := by
  obtain ⟨k, b, e, x, r⟩ := k
  exact ⟨k, b, e, NestedIs.at (fun c o vs m hc _ => hk c o hc) k _ x, r⟩
end
end BB
set_option maxHeartbeats 4000000
namespace BB
open L2 PySem PySem.Spec PyProof.Rows PySem.Froz
section
variable {P : Program} {w : World} {A : Around} {E : Value → Shared → Prop} {s : Shared}
end
end BB
set_option maxHeartbeats 4000000
namespace BB
open L2 PySem PySem.Spec PyProof.Rows PySem.Froz
def RankP (p : PyData) : Prop := ∃ (n : Int) (zs : List Str), p = .tuple [.int n, .tuple (zs.map .str)]
theorem RankP.alike {p q : PyData} (h : RankP p) (k : RankP q) : PySem.W.alike p q = true := by
  obtain ⟨n, zs, rfl⟩ := h
  obtain ⟨m, ys, rfl⟩ := k
  rw [PySem.W.alike, PySem.W.alikeAll, PySem.W.alikeAll, PySem.W.alikeAll, PySem.W.alike, PySem.W.alike, alike_strs]; rfl
theorem RankP.depth {p : PyData} (h : RankP p) : p.depth ≤ 8 := by
  obtain ⟨n, zs, rfl⟩ := h
  have d0 : ∀ i, (PyData.int i).depth = 0 := fun i => by rw [PyData.depth] <;> simp
  rw [PyData.depth, PyData.depthAll, PyData.depthAll, PyData.depthAll, d0, PyData.depth, depth_strsA]
  decide
section
variable {P : Program} {w : World} {A : Around} {E : Value → Shared → Prop} {s : Shared} {a : Addr}
end
section
variable {X : Cx}
end
end BB
set_option maxHeartbeats 4000000
namespace BB
open L2 PySem PySem.Spec PyProof.Rows PySem.Froz
section
variable {X : Cx} {Δ : DC} {e : Expr} {te : TE} {de : DE} {p1 p2 q1 q2 : Pos}
end
end BB
set_option maxHeartbeats 4000000
namespace BB
open L2 PySem PySem.Spec PyProof.Rows PySem.Froz
def RankBody (y : Str) (body : List Stmt) : Prop := ∃ p1 p2 p3 p4 p5 p6, body = [.Return (some (.Tuple [.Call (.Name "len" p1) [.Name y p2] [] p3, .Name y p4] 0 p5)) p6]
structure RankDef (K : PySem.W.Frag) (mg : Str → Option Value) (f : Addr) : Prop where
  ex : ∃ (x qual : Str) (params : Arguments) (body : List Stmt) (scope : Scope) (kws : List (Str × V)) (fd : FuncData) (N : List Str) (y : Str), FunD K x qual params body scope [] kws f fd ∧ FnScope N [y] scope ∧ Binds K fd [y] [] ∧ RankBody y body ∧
    scope.names.lookup y = some .local ∧ scope.names.lookup ("len" : Str) = some .globalImplicit ∧ N[0]? = some y ∧ (y == ("__debug__" : Str)) = false
  len : mg "len" = none
end BB
set_option maxHeartbeats 4000000
namespace BB
open L2 PySem PySem.Spec PyProof.Rows PySem.Froz
section
variable {P : Program} {w : World} {A : Around} {E : Value → Shared → Prop} {s : Shared} {T : String} {r d : Addr} {n : Nat} {Pv : Nat → Value → Prop} {OK : Heap → Prop}
end
section
variable {X : Cx}
end
end BB
set_option maxHeartbeats 4000000
namespace BB
open L2 PySem PySem.Spec PyProof.Rows
def newDictO : Obj := { cls := .type "dict", data := .dict #[] }
structure DWay (O0 : HO) (Put : Hp → Addr → V → V → Hp → Prop) : Prop where
  fresh : ∀ {P : Program} {w : World} {H : Hp} (h : Heap), sysModules < h.objs.size → ObjOk P w H (h.push newDictO) h.objs.size O0
  put : ∀ {Y : Cx} {pins : List (Addr × Obj)} {σ : L2.St} {H H2 : Hp} {s : Shared} {E : Value → Shared → Prop} {D : Addr} {y z : V} {u r : Value} {Q : Unit → Shared → Prop}, Y.A.units + 1 < cLine → L2.Inv Y pins σ H s → Put H D y z H2 → RelV y u → RelV z r →
    (∀ s2, L2.Inv Y pins σ H2 s2 → Q () s2) → wpAny (model Y.prog Y.w) Y.A (dictSet D u r) Q E s
section
variable {X : Cx} {O0 : HO} {Put : Hp → Addr → V → V → Hp → Prop}
end
end BB
set_option maxHeartbeats 4000000
namespace BB
open L2 PySem PySem.Spec PyProof.Rows
section
variable {X : Cx} {Δ : DC} {dt : DT} {dg : DG} {wi : TI} {di : DI} {t1 : TT} {g : TG} {tk tv : TE} {dk dv : DE}
end
section
variable {X : Cx}
variable {Δ : DC} {e : Expr} {te : TE} {de : DE} {p1 p2 q1 : Pos} {kn : Str} {f : Addr}
end
end BB
set_option maxHeartbeats 4000000
namespace BB
open L2 PySem PySem.Spec PyProof.Rows
section
variable {X : Cx} {pins : List (Addr × Obj)} {σ : L2.St} {H : Hp} {s : Shared}
theorem Inv.hot (I : Inv X pins σ H s) (a : Addr) : Inv (X.suite a (X.pn ++ pins)) [] σ H s :=
  ⟨I.ok.suite _ _, I.os, I.bare, I.base, I.loc, I.cell, I.free, I.freeC, fun p hp => I.pin p (by rw [List.append_nil] at hp; exact hp), I.hok, I.len⟩
end
section
variable {X : Cx} {x n : Str} {c : Value} {i : Nat} {body suite : List Stmt} {b₀ : Stmt} {np pos pos' : Pos} {tb : WX → TS} {ts : Addr → Value → Option Addr → TS} {Wout : WX}
end
structure FnHot (P : Program) (w : World) (K : PySem.W.Frag) (mg : Str → Option Value) (base : Heap) (CX : CXT) (k : Nat) (f : Addr) (fd : FuncData) (ps : List Str) (sp : Sp) : Prop where
  len : ∀ vs H Q E, sp vs H Q E → vs.length = ps.length
  run : ∀ (A : Around) (outer : List PySem.Env) (s : Shared) (H : Hp) (args : Args) (us : List Value) (vs : List V) (Q : VK) (E : XK), L2H.RoomH k A → Env0 P w K mg base A outer s H → BindsTo s fd args (ps.zip us) → Vals vs us → sp vs H Q E →
    codeAny (model P w) A (.call (.ref f) args) (CR CX outer P w H s Q E) s
section
variable {X : Cx} {CX : CXT} {k : Nat} {f : Addr} {fd : FuncData} {ps : List Str} {sp : Sp} {E : L2.St → XK} {x : Str} {p pos : Pos} {e : Expr} {es : List Expr} {t : TA}
end
end BB
set_option maxHeartbeats 4000000
namespace BB
open L2 PySem PySem.Spec PyProof.Rows PySem.Froz
section
variable {prog : Program} {w : World} {A : Around} {E : Value → Shared → Prop} {s : Shared}
end
end BB
set_option maxHeartbeats 4000000
namespace BB
open L2 PySem PySem.Spec PyProof.Rows PySem.Froz
def SndBody (y : Str) (body : List Stmt) : Prop := ∃ k p1 p2 p3 p4, body = [.Return (some (.Subscript (.Name y p1) (.Constant (.int 1) k p2) p3)) p4]
structure SndDef (K : PySem.W.Frag) (f : Addr) : Prop where
  ex : ∃ (x qual : Str) (params : Arguments) (body : List Stmt) (scope : Scope) (kws : List (Str × V)) (fd : FuncData) (N : List Str) (y : Str), FunD K x qual params body scope [] kws f fd ∧ FnScope N [y] scope ∧ Binds K fd [y] [] ∧ SndBody y body ∧
    scope.names.lookup y = some .local ∧ N[0]? = some y ∧ (y == ("__debug__" : Str)) = false
section
variable {X : Cx}
end
end BB
set_option maxHeartbeats 4000000
namespace BB
open L2 PySem PySem.Spec PyProof.Rows PySem.Froz
section
variable {X : Cx}
end
section
variable {X : Cx}
variable {o e f : Expr} {td ty tx : TE} {apos cpos : Pos}
end
end BB
set_option maxHeartbeats 4000000
namespace BB
open L2 PySem PySem.Spec PyProof.Rows
theorem toPys_strs : ∀ zs : List Str, toPys (zs.map D.str) = some (zs.map PyData.str)
  | [] => rfl
  | z :: zs => by rw [List.map_cons, toPys, toPys_strs zs]; rfl
section
variable {X : Cx} {Δ : DC} {e dx : Expr} {te tx : TE} {de dd : DE} {p1 p2 q1 apos mpos : Pos} {f : Addr}
end
end BB
set_option maxHeartbeats 4000000
namespace BB
open L2 PySem PySem.Spec PyProof.Rows
section
variable {X : Cx} {Δ : DC} {e dx : Expr} {te tx : TE} {de dd : DE} {p1 p2 q1 apos mpos : Pos} {f : Addr}
end
end BB
set_option maxHeartbeats 4000000
namespace BB
open L2 PySem PySem.Spec PyProof.Rows
def atN (xs : List NEnt) (k : NestedKey) : Option V := (xs.find? fun x => decide (x.1 = k)).map (·.2.2)
def putN (xs : List NEnt) (k : NestedKey) (b : Addr) (v : V) : List NEnt := if (xs.any fun x => decide (x.1 = k)) = true then xs.map (fun x => if x.1 = k then (x.1, x.2.1, v) else x) else xs ++ [(k, b, v)]
theorem npair_find {k : NestedKey} : ∀ {xs : List NEnt} {ys : List NEntV}, Paired NPair xs ys → RelO (atN xs k) ((atKey ys k).map (·.2))
  | _, _, .nil => trivial
  | x :: xs, y :: ys, .cons r t => by
    have ih := npair_find (k := k) t
    obtain ⟨r1, r2, r3⟩ := r
    unfold atN atKey at ih ⊢
    rw [List.find?_cons, List.find?_cons, ← r1]
    by_cases e : x.1 = k
    · rw [decide_eq_true e]; exact r3
    · rw [decide_eq_false e]; exact ih
theorem npair_map {k : NestedKey} {v : V} {u : Value} (rv : RelV v u) : ∀ {xs : List NEnt} {ys : List NEntV}, Paired NPair xs ys → Paired NPair (xs.map fun x => if x.1 = k then (x.1, x.2.1, v) else x) (ys.map (putAt k u))
  | _, _, .nil => .nil
  | x :: xs, y :: ys, .cons r t => by
    rw [List.map_cons, List.map_cons]
    refine .cons ?_ (npair_map rv t)
    obtain ⟨r1, r2, r3⟩ := r
    unfold putAt
    rw [← r1]
    by_cases e : x.1 = k
    · rw [if_pos e, if_pos e]; exact ⟨r1 ▸ rfl, r2, rv⟩
    · rw [if_neg e, if_neg e]; exact ⟨r1, r2, r3⟩
theorem npair_snoc {x : NEnt} {y : NEntV} (r : NPair x y) : ∀ {xs : List NEnt} {ys : List NEntV}, Paired NPair xs ys → Paired NPair (xs ++ [x]) (ys ++ [y])
  | _, _, .nil => .cons r .nil
  | _, _, .cons a t => .cons a (npair_snoc r t)
theorem npair_any {k : NestedKey} : ∀ {xs : List NEnt} {ys : List NEntV}, Paired NPair xs ys → (xs.any fun x => decide (x.1 = k)) = (atKey ys k).isSome
  | _, _, .nil => rfl
  | x :: xs, y :: ys, .cons r t => by
    have ih := npair_any (k := k) t
    obtain ⟨r1, r2, r3⟩ := r
    unfold atKey at ih ⊢
    rw [List.any_cons, List.find?_cons, ← r1]
    by_cases e : x.1 = k
    · rw [decide_eq_true e]; rfl
    · rw [decide_eq_false e, Bool.false_or]; exact ih
theorem npair_put {k : NestedKey} {b : Addr} {v : V} {u : Value} {xs : List NEnt} {ys : List NEntV} (r : Paired NPair xs ys) (rv : RelV v u) : Paired NPair (putN xs k b v) (storedH ys k b u) := by
  unfold putN storedH
  rw [npair_any r]
  by_cases h : (atKey ys k).isSome = true
  · rw [if_pos h, if_pos h]; exact npair_map rv r
  · rw [if_neg h, if_neg h]; exact npair_snoc ⟨rfl, rfl, rv⟩ r
theorem npair_len : ∀ {xs : List NEnt} {ys : List NEntV}, Paired NPair xs ys → xs.length = ys.length
  | _, _, .nil => rfl
  | _, _, .cons _ t => congrArg (· + 1) (npair_len t)
theorem putN_len {xs : List NEnt} {k : NestedKey} {b : Addr} {v : V} : (putN xs k b v).length ≤ xs.length + 1 := by
  unfold putN
  split
  · rw [List.length_map]; omega
  · rw [List.length_append]; exact Nat.le_refl _
theorem npair_mem : ∀ {xs : List NEnt} {ys : List NEntV}, Paired NPair xs ys → ∀ y ∈ ys, ∃ x ∈ xs, NPair x y
  | _, _, .nil, _, h => nomatch h
  | x :: xs, y :: ys, .cons r t, z, h => by
    rcases List.mem_cons.mp h with rfl | h
    · exact ⟨x, List.mem_cons_self, r⟩
    · obtain ⟨u, hu, hr⟩ := npair_mem t z h
      exact ⟨u, List.mem_cons_of_mem _ hu, hr⟩
section
variable {P : Program} {w : World} {H : Hp} {h : Heap} {a : Addr} {xs : List NEnt}
theorem nd_new {H' : Hp} {ys : List NEntV} (hd : (a == sysModules) = false) (hl : xs.length ≤ sizeLine) (r : Paired NPair xs ys) (dd : h.DictOfH (nestedKind P w) a ys) : ObjOk P w H' h a (NDO w a xs) := by
  obtain ⟨o, es, ep, ho, hex, hda, hes, _, nd⟩ := dd
  exact ndo_ok ⟨hd, hl, ys, r, o, es, ep, ho, hex, hda, hes, nd⟩
end
section
variable {X : Cx} {pins : List (Addr × Obj)} {σ : L2.St} {H : Hp} {s : Shared} {a b : Addr} {u r : Value} {y v d : V} {k : NestedKey} {xs : List NEnt} {A : Around} {E : Value → Shared → Prop}
end
section
variable {X : Cx} {o i e k v value : Expr} {pos pos' apos cpos : Pos} {td ty tv tk te : TE}
theorem nd_empty {P : Program} {w : World} {H : Hp} (h : Heap) (hb : sysModules < h.objs.size) : ObjOk P w H (h.push { cls := .type "dict", data := .dict #[] }) h.objs.size (NDO w h.objs.size []) :=
  ndo_ok ⟨beq_eq_false_iff_ne.mpr (Ne.symm (Nat.ne_of_lt hb)), Nat.zero_le _, [], .nil, _, #[], 0, Heap.get?_push_size _ rfl, ⟨rfl, rfl, rfl⟩, rfl, rfl, List.nodup_nil⟩
end
end BB
set_option maxHeartbeats 4000000
namespace BB
open L2 PySem PySem.Spec PyProof.Rows
mutual
def nkey : D → Option NestedKey
  | .int i => some (.num i)
  | .htup ds => (nkeys ds).map .tup
  | _ => none
def nkeys : List D → Option (List NestedKey)
  | [] => some []
  | d :: ds => match nkey d, nkeys ds with
    | some k, some ks => some (k :: ks)
    | _, _ => none
end
section
variable {K : PySem.W.Frag} {I J F H : Hp} {M : Mem} {v : V} {d : D}
mutual
theorem nkey_of : ∀ {v : V} {d : D} {k : NestedKey}, Rp K I v d → nkey d = some k → NI I k v
  | _, .int i, _, r, h => by rw [nkey] at h; cases h; rw [r.int_inv]; exact .num i
  | _, .htup ds, _, r, h => by
    rw [nkey] at h
    obtain ⟨ks, hks, rfl⟩ := Option.map_eq_some_iff.mp h
    obtain ⟨a, vs, rfl, h1, h2⟩ := r.htup_inv
    exact .tup h1 (nkeys_of h2 hks)
  | _, .non, _, _, h => by rw [nkey] at h <;> first | cases h | (intros; rename_i z; cases z)
  | _, .bl _, _, _, h => by rw [nkey] at h <;> first | cases h | (intros; rename_i z; cases z)
  | _, .str _, _, _, h => by rw [nkey] at h <;> first | cases h | (intros; rename_i z; cases z)
  | _, .tup _, _, _, h => by rw [nkey] at h <;> first | cases h | (intros; rename_i z; cases z)
  | _, .lst _, _, _, h => by rw [nkey] at h <;> first | cases h | (intros; rename_i z; cases z)
  | _, .frz _, _, _, h => by rw [nkey] at h <;> first | cases h | (intros; rename_i z; cases z)
  | _, .ntup _, _, _, h => by rw [nkey] at h <;> first | cases h | (intros; rename_i z; cases z)
  | _, .dK _, _, _, h => by rw [nkey] at h <;> first | cases h | (intros; rename_i z; cases z)
  | _, .dT _, _, _, h => by rw [nkey] at h <;> first | cases h | (intros; rename_i z; cases z)
  | _, .ins _ _, _, _, h => by rw [nkey] at h <;> first | cases h | (intros; rename_i z; cases z)
  | _, .ref _, _, _, h => by rw [nkey] at h <;> first | cases h | (intros; rename_i z; cases z)
  | _, .ty _, _, _, h => by rw [nkey] at h <;> first | cases h | (intros; rename_i z; cases z)
  | _, .exc _ _, _, _, h => by rw [nkey] at h <;> first | cases h | (intros; rename_i z; cases z)
theorem nkeys_of : ∀ {vs : List V} {ds : List D} {ks : List NestedKey}, Rps K I vs ds → nkeys ds = some ks → NIs I ks vs
  | _, [], _, r, h => by rw [nkeys] at h; cases h; rw [r.nil_inv]; exact .nil
  | _, d :: ds, _, r, h => by
    obtain ⟨v, vs, rfl, rv, rr⟩ := r.cons_inv
    rw [nkeys] at h
    cases e1 : nkey d with
    | none => rw [e1] at h; cases h
    | some k =>
      cases e2 : nkeys ds with
      | none => rw [e1, e2] at h; cases h
      | some ks' => rw [e1, e2] at h; cases h; exact .cons (nkey_of rv e1) (nkeys_of rr e2)
end
theorem RpN.len : ∀ {kv : List NEnt} {kd : List (NestedKey × D)}, RpN K I kv kd → kv.length = kd.length
  | _, _, .nil => rfl
  | _, _, .cons _ _ _ r => congrArg (· + 1) (RpN.len r)
theorem RpN.val (k : NestedKey) : ∀ {kv : List NEnt} {kd : List (NestedKey × D)}, RpN K I kv kd → RpO K I (atN kv k) (valD kd k)
  | _, _, .nil => trivial
  | (k1, b, v) :: kv, (_, d) :: kd, .cons _ _ a r => by
    have ih := RpN.val k r
    rw [valD_cons]
    unfold atN at ih ⊢
    rw [List.find?_cons]
    by_cases e : k1 = k
    · rw [decide_eq_true e, if_pos e]; exact a
    · rw [decide_eq_false e, if_neg e]; exact ih
theorem RpN.anyB (k : NestedKey) : ∀ {kv : List NEnt} {kd : List (NestedKey × D)}, RpN K I kv kd → (kv.any fun x => decide (x.1 = k)) = (kd.any fun x => decide (x.1 = k))
  | _, _, .nil => rfl
  | (k1, b, v) :: kv, (_, d) :: kd, .cons _ _ _ r => by rw [List.any_cons, List.any_cons, RpN.anyB k r]
theorem RpN.snoc {k : NestedKey} {b : Addr} {v : V} {d : D} (n : NI I k (.ref b)) (hk : k.depth ≤ 8) (h : Rp K I v d) : ∀ {kv : List NEnt} {kd : List (NestedKey × D)}, RpN K I kv kd → RpN K I (kv ++ [(k, b, v)]) (kd ++ [(k, d)])
  | _, _, .nil => .cons n hk h .nil
  | _, _, .cons a z c r => .cons a z c (RpN.snoc n hk h r)
theorem RpN.repl {k : NestedKey} {v : V} {d : D} (h : Rp K I v d) : ∀ {kv : List NEnt} {kd : List (NestedKey × D)}, RpN K I kv kd → RpN K I (kv.map fun p => if p.1 = k then (p.1, p.2.1, v) else p) (kd.map fun p => if p.1 = k then (p.1, d) else p)
  | _, _, .nil => .nil
  | (k1, b, u) :: kv, (_, e) :: kd, .cons a z c r => by
    rw [List.map_cons, List.map_cons]
    by_cases q : k1 = k
    · rw [if_pos q, if_pos q]; exact .cons a z h (RpN.repl h r)
    · rw [if_neg q, if_neg q]; exact .cons a z c (RpN.repl h r)
theorem RpN.put {k : NestedKey} {b : Addr} {v : V} {d : D} {kv : List NEnt} {kd : List (NestedKey × D)} (r : RpN K I kv kd) (n : NI I k (.ref b)) (hk : k.depth ≤ 8) (h : Rp K I v d) : RpN K I (putN kv k b v) (putKD kd k d) := by
  unfold putN putKD
  rw [r.anyB]
  split
  · exact RpN.repl h r
  · exact RpN.snoc n hk h r
theorem RpN.keys : ∀ {kv : List NEnt} {kd : List (NestedKey × D)}, RpN K I kv kd → ∀ x ∈ kv, NI I x.1 (.ref x.2.1) ∧ x.1.depth ≤ 8
  | _, _, .nil, _, h => nomatch h
  | _, _, .cons a z _ r, x, h => by
    rcases List.mem_cons.mp h with rfl | h
    · exact ⟨a, z⟩
    · exact RpN.keys r x h
end
section
variable {X : Cx} {Δ : DC} {e a b c o i k v value : Expr} {de da db dc dx dy : DE} {pos pos' apos cpos : Pos} {ta tb tc te to ti td ty tv tx tk : TE}
end
end BB
set_option maxHeartbeats 4000000
namespace BB
open L2 PySem PySem.Spec PyProof.Rows PySem.Froz
section
variable {P : Program} {w : World} {A : Around} {E : Value → Shared → Prop} {s : Shared}
end
section
variable {X : Cx}
end
section
variable {X : Cx} {Δ : DC} {e : Expr} {te : TE} {de : DE} {p1 p2 q1 q2 : Pos}
end
end BB
set_option maxHeartbeats 4000000
namespace BB
open L2 PySem PySem.Spec PyProof.Rows PySem.Froz
def IntP (p : PyData) : Prop := ∃ (n : Int) (ns : List Int), p = .tuple ((n :: ns).map .int)
theorem alike_intsW : ∀ xs ys : List Int, PySem.W.alikeAll (xs.map PyData.int) (ys.map PyData.int) = true
  | [], _ => by rw [List.map_nil, PySem.W.alikeAll]
  | _ :: _, [] => by rw [List.map_nil, List.map_cons, PySem.W.alikeAll]
  | x :: xs, y :: ys => by rw [List.map_cons, List.map_cons, PySem.W.alikeAll, alike_intsW xs ys, PySem.W.alike]; rfl
theorem IntP.alike {p q : PyData} (h : IntP p) (k : IntP q) : PySem.W.alike p q = true := by
  obtain ⟨n, zs, rfl⟩ := h
  obtain ⟨m, ys, rfl⟩ := k
  rw [PySem.W.alike, alike_intsW]
theorem depth_intsW : ∀ zs : List Int, PyData.depthAll (zs.map PyData.int) = 0
  | [] => by rw [List.map_nil, PyData.depthAll]
  | z :: zs => by
    have d0 : (PyData.int z).depth = 0 := by rw [PyData.depth] <;> simp
    rw [List.map_cons, PyData.depthAll, depth_intsW zs, d0]; rfl
theorem IntP.depth {p : PyData} (h : IntP p) : p.depth ≤ 8 := by
  obtain ⟨n, zs, rfl⟩ := h
  rw [PyData.depth, depth_intsW]
  decide
section
variable {P : Program} {w : World} {A : Around} {E : Value → Shared → Prop} {s : Shared} {a : Addr}
end
section
variable {X : Cx}
end
section
variable {X : Cx} {Δ : DC} {e : Expr} {te : TE} {de : DE} {p1 p2 q1 q2 : Pos}
end
end BB
set_option maxHeartbeats 4000000
namespace BB
open L2 PySem PySem.Spec PyProof.Rows
section
variable {X : Cx} {Δ : DC} {k i : Nat} {f : Addr} {fd : FuncData} {ps : List Str} {ds : List Value} {dvs : List V} {dds : List D} {x : Str} {p pos : Pos} {e : Expr} {es : List Expr} {t tl : TA} {dl : DA} {sp : SpD}
end
theorem hu10 {n m : Nat} (h : n + 64 < m) : n + 10 < m := by omega
section
variable {X : Cx} {Δ : DC} {a : Expr} {ta : TE} {da : DE} {p p2 pos pos2 : Pos}
end
end BB
set_option maxHeartbeats 4000000
namespace BB
open L2 PySem PySem.Spec PyProof.Rows
section
variable {X : Cx}
theorem RpK.keys {K : PySem.W.Frag} {I : Hp} : ∀ {kv : List (Key × V)} {kd : List (Key × D)}, RpK K I kv kd → kv.map (·.1) = kd.map (·.1)
  | _, _, .nil => rfl
  | _, _, .cons _ r => by rw [List.map_cons, List.map_cons, RpK.keys r]
end
end BB
set_option maxHeartbeats 4000000
namespace BB
open L2 PySem PySem.Spec PyProof.Rows
section
variable {prog : Program} {w : World} {A : Around} {E : Value → Shared → Prop} {s : Shared}
def ZSt (z TI TO i1 i2 l1 l2 S : Addr) (xs ys : Array Value) (i : Nat) (h : Heap) : Prop :=
  IsPair h TI (.ref i1) (.ref i2) ∧ h.IsListIter i1 l1 i ∧ h.IsListIter i2 l2 i ∧ h.IsList l1 xs ∧ h.IsList l2 ys ∧
    ((IsZip h z TI TO .none ∧ ∃ a b, IsPair h TO a b) ∨ ∃ T f oT, IsZipHeld h z TI TO T f ∧ h.get? T = some oT ∧ T ≠ z ∧ T ≠ i1 ∧ T ≠ i2 ∧ T ≠ S)
variable {z TI TO i1 i2 l1 l2 S : Addr} {xs ys : Array Value}
theorem ZSt.keep {i : Nat} {h h' : Heap} (hS : S ≠ z ∧ S ≠ TI ∧ S ≠ TO ∧ S ≠ i1 ∧ S ≠ i2 ∧ S ≠ l1 ∧ S ≠ l2) (st : ZSt z TI TO i1 i2 l1 l2 S xs ys i h) (hk : ∀ b o, b ≠ S → h.get? b = some o → h'.get? b = some o) : ZSt z TI TO i1 i2 l1 l2 S xs ys i h' := by
  obtain ⟨dz, dTI, dTO, di1, di2, dl1, dl2⟩ := hS
  obtain ⟨hTI, h1, h2, hl1, hl2, hz⟩ := st
  refine ⟨hk _ _ (Ne.symm dTI) hTI, h1.at fun o e => hk _ o (Ne.symm di1) e, h2.at fun o e => hk _ o (Ne.symm di2) e, hl1.at fun o e => hk _ o (Ne.symm dl1) e, hl2.at fun o e => hk _ o (Ne.symm dl2) e, ?_⟩
  rcases hz with ⟨hz, a, b, hTO⟩ | ⟨T, f, oT, hz, hT, r1, r2, r3, r4⟩
  · exact .inl ⟨hk _ _ (Ne.symm dz) hz, a, b, hk _ _ (Ne.symm dTO) hTO⟩
  · exact .inr ⟨T, f, oT, hk _ _ (Ne.symm dz) hz, hk _ _ r4 hT, r1, r2, r3, r4⟩
theorem ZSt.item {i : Nat} {Q : Option Value → Shared → Prop} (D : ZipApart z TI TO i1 i2 l1 l2) (st : ZSt z TI TO i1 i2 l1 l2 S xs ys i s.heap) (hS : S < s.heap.objs.size) (hix : i < xs.size) (hiy : i < ys.size)
    (hQ : ∀ h', ZSt z TI TO i1 i2 l1 l2 S xs ys (i + 1) h' → IsPair h' s.heap.objs.size xs[i] ys[i] → h'.objs.size = s.heap.objs.size + 1 → (∀ b o, b ≠ z → b ≠ TO → b ≠ i1 → b ≠ i2 → s.heap.get? b = some o → h'.get? b = some o) → Q (some (.ref s.heap.objs.size)) { s with heap := h' }) :
    wpAny (model prog w) A (pyNext (.ref z)) Q E s := by
  obtain ⟨hTI, h1, h2, hl1, hl2, hz⟩ := st
  have ex := Array.getElem?_eq_getElem hix
  have ey := Array.getElem?_eq_getElem hiy
  have lt : ∀ {c o}, s.heap.get? c = some o → s.heap.objs.size ≠ c := fun e => Nat.ne_of_gt (Heap.lt_size e)
  have n1 : s.heap.objs.size ≠ i1 := let ⟨_, e, _⟩ := h1; lt e
  have n2 : s.heap.objs.size ≠ i2 := let ⟨_, e, _⟩ := h2; lt e
  rcases hz with ⟨hz, a, b, hTO⟩ | ⟨T, f, oT, hz, hT, r1, r2, r3, r4⟩
  · refine wpAny_pyNext_zip_item D hz hTI hTO h1 h2 hl1 hl2 ex ey fun h' a1 a2 a3 a4 a5 a6 hk => ?_
    exact hQ h' ⟨hk _ _ D.TIz D.TITO D.TIi1 D.TIi2 hTI, a3, a4, hl1.at fun o e => hk _ o D.l1z D.l1TO D.l1i1 D.l1i2 e, hl2.at fun o e => hk _ o D.l2z D.l2TO D.l2i1 D.l2i2 e,
        .inr ⟨s.heap.objs.size, false, _, a1, a5, lt hz, n1, n2, Nat.ne_of_gt hS⟩⟩ a5 a6 hk
  · refine wpAny_pyNext_zip_item_held D hz hT hTI h1 h2 hl1 hl2 ex ey fun h' a1 a3 a4 a5 a6 hk => ?_
    exact hQ h' ⟨hk _ _ D.TIz D.TIi1 D.TIi2 hTI, a3, a4, hl1.at fun o e => hk _ o D.l1z D.l1i1 D.l1i2 e, hl2.at fun o e => hk _ o D.l2z D.l2i1 D.l2i2 e,
        .inr ⟨T, true, oT, a1, hk _ _ r1 r2 r3 hT, r1, r2, r3, r4⟩⟩ a5 a6 fun b o c1 _ c3 c4 e => hk b o c1 c3 c4 e
theorem ZSt.done {i : Nat} {Q : Option Value → Shared → Prop} (hA : A.handled = none) (D : ZipApart z TI TO i1 i2 l1 l2) (st : ZSt z TI TO i1 i2 l1 l2 S xs ys i s.heap) (hend : xs[i]? = none ∨ ys[i]? = none)
    (hQ : ∀ h', (∀ b o, b ≠ z → b ≠ TO → b ≠ i1 → b ≠ i2 → s.heap.get? b = some o → h'.get? b = some o) → Q none { s with heap := h' }) :
    wpAny (model prog w) A (pyNext (.ref z)) Q E s := by
  obtain ⟨hTI, h1, h2, hl1, hl2, hz⟩ := st
  rcases hz with ⟨hz, a, b, hTO⟩ | ⟨T, f, oT, hz, hT, r1, r2, r3, r4⟩
  · exact wpAny_pyNext_zip_end hA D hz hTI hTO h1 h2 hl1 hl2 hend fun h' hk => hQ h' hk
  · exact wpAny_pyNext_zip_end_held hA D hz hT hTI h1 h2 hl1 hl2 hend fun h' hk => hQ h' fun b o c1 _ c3 c4 e => hk b o c1 c3 c4 e
end
structure ZMade (xs ys : Array Value) (lo : Addr) (h : Heap) (as : List Addr) : Prop where
  rise : as.Pairwise (· < ·)
  above : ∀ a ∈ as, lo < a
  pairs : ∀ (j : Nat) (a : Addr), as[j]? = some a → ∃ x y, xs[j]? = some x ∧ ys[j]? = some y ∧ IsPair h a x y
theorem ZMade.there {xs ys : Array Value} {lo : Addr} {h : Heap} {as : List Addr} (g : ZMade xs ys lo h as) {a : Addr} (ha : a ∈ as) : a < h.objs.size := by
  obtain ⟨j, hj⟩ := List.mem_iff_getElem?.mp ha
  obtain ⟨_, _, _, _, e⟩ := g.pairs j a hj
  exact Heap.lt_size e
section
variable {prog : Program} {w : World} {A : Around} {s : Shared} {R : Result → Shared → Prop} {z TI TO i1 i2 l1 l2 S : Addr} {xs ys : Array Value}
end
end BB
set_option maxHeartbeats 4000000
namespace BB
open L2 PySem PySem.Spec PyProof.Rows PySem.Froz
structure KeyLam (X : Cx) (params : Arguments) (body : Expr) (scope : Scope) (y x : Str) : Prop where
  text : ∃ p1 p2 p3, body = .Subscript (.Name y p1) (.Name x p2) p3
  kind : scope.kind = .function
  co : scope.isCoroutine = false
  gen : scope.isGenerator = false
  nocell : ∀ z ∈ scope.names, z.2 ≠ .cell
  free : ∀ z ∈ scope.names, z.2 = .free → X.env.scope.names.lookup z.1 = some .cell ∨ X.env.scope.names.lookup z.1 = some .free
  ky : (y, NameKind.free) ∈ scope.names ∧ scope.names.lookup y = some .free
  kx : scope.names.lookup x = some .local
  nodef : defaultsOf params X.env = ([], [])
  bind : ∀ (q : Str) (cl : List (Str × Addr)) (pm cv ctv : Value) (v : Value), bindArgs (PySem.W.kla_fn "<lambda>" q params body scope cl pm cv ctv) ⟨[v], []⟩ = pure [(x, v)]
  dbx : (x == ("__debug__" : Str)) = false
  dby : (y == ("__debug__" : Str)) = false
  cly : (y == ("__classdict__" : Str)) = false
section
variable {X : Cx} {pins : List (Addr × Obj)} {σ : L2.St} {H : Hp} {s : Shared} {params : Arguments} {body : Expr} {scope : Scope} {f c' a : Addr} {y x : Str}
theorem KeyLam.has (L : KeyLam X params body scope y x) (ok : X.Ok) : ∀ z ∈ scope.names, z.2 = .free → ∃ c, X.env.cells.lookup z.1 = some c := fun z hz e => by
  rcases L.free z hz e with h | h
  · exact ok.has _ (.inl h)
  · exact ok.has _ (.inr h)
end
theorem RpK.nrm {K : PySem.W.Frag} {I : Hp} : ∀ {kv : List (Key × V)} {kd : List (Key × D)}, RpK K I kv kd → RpK K I kv (kd.map fun x => (x.1, BB.nrm x.2))
  | _, _, .nil => .nil
  | _, _, .cons h r => .cons h.nrm (RpK.nrm r)
section
variable {X : Cx} {Δ : DC} {params : Arguments} {body : Expr} {scope : Scope} {c P : Addr} {q y x : Str} {i : Nat} {p1 p2 kp lpos pos : Pos}
end
end BB
set_option maxHeartbeats 4000000
namespace BB
open L2 PySem PySem.Spec PyProof.Rows
def codF (K : PySem.W.Frag) (n : Str) : Addr := (He.cT K (n, none)).1
def tabF (K : PySem.W.Frag) (n : Str) : Addr := (He.cT K (n, none)).2
section
variable {base : Heap} {mg : Str → Option Value} {K : PySem.W.Frag} {P : Program} {w : World}
end
end BB
set_option maxHeartbeats 4000000
namespace BB
open L2 PySem PySem.Spec PyProof.Rows PySem.Froz
def TW (h : Heap) (v : Value) (zs : List Str) : Prop := ∃ (b : Addr) (its : List Value), v = .ref b ∧ h.IsTuple b its.toArray ∧ Vals (zs.map V.str) its
theorem TW.keeps {h h' : Heap} {v : Value} {zs : List Str} (t : TW h v zs) (k : ∀ b o, h.get? b = some o → o.cls = .type "tuple" → h'.get? b = some o) : TW h' v zs := by
  obtain ⟨b, its, e, ⟨o, ho, hc, hd⟩, r⟩ := t
  exact ⟨b, its, e, ⟨o, k _ _ ho hc, hc, hd⟩, r⟩
section
variable {prog : Program} {w : World} {A : Around} {E : Value → Shared → Prop} {s : Shared}
end
end BB
set_option maxHeartbeats 4000000
namespace BB
open L2 PySem PySem.Spec PyProof.Rows PySem.Froz
section
variable {P : Program} {w : World} {A : Around} {E : Value → Shared → Prop} {s : Shared} {a : Addr}
end
theorem nodup_le {α : Type} : ∀ (Z ds : List α), Z.Nodup → (∀ z ∈ Z, z ∈ ds) → Z.length ≤ ds.length
  | [], _, _, _ => Nat.zero_le _
  | z :: Z, ds, hn, h => by
    obtain ⟨l1, l2, rfl⟩ := List.append_of_mem (h z List.mem_cons_self)
    have hn' := List.nodup_cons.mp hn
    have := nodup_le Z (l1 ++ l2) hn'.2 fun y hy => by
      have := h y (List.mem_cons_of_mem _ hy)
      rcases List.mem_append.mp this with h1 | h1
      · exact List.mem_append_left _ h1
      · rcases List.mem_cons.mp h1 with rfl | h1
        · exact absurd hy hn'.1
        · exact List.mem_append_right _ h1
    rw [List.length_cons, List.length_append, List.length_cons]
    rw [List.length_append] at this
    omega
end BB
set_option maxHeartbeats 8000000
namespace BB
open L2 PySem PySem.Spec PyProof.Rows
section
variable {X : Cx}
end
section
variable {X : Cx} {Δ : DC} {dt : DT} {dg : DG} {wi : TI} {di : DI} {t1 : TT} {g : TG} {tk te : TE} {dk de : DE}
def SetS (acc : List Str) (S : Key → Bool) (n : Nat) : Prop := ∃ m : List Str, m.Nodup ∧ (∀ z, z ∈ m ↔ z ∈ acc) ∧ m.length = n ∧ ∀ k, S k = true ↔ ∃ z ∈ m, k = Sum.inr z
theorem SetS.nil : SetS [] (fun _ => false) 0 := ⟨[], .nil, fun _ => Iff.rfl, rfl, fun k => ⟨fun h => (by cases h), fun ⟨_, h, _⟩ => (by cases h)⟩⟩
theorem SetS.put {acc : List Str} {S : Key → Bool} {n : Nat} (h : SetS acc S n) (z : Str) : SetS (acc ++ [z]) (fun j => S j || decide (j = (Sum.inr z : Key))) (if S (Sum.inr z) = true then n else n + 1) := by
  obtain ⟨m, h1, h2, h3, h4⟩ := h
  by_cases hz : z ∈ m
  · have hS : S (Sum.inr z) = true := (h4 _).mpr ⟨z, hz, rfl⟩
    rw [if_pos hS]
    refine ⟨m, h1, fun y => ?_, h3, fun k => ?_⟩
    · rw [List.mem_append, List.mem_singleton, ← h2]
      exact ⟨.inl, fun h => h.elim id fun e => e ▸ hz⟩
    · rw [Bool.or_eq_true, decide_eq_true_iff, h4]
      exact ⟨fun h => h.elim id fun e => ⟨z, hz, e⟩, .inl⟩
  · have hS : ¬ S (Sum.inr z) = true := fun h => by
      obtain ⟨y, hy, e⟩ := (h4 _).mp h
      injection e with e
      exact hz (e ▸ hy)
    rw [if_neg hS]
    refine ⟨z :: m, List.nodup_cons.mpr ⟨hz, h1⟩, fun y => ?_, by rw [List.length_cons, h3], fun k => ?_⟩
    · rw [List.mem_cons, List.mem_append, List.mem_singleton, ← h2]
      exact ⟨fun h => h.elim .inr .inl, fun h => h.elim .inr .inl⟩
    · rw [Bool.or_eq_true, decide_eq_true_iff, h4]
      constructor
      · rintro (⟨y, hy, e⟩ | e)
        · exact ⟨y, List.mem_cons_of_mem _ hy, e⟩
        · exact ⟨z, List.mem_cons_self, e⟩
      · rintro ⟨y, hy, e⟩
        rcases List.mem_cons.mp hy with rfl | hy
        · exact .inr e
        · exact .inl ⟨y, hy, e⟩
theorem SetS.few {acc : List Str} {S : Key → Bool} {n : Nat} (h : SetS acc S n) : n ≤ acc.length := by
  obtain ⟨m, h1, h2, h3, _⟩ := h
  rw [← h3]
  exact nodup_le m acc h1 fun z hz => (h2 z).mp hz
end
end BB
set_option maxHeartbeats 4000000
namespace BB
open L2 PySem PySem.Spec PyProof.Rows
structure CT where
  name : Str
  qual : Str
  params : Arguments
  body : FuncBody
  scope : Scope
  fr : List Str
abbrev CT.fd (T : CT) (cl : List (Str × Addr)) (c : Addr) (doc pm ctv : Value) : FuncData :=
  { name := T.name, qualname := T.qual, params := T.params, body := T.body, scope := T.scope, globals := mainGlobals, closure := cl, defaults := .none, kwdefaults := .none, doc, pyModule := pm, annotations := none, code := .ref c, closureTuple := ctv, builtins := builtinsNs }
def FnG (T : CT) (cl : List (Str × Addr)) (c f : Addr) : Heap → Prop := fun h => ∃ (od : Option Addr) (sl : Array (Option Value)) (doc pm ctv : Value), h.get? f = some (⟨.type "function", od, .func (T.fd cl c doc pm ctv), sl⟩ : Obj)
def CelG (c : Addr) (vs : List V) : Heap → Prop := fun h => ∃ v u, vs = [v] ∧ L2.RelV v u ∧ h.IsCell c (some u)
def codG (c : Addr) (q : Str) : Heap → Prop := fun h => ∃ (oc : Obj) (vs : Array Value) (t : Tok), h.get? c = some oc ∧ oc.data = .fields vs ∧ vs[1]? = some (.str q t)
def cloM (T : CT) (cl : List (Str × Addr)) (c : Addr) : MO := .xt (fun a _ => FnG T cl c a) [(c, codG c T.qual)] []
def celM (d : D) : MO := .xt (fun a vs => CelG a vs) [] [d]
def addM : List Addr → List D → Mem → Mem
  | c :: cs, d :: ds, M => mset (addM cs ds M) c (celM d)
  | _, _, M => M
def addH : List Addr → List V → Hp → Hp
  | c :: cs, v :: vs, H => upd (addH cs vs H) c (.ext (CelG c [v]))
  | _, _, H => H
structure CloWf (fr : List Str) (cl : List (Str × Addr)) (cs : List Addr) : Prop where
  len : cs.length = fr.length
  nd : cs.Nodup
  has : ∀ (i : Nat) (y : Str), fr[i]? = some y → cl.lookup y = cs[i]?
  all : ∀ y a, cl.lookup y = some a → ∃ i : Nat, fr[i]? = some y ∧ cs[i]? = some a
  inj : ∀ x y c, cl.lookup x = some c → cl.lookup y = some c → x = y
theorem addM_ne {b : Addr} {M : Mem} : ∀ {cs : List Addr} {ds : List D}, b ∉ cs → addM cs ds M b = M b
  | [], _, _ => rfl
  | _ :: _, [], _ => rfl
  | c :: cs, d :: ds, h => by
    rw [addM, mset_ne fun z => h (by rw [z]; exact List.mem_cons_self)]
    exact addM_ne fun z => h (List.mem_cons_of_mem _ z)
theorem addH_ne {b : Addr} {H : Hp} : ∀ {cs : List Addr} {vs : List V}, b ∉ cs → addH cs vs H b = H b
  | [], _, _ => rfl
  | _ :: _, [], _ => rfl
  | c :: cs, v :: vs, h => by
    rw [addH, upd_ne fun z => h (by rw [z]; exact List.mem_cons_self)]
    exact addH_ne fun z => h (List.mem_cons_of_mem _ z)
theorem addM_at {M : Mem} : ∀ {cs : List Addr} {ds : List D} {i : Nat} {c : Addr} {d : D}, cs.Nodup → cs[i]? = some c → ds[i]? = some d → addM cs ds M c = some (celM d)
  | [], _, _, _, _, _, h, _ => by cases h
  | _ :: _, [], _, _, _, _, _, h => by cases h
  | c :: cs, d :: ds, 0, _, _, _, h1, h2 => by
    cases h1; cases h2
    exact mset_same
  | c :: cs, d :: ds, i + 1, c', d', n, h1, h2 => by
    obtain ⟨n1, n2⟩ := List.nodup_cons.mp n
    have h1 : cs[i]? = some c' := h1
    rw [addM, mset_ne (a := c) (b := c') fun z => n1 (by rw [← z]; exact List.mem_of_getElem? h1)]
    exact addM_at n2 h1 h2
section
variable {K : PySem.W.Frag} {F I H : Hp} {M : Mem}
theorem At.addC (A : At K F I M H) : ∀ {cs : List Addr} {ds : List D} {vs : List V}, cs.Nodup → (∀ c ∈ cs, H c = none) → Rps K I vs ds → cs.length = ds.length → At K F I (addM cs ds M) (addH cs vs H)
  | [], ds, vs, _, _, r, hl => by
    have : ds = [] := List.length_eq_zero_iff.mp hl.symm
    subst this
    rw [r.nil_inv]
    exact A
  | c :: cs, [], vs, _, _, _, hl => by cases hl
  | c :: cs, d :: ds, vs, n, hn, r, hl => by
    obtain ⟨v, vs, rfl, rv, rr⟩ := r.cons_inv
    obtain ⟨n1, n2⟩ := List.nodup_cons.mp n
    have A1 := At.addC A n2 (fun x hx => hn x (List.mem_cons_of_mem _ hx)) rr (Nat.succ.inj hl)
    exact A1.newM (by rw [addH_ne n1]; exact hn c List.mem_cons_self) _ _ ⟨[v], upd_same, .cons rv .nil, fun p hp => (by cases hp)⟩
theorem At.delC {cs : List Addr} (A : At K F I M H) (hx : ∀ c ∈ cs, ∃ d, M c = some (celM d)) : At K F I (fun b => if b ∈ cs then none else M b) (fun b => if b ∈ cs then none else H b) where
  nt := A.nt
  ex := fun a o e => by
    have : a ∉ cs := fun z => by
      obtain ⟨d, hd⟩ := hx a z
      rw [(A.mem _ _ hd).1] at e
      cases e
    show (if a ∈ cs then none else H a) = _
    rw [if_neg this]; exact A.ex _ _ e
  mem := fun b u e => by
    have e : (if b ∈ cs then none else M b) = some u := e
    have hb : b ∉ cs := fun z => by rw [if_pos z] at e; cases e
    rw [if_neg hb] at e
    have key : ∀ c, M c = some (.own b) → c ∉ cs := fun c hc z => by
      obtain ⟨d, hd⟩ := hx c z
      rw [hd] at hc
      cases hc
    refine ⟨(A.mem _ _ e).1, (A.mem _ _ e).2.mono (Ext.refl I) (fun c v hc hv => ?_) (fun c hc => ?_)⟩
    · show (if c ∈ cs then none else H c) = _
      rw [if_neg (hc.elim (fun z => z ▸ hb) (key c))]; exact hv
    · show (if c ∈ cs then none else M c) = _
      rw [if_neg (key c hc)]; exact hc
  fr := fun b u e => by
    obtain ⟨h1, h2, h3⟩ := A.fr _ _ e
    have hb : b ∉ cs := fun z => by
      obtain ⟨d, hd⟩ := hx b z
      rw [hd] at h3
      cases h3
    refine ⟨?_, h2, ?_⟩
    · show (if b ∈ cs then none else H b) = _
      rw [if_neg hb]; exact h1
    · show (if b ∈ cs then none else M b) = _
      rw [if_neg hb]; exact h3
end
theorem cells_at {P : Program} {w : World} {H : Hp} {h : Heap} {fr : List Str} {cl : List (Str × Addr)} {cs : List Addr} {vs : List V} (hok : HOk P w H h) (wf : CloWf fr cl cs) (hl : cs.length = vs.length) (hc : ∀ (i : Nat) c v, cs[i]? = some c → vs[i]? = some v → H c = some (.ext (CelG c [v]))) :
    NdefX.CellsAt cl fr (vs.map some) h (fun b => if b ∈ cs then none else H b) := by
  refine ⟨by rw [List.length_map, ← hl, wf.len], fun y a e => ?_, wf.inj, fun i y e => ?_⟩
  · obtain ⟨i, h1, h2⟩ := wf.all y a e
    refine ⟨if_pos (List.mem_of_getElem? h2), ?_⟩
    obtain ⟨v, hv⟩ : ∃ v, vs[i]? = some v := ⟨_, List.getElem?_eq_getElem (by rw [← hl]; exact (List.getElem?_eq_some_iff.mp h2).1)⟩
    obtain ⟨⟨v', u, e1, _, e2⟩, _⟩ := hok _ _ (hc i a v h2 hv)
    exact ⟨_, e2⟩
  · have h1 := wf.has i y e
    have hi : i < cs.length := by rw [wf.len]; exact (List.getElem?_eq_some_iff.mp e).1
    rw [List.getElem?_eq_getElem hi] at h1
    refine ⟨_, h1, fun v ev => ?_⟩
    rw [List.getElem?_map] at ev
    obtain ⟨v', hv, e2⟩ := Option.map_eq_some_iff.mp ev
    cases e2
    obtain ⟨⟨v2, u, e1, r, e2⟩, _⟩ := hok _ _ (hc i cs[i] v (List.getElem?_eq_getElem hi) hv)
    cases e1
    exact ⟨u, r, e2⟩
section
variable {P : Program} {w : World} {K : PySem.W.Frag} {mg : Str → Option Value} {base : Heap} {A : Around} {outer : List PySem.Env} {s s' : Shared} {H H' : Hp} {cs : List Addr} {vs : List V}
theorem HOk.less {h : Heap} (hok : HOk P w H h) (hcs : ∀ c ∈ cs, ∃ φ, H c = some (.ext φ)) : HOk P w (fun b => if b ∈ cs then none else H b) h := fun a o e => by
  have e : (if a ∈ cs then none else H a) = some o := e
  have ha : a ∉ cs := fun z => by rw [if_pos z] at e; cases e
  rw [if_neg ha] at e
  refine (hok a o e).stay (fun b u _ g => g) (fun b hb => ?_) fun b xs hb => ?_
  · have : b ∉ cs := fun z => by
      obtain ⟨φ, h⟩ := hcs b z
      rw [h] at hb; cases hb
    show (if b ∈ cs then none else H b) = _
    rw [if_neg this]; exact hb
  · have : b ∉ cs := fun z => by
      obtain ⟨φ, h⟩ := hcs b z
      rw [h] at hb; cases hb
    show (if b ∈ cs then none else H b) = _
    rw [if_neg this]; exact hb
theorem Env0.less (e : Env0 P w K mg base A outer s H) (hcs : ∀ c ∈ cs, ∃ φ, H c = some (.ext φ)) : Env0 P w K mg base A outer s (fun b => if b ∈ cs then none else H b) :=
  ⟨e.frames, e.mod, fun b o h => ⟨(e.bs b o h).1, by
    show (if b ∈ cs then none else H b) = none
    rw [(e.bs b o h).2]; split <;> rfl⟩, e.bsz, e.funs, fun b hb => by
    show (if b ∈ cs then none else H b) = none
    rw [e.frf b hb]; split <;> rfl, HOk.less e.hok hcs, e.bare⟩
theorem HOk.put {h : Heap} {a : Addr} {φ : Heap → Prop} (hok : HOk P w H h) (hn : H a = none) (new : ObjOk P w H h a (.ext φ)) : HOk P w (upd H a (.ext φ)) h := fun b o e => by
  by_cases hb : b = a
  · subst hb; rw [upd_same] at e; cases e; exact new
  · rw [upd_ne hb] at e
    refine (hok b o e).stay (fun b u _ g => g) (fun c hc => ?_) fun c xs hc => ?_
    · rw [upd_ne (ne_of_none hc hn)]; exact hc
    · rw [upd_ne (ne_of_none hc hn)]; exact hc
theorem cel_ok {P : Program} {w : World} {H : Hp} {h : Heap} {c : Addr} {v : V} (z : CelG c [v] h) : ObjOk P w H h c (.ext (CelG c [v])) := by
  obtain ⟨v', u, e1, r, o, ho, hd⟩ := z
  cases e1
  exact ⟨⟨v, u, rfl, r, o, ho, hd⟩, ⟨o, ho⟩, fun h1 h2 ⟨v', u', e, r, o, ho, hd⟩ k => ⟨v', u', e, r, o, k o ho, hd⟩⟩
theorem HOk.addC {h : Heap} : ∀ {cs : List Addr} {vs : List V} {H : Hp}, HOk P w H h → cs.Nodup → (∀ c ∈ cs, H c = none) → (∀ (i : Nat) c v, cs[i]? = some c → vs[i]? = some v → CelG c [v] h) → HOk P w (addH cs vs H) h
  | [], _, _, hok, _, _, _ => hok
  | _ :: _, [], _, hok, _, _, _ => hok
  | c :: cs, v :: vs, H, hok, n, hn, hc => by
    obtain ⟨n1, n2⟩ := List.nodup_cons.mp n
    have h1 := HOk.addC hok n2 (fun x hx => hn x (List.mem_cons_of_mem _ hx)) fun i x u e1 e2 => hc (i + 1) x u e1 e2
    exact HOk.put h1 (by rw [addH_ne n1]; exact hn c List.mem_cons_self) (cel_ok (hc 0 c v rfl rfl))
theorem addH_of {b : Addr} {o : HO} : ∀ {cs : List Addr} {vs : List V} {H : Hp}, (∀ c ∈ cs, H c = none) → H b = some o → addH cs vs H b = some o := fun {cs vs H} hn h => by
  rw [addH_ne fun z => by rw [hn b z] at h; cases h]; exact h
theorem un_addC {fs : List Addr} {h h' : Heap} (u : Un fs [] (fun b => if b ∈ cs then none else H b) H' h h') (hcs : ∀ c ∈ cs, ∃ φ, H c = some (.ext φ)) (hn : ∀ c ∈ cs, H' c = none) : Un fs [] H (addH cs vs H') h h' where
  keep := fun b o g e hb hx => u.keep b o g (by show (if b ∈ cs then none else H b) = none; rw [e]; split <;> rfl) hb hx
  slot := fun b o g e hb hx => u.slot b o g (by show (if b ∈ cs then none else H b) = none; rw [e]; split <;> rfl) hb hx
  free := fun b o g e hx => by
    have : b ∉ cs := fun z => by
      obtain ⟨φ, h⟩ := hcs b z
      rw [h] at e; cases e
    rw [addH_ne this]
    exact u.free b o g (by show (if b ∈ cs then none else H b) = none; rw [e]; split <;> rfl) hx
  there := u.there
  tups := fun b xs e => by
    have : b ∉ cs := fun z => by
      obtain ⟨φ, h⟩ := hcs b z
      rw [h] at e; cases e
    exact addH_of hn (u.tups b xs (by show (if b ∈ cs then none else H b) = _; rw [if_neg this]; exact e))
  frzs := fun b o x e => by
    have : b ∉ cs := fun z => by
      obtain ⟨φ, h⟩ := hcs b z
      rw [h] at e; cases e
    exact addH_of hn (u.frzs b o x (by show (if b ∈ cs then none else H b) = _; rw [if_neg this]; exact e))
  tbls := fun b ps e => by
    have : b ∉ cs := fun z => by
      obtain ⟨φ, h⟩ := hcs b z
      rw [h] at e; cases e
    obtain ⟨more, g⟩ := u.tbls b ps (by show (if b ∈ cs then none else H b) = _; rw [if_neg this]; exact e)
    exact ⟨more, addH_of hn g⟩
end
end BB
set_option maxHeartbeats 4000000
namespace BB
open L2 PySem PySem.Spec PyProof.Rows
section
variable {P : Program} {w : World} {K : PySem.W.Frag} {mg : Str → Option Value} {base : Heap} {A : Around} {outer : List PySem.Env} {s s' : Shared} {H H' : Hp} {cs : List Addr} {vs : List V}
theorem ub_addC {fs : List Addr} {h B h' : Heap} (u : UB fs (fun b => if b ∈ cs then none else H b) H' h B h') (hcs : ∀ c ∈ cs, ∃ φ, H c = some (.ext φ)) (hn : ∀ c ∈ cs, H' c = none) : UB fs H (addH cs vs H') h B h' where
  keep := fun b o g e hb => u.keep b o g (by show (if b ∈ cs then none else H b) = none; rw [e]; split <;> rfl) hb
  slot := u.slot
  free := fun b o g e => by
    have : b ∉ cs := fun z => by
      obtain ⟨φ, h⟩ := hcs b z
      rw [h] at e; cases e
    rw [addH_ne this]
    exact u.free b o g (by show (if b ∈ cs then none else H b) = none; rw [e]; split <;> rfl)
  there := u.there
  tups := fun b xs e => by
    have : b ∉ cs := fun z => by
      obtain ⟨φ, h⟩ := hcs b z
      rw [h] at e; cases e
    exact addH_of hn (u.tups b xs (by show (if b ∈ cs then none else H b) = _; rw [if_neg this]; exact e))
  frzs := fun b o x e => by
    have : b ∉ cs := fun z => by
      obtain ⟨φ, h⟩ := hcs b z
      rw [h] at e; cases e
    exact addH_of hn (u.frzs b o x (by show (if b ∈ cs then none else H b) = _; rw [if_neg this]; exact e))
  tbls := fun b ps e => by
    have : b ∉ cs := fun z => by
      obtain ⟨φ, h⟩ := hcs b z
      rw [h] at e; cases e
    obtain ⟨more, g⟩ := u.tbls b ps (by show (if b ∈ cs then none else H b) = _; rw [if_neg this]; exact e)
    exact ⟨more, addH_of hn g⟩
theorem cr_addC {Q Q0 : VK} {E E0 : XK} {r : Result} (e0 : Env0 P w K mg base A outer s H) (hd : cs.Nodup) (hl : cs.length = vs.length) (hc : ∀ (i : Nat) c v, cs[i]? = some c → vs[i]? = some v → H c = some (.ext (CelG c [v])))
    (hq : ∀ v H', (∀ c ∈ cs, H' c = none) → Q0 v H' → Q v (addH cs vs H')) (hx : ∀ cls d H', (∀ c ∈ cs, H' c = none) → E0 cls d H' → E cls d (addH cs vs H'))
    (h : CR (L2.CX P w) outer P w (fun b => if b ∈ cs then none else H b) s Q0 E0 r s') : CR (L2.CX P w) outer P w H s Q E r s' := by
  have get : ∀ c ∈ cs, ∃ v, H c = some (.ext (CelG c [v])) := fun c h => by
    obtain ⟨i, hi⟩ := List.getElem?_of_mem h
    obtain ⟨v, hv⟩ : ∃ v, vs[i]? = some v := ⟨_, List.getElem?_eq_getElem (by rw [← hl]; exact (List.getElem?_eq_some_iff.mp hi).1)⟩
    exact ⟨v, hc i c v hi hv⟩
  have hcs : ∀ c ∈ cs, ∃ φ, H c = some (.ext φ) := fun c h => let ⟨v, g⟩ := get c h; ⟨_, g⟩
  have nf : ∀ c ∈ cs, c ∉ frs outer := fun c h z => by
    obtain ⟨v, g⟩ := get c h
    rw [e0.frf c z] at g; cases g
  have ob : ∀ c ∈ cs, ∃ o, s.heap.get? c = some o := fun c h => by
    obtain ⟨v, g⟩ := get c h
    obtain ⟨_, ⟨o, ho⟩, _⟩ := e0.hok _ _ g
    exact ⟨o, ho⟩
  have less : ∀ c ∈ cs, (fun b => if b ∈ cs then none else H b) c = none := fun c h => if_pos h
  have cel : ∀ (h' : Heap), (∀ c ∈ cs, ∀ o, s.heap.get? c = some o → h'.get? c = some o) → ∀ (i : Nat) c v, cs[i]? = some c → vs[i]? = some v → CelG c [v] h' := fun h' st i c v e1 e2 => by
    obtain ⟨z, _, loc⟩ := e0.hok _ _ (hc i c v e1 e2)
    exact loc _ _ z fun o ho => st c (List.mem_of_getElem? e1) o ho
  cases r with
  | ok fl =>
    cases fl with
    | ret u =>
      obtain ⟨v, H', os, bare, un, hok, rv, q⟩ := h
      have hn : ∀ c ∈ cs, H' c = none := fun c h => let ⟨o, ho⟩ := ob c h; un.free c o ho (less c h) List.not_mem_nil
      exact ⟨v, addH cs vs H', os, bare, un_addC un hcs hn, HOk.addC hok hd hn (cel _ fun c h o ho => un.keep c o ho (less c h) (nf c h) List.not_mem_nil), rv, hq v H' hn q⟩
    | next => exact h.elim
    | brk => exact h.elim
    | cont => exact h.elim
  | error e =>
    obtain ⟨a, B, H', cls, d, rfl, fl, hok, ub, na, os, ag, hE⟩ := h
    have hn : ∀ c ∈ cs, H' c = none := fun c h => let ⟨o, ho⟩ := ob c h; ub.free c o ho (less c h)
    have kb : ∀ c ∈ cs, ∀ o, s.heap.get? c = some o → B.get? c = some o := fun c h o ho => ub.keep c o ho (less c h) (nf c h)
    have ha : a ∉ cs := fun z => by
      obtain ⟨o, ho⟩ := ob a z
      have := kb a z o ho
      rw [fl.2.1] at this
      cases this
    exact ⟨a, B, addH cs vs H', cls, d, rfl, fl, HOk.addC hok hd hn (cel _ kb), ub_addC ub hcs hn, by rw [addH_ne ha]; exact na, os, ag, hx cls d H' hn hE⟩
end
structure CloOk (P : Program) (w : World) (K : PySem.W.Frag) (mg : Str → Option Value) (base : Heap) (k : Nat) (T : CT) (n : Nat) (sp : List V → Sp) : Prop where
  len : ∀ ws vs H Q E, sp ws vs H Q E → vs.length = n
  run : ∀ (A : Around) (outer : List PySem.Env) (s : Shared) (H : Hp) (us : List Value) (vs ws : List V) (Q : VK) (E : XK) (f : Addr) (cl : List (Str × Addr)) (c : Addr), Room k A → Env0 P w K mg base A outer s H → H f = some (.ext (FnG T cl c f)) → H c = some (LamX.CodeO c T.qual) →
    NdefX.CellsAt cl T.fr (ws.map some) s.heap H → Vals vs us → sp ws vs H Q E → codeAny (model P w) A (.call (.ref f) ⟨us, []⟩) (CR (L2.CX P w) outer P w H s Q E) s
theorem CloOk.mono {P : Program} {w : World} {K : PySem.W.Frag} {mg : Str → Option Value} {base : Heap} {j k : Nat} {T : CT} {n : Nat} {sp : List V → Sp} (F : CloOk P w K mg base j T n sp) (h : j ≤ k) : CloOk P w K mg base k T n sp :=
  ⟨F.len, fun A outer s H us vs ws Q E f cl c hr => F.run A outer s H us vs ws Q E f cl c (hr.mono h)⟩
abbrev CT.nf (T : CT) (body : List Stmt) (cl : List (Str × Addr)) (c : Addr) : NdefX.NF := ⟨T.name, T.qual, T.params, body, T.scope, cl, c⟩
abbrev cloCx (P : Program) (w : World) (K : PySem.W.Frag) (mg : Str → Option Value) (base : Heap) (N : List Str) (T : CT) (body : List Stmt) (cl : List (Str × Addr)) (c f : Addr) (A : Around) (outer : List PySem.Env) (s : Shared) (H : Hp) (E : XK) : Cx :=
  NdefX.ncx (L2.CX P w) P w K mg base N (T.nf body cl c) f A outer s H E
section
variable {P : Program} {w : World} {K : PySem.W.Frag} {mg : Str → Option Value} {base : Heap} {N ps : List Str} {T : CT} {k : Nat} {sp : List V → Sp}
theorem clo_E {e : Expr} (hT : T.body = .expr e) (S : NdefX.NScope N ps T.fr T.scope) (hb : ∀ (cl : List (Str × Addr)) (c : Addr) (doc pm ctv : Value) (us : List Value), us.length = ps.length → bindArgs (T.fd cl c doc pm ctv) ⟨us, []⟩ = pure (ps.zip us)) (len : ∀ ws vs H Q E, sp ws vs H Q E → vs.length = ps.length)
    (hbody : ∀ (A : Around) (outer : List PySem.Env) (s : Shared) (H : Hp) (vs ws : List V) (Q : VK) (E : XK) (f : Addr) (cl : List (Str × Addr)) (c : Addr), Room k (A.deeper (NdefX.envF (T.nf [] cl c) f s.heap.objs.size)) → ws.length = T.fr.length → sp ws vs H Q E →
      ∃ t, PE (cloCx P w K mg base N T [] cl c f A outer s H E) e t ∧ t (NdefX.startF N vs (ws.map some)) H Q) : CloOk P w K mg base (k + 1) T ps.length sp := by
  obtain ⟨name, qual, params, bd, scope, fr⟩ := T
  have hT : bd = .expr e := hT
  subst hT
  refine ⟨len, fun A outer s H us vs ws Q E f cl c hr e0 hf hc C r hsp => ?_⟩
  have hl := len _ _ _ _ _ hsp
  have lim : s.heap.NoLimit := e0.mod.nolimit.keeps fun b o e => (e0.bs b o e).1
  obtain ⟨⟨od, sl, doc, pm, ctv, ho⟩, _⟩ := e0.hok _ _ hf
  obtain ⟨⟨oc, xs, t, atc, isFs, named⟩, _⟩ := e0.hok _ _ hc
  refine PySem.W.kla_callFunE hr.depth ho rfl S.co S.gen rfl ⟨c, oc, xs, t, rfl, atc, isFs, named⟩ ?_
  show wpAny _ _ (bindArgs (CT.fd ⟨name, qual, params, .expr e, scope, fr⟩ cl c doc pm ctv) ⟨us, []⟩) _ _ _
  rw [hb cl c doc pm ctv us (by rw [← r.length]; exact hl)]
  refine wpAny_pure (wpAny_newFunctionEnv S.nocell (fun ⟨n, _⟩ hy => S.par n (List.of_mem_zip hy).1) (fun h₁ hns hsb => ⟨lim.fresh _ hsb, ?_⟩) S.kind)
  have kp : ∀ b o, s.heap.get? b = some o → h₁.get? b = some o := fun b o e => hsb.extBut b o (Nat.ne_of_lt (Heap.lt_size e)) (Heap.get?_push_of_some _ e)
  obtain ⟨t, pe, hq⟩ := hbody A outer s H vs ws Q E f cl c (hr.deeper _) (by have := C.len; rw [List.length_map] at this; exact this) hsp
  have I : Inv (cloCx P w K mg base N ⟨name, qual, params, .expr e, scope, fr⟩ [] cl c f A outer s H E) [] (NdefX.startF N vs (ws.map some)) H { s with heap := h₁, toks := s.toks + (ps.zip us).length } := NdefX.inv_startN S hr.hd e0 hl r C hns kp
  refine PySem.W.kla_codeExpr (wpAny_mono (pe.run [] _ _ H Q I hq) (fun u s' hq => ?_) fun _ _ hq => hq)
  obtain ⟨v, H', J, rv, q⟩ := hq
  exact ⟨v, H', J.os, J.bare, J.base, J.hok, rv, q⟩
end
end BB
set_option maxHeartbeats 4000000
namespace BB
open L2 PySem PySem.Spec PyProof.Rows
abbrev SpC := List D → SpD
def liftC (K : PySem.W.Frag) (sp : SpC) : List V → Sp := fun ws vs H Q E => ∃ F I M cds ds Qd Ed, At K F I M H ∧ Rps K I ws cds ∧ Rps K I vs ds ∧ sp cds ds M Qd Ed ∧
  (∀ d M' I' H' v, Ext I I' → At K F I' M' H' → Rp K I' v d → Qd d M' → Q v H') ∧ ∀ c fs M' I' H' dd, Ext I I' → At K F I' M' H' → ExcR K I' fs dd → Ed c fs M' → E c dd H'
theorem startF_eq {N : List Str} {vs ws : List V} : NdefX.startF N vs (ws.map some) = L2.start N (vs ++ ws) := by
  unfold NdefX.startF L2.start
  rw [List.map_append, List.append_assoc, List.length_map, List.length_append, Nat.sub_sub]
def CxOfC (P : Program) (w : World) (K : PySem.W.Frag) (mg : Str → Option Value) (base : Heap) (N : List Str) (T : CT) (body : List Stmt) (k : Nat) (X : Cx) : Prop :=
  ∃ cl c f A outer s H Ev, X = cloCx P w K mg base N T body cl c f A outer s H Ev ∧ Room k (A.deeper (NdefX.envF (T.nf body cl c) f s.heap.objs.size))
section
variable {P : Program} {w : World} {K : PySem.W.Frag} {mg : Str → Option Value} {base : Heap} {N ps : List Str} {T : CT} {k : Nat} {sp : SpC}
theorem clo_mkE {e : Expr} (hT : T.body = .expr e) (S : NdefX.NScope N ps T.fr T.scope) (hb : ∀ (cl : List (Str × Addr)) (c : Addr) (doc pm ctv : Value) (us : List Value), us.length = ps.length → bindArgs (T.fd cl c doc pm ctv) ⟨us, []⟩ = pure (ps.zip us)) (len : ∀ cds ds M Q E, sp cds ds M Q E → ds.length = ps.length)
    (hbody : ∀ (X : Cx) (Δ : DC) (M : Mem) (cds ds : List D) (Q : DKt) (E : DX), CxOfC P w K mg base N T [] k X → XOk X Δ → (Δ.Wd = fun c fs _ M' => FzV (fun _ M'' => E c fs M'') .non M') → cds.length = T.fr.length → sp cds ds M Q E →
      ∃ t d, PDe X Δ e t d ∧ d (startD N (ds ++ cds)) M fun v M' => FzV Q v M') : CloOk P w K mg base (k + 1) T ps.length (liftC K sp) := by
  refine clo_E hT S hb (fun ws vs H Q E ⟨_, _, _, _, _, _, _, _, _, r, h, _⟩ => r.length.trans (len _ _ _ _ _ h)) (fun A outer s H vs ws Q E f cl c hr hl ⟨F0, I, M, cds, ds, Qd, Ed, At0, rw0, r, h, hn, hx⟩ => ?_)
  obtain ⟨X, eX⟩ : ∃ X, X = cloCx P w K mg base N T [] cl c f A outer s H E := ⟨_, rfl⟩
  have XK : X.K = K := by rw [eX]; rfl
  have tk : Takes X (fun cls d _ H => E cls d H) := by
    subst eX
    exact takes_of rfl rfl rfl rfl
  obtain ⟨t, d, pd, q⟩ := hbody X { F := F0, I0 := I, W := fun cls d _ H => E cls d H, Wd := fun c fs _ M' => FzV (fun _ M'' => Ed c fs M'') .non M' } M cds ds Qd Ed ⟨cl, c, f, A, outer, s, H, E, eX, hr⟩ ⟨tk, fun {I1 M1 H1 σ1 env1 c fs dd} G er w => by
      rw [XK] at G er
      obtain ⟨I2, M2, d', x2, A3, r3, q3⟩ := fzv w G.at_ (v := .non) .non
      refine hx c fs M2 I2 H1 dd (G.base.trans x2) A3 ?_ q3
      cases dd with
      | none => exact er
      | some dd => obtain ⟨fvs, e1, e2⟩ := er; exact ⟨fvs, x2.xd e1, e2.ext x2⟩⟩ rfl (by rw [← rw0.length]; exact hl) h
  subst eX
  rw [startF_eq]
  refine ⟨t, pd.1, pd.2 I M H _ _ ⟨Ext.refl I, At0, envr_start (r.append rw0)⟩ Q (fun v M' => FzV Qd v M') (fun d' M' I' H' v x G r' q' => ?_) q⟩
  obtain ⟨I2, M2, d2, x2, A3, r3, q3⟩ := fzv q' G.at_ r'
  exact hn _ _ _ _ _ (x.trans x2) A3 r3 q3
end
section
variable {K : PySem.W.Frag} {F I H : Hp} {M : Mem}
theorem At.cells (A : At K F I M H) : ∀ {cs : List Addr} {cds : List D}, cs.length = cds.length → (∀ (i : Nat) c d, cs[i]? = some c → cds[i]? = some d → M c = some (celM d)) →
    ∃ ws, Rps K I ws cds ∧ cs.length = ws.length ∧ ∀ (i : Nat) c v, cs[i]? = some c → ws[i]? = some v → H c = some (.ext (CelG c [v]))
  | [], [], _, _ => ⟨[], .nil, rfl, fun i c v h _ => by cases h⟩
  | [], _ :: _, hl, _ => by cases hl
  | _ :: _, [], hl, _ => by cases hl
  | c :: cs, d :: cds, hl, h => by
    obtain ⟨ws, r, hw, hc⟩ := At.cells A (Nat.succ.inj hl) fun i c d h1 h2 => h (i + 1) c d h1 h2
    obtain ⟨_, vs, h1, r1, _⟩ := A.mem _ _ (h 0 c d rfl rfl)
    obtain ⟨v, rfl, rv⟩ := r1.one_inv
    refine ⟨v :: ws, .cons rv r, congrArg (· + 1) hw, fun i c' v' e1 e2 => ?_⟩
    cases i with
    | zero =>
      cases e1; cases e2
      exact h1
    | succ i => exact hc i c' v' e1 e2
end
theorem cloM_ne {T : CT} {cl : List (Str × Addr)} {c : Addr} {d : D} : cloM T cl c ≠ celM d := fun h => by
  unfold cloM celM at h
  injection h with _ h _
  cases h
def dCallV (i : Nat) (Cs : List (CT × SpC)) (dl : DA) (Wd : DW) : DE := fun env M Q => ∃ (f : Addr) (p : CT × SpC) (cl : List (Str × Addr)) (c : Addr), p ∈ Cs ∧ env[i]? = some (some (.ref f)) ∧ M f = some (cloM p.1 cl c) ∧ dl env M fun us M1 => M1 f = some (cloM p.1 cl c) ∧
  ∃ (cs : List Addr) (cds : List D) (M0 : Mem), CloWf p.1.fr cl cs ∧ cs.length = cds.length ∧ M1 = addM cs cds M0 ∧ (∀ x ∈ cs, M0 x = none) ∧ p.2 cds us M0 (fun d M' => Q d (addM cs cds M')) fun e fs M' => Wd e fs env (addM cs cds M')
section
variable {X : Cx} {Δ : DC} {i k n : Nat} {x : Str} {Cs : List (CT × SpC)} {e : Expr} {es : List Expr} {t : TA} {dl : DA} {p pos : Pos}
theorem pd_callV (hC : ∀ q ∈ Cs, CloOk X.prog X.w X.K X.mg X.base k q.1 n (liftC X.K q.2)) (hr : Room k X.A) (hN : X.N[i]? = some x) (vis : Vis X.env.scope x) (xo : XOk X Δ) (ha : PDa X Δ (e :: es) t dl)
    (hd : (x == ("__debug__" : Str)) = false := by decide) (hcd : (x == ("__classdict__" : Str)) = false := by decide)
    (he : starEach (e :: es) X.env = (false, eval e X.env) :: starEach es X.env := by rfl) (hpl : (backTo pos (starEach es X.env)).any (·.1) = false := by rfl) :
    PDe X Δ (.Call (.Name x p) (e :: es) [] pos) (fun σ H Q => ∃ J M env Qd, Gd X.K Δ J M H σ env ∧ dCallV i Cs dl Δ.Wd env M Qd ∧ ∀ d M' J' G' v, Ext J J' → Gd X.K Δ J' M' G' σ env → Rp X.K J' v d → Qd d M' → Q v G') (dCallV i Cs dl Δ.Wd) := by
  refine ⟨⟨fun pins s σ H Q I ⟨J, M, env, Qd, G, ⟨f, q, cl, c, hq, hf, hM, ht⟩, back⟩ => ?_⟩, fun J M G σ env Gg Q Qd k q => ⟨J, M, env, Qd, Gg, q, k⟩⟩
  obtain ⟨vf, hs, rf⟩ := G.env.get i _ hf
  cases rf.ref_inv
  refine wpAny_Call_Name_kw (thn ((pe_var (pos := p) hN vis hd hcd).run pins s σ H (fun v H1 => v = .ref f ∧ H1 = H) I ⟨.ref f, hs, rfl, rfl⟩) fun u s1 ⟨v, H1, I1, r1, q1⟩ => ?_)
  obtain ⟨ev, eH⟩ := q1
  subst ev
  rw [eH] at I1
  obtain rfl : u = Value.ref f := r1
  have fnAt : ∀ {J M H s} {pins : List (Addr × Obj)}, Gd X.K Δ J M H σ env → M f = some (cloM q.1 cl c) → Inv X pins σ H s → PySem.W.FnAt f s.heap := fun {J M H s pins} G hM I => by
    obtain ⟨_, _, h1, _, _⟩ := G.at_.mem _ _ hM
    obtain ⟨⟨od, sl, doc, pm, ctv, ho⟩, _⟩ := I.hok _ _ h1
    exact ⟨_, od, _, sl, ho⟩
  refine PySem.W.callWith_F (first := []) (fnAt G hM I1) (thn (ha.1.run pos pins s1 σ H (fun vs H2 => ∃ J2 M2 dds, Ext J J2 ∧ Gd X.K Δ J2 M2 H2 σ env ∧ Rps X.K J2 vs dds ∧ M2 f = some (cloM q.1 cl c) ∧
    ∃ (cs : List Addr) (cds : List D) (M0 : Mem), CloWf q.1.fr cl cs ∧ cs.length = cds.length ∧ M2 = addM cs cds M0 ∧ (∀ x ∈ cs, M0 x = none) ∧ q.2 cds dds M0 (fun d M' => Qd d (addM cs cds M')) fun e fs M' => Δ.Wd e fs env (addM cs cds M')) I1
    (ha.2 J M H σ env G _ _ (fun dds M' I' H' vs x G' r h => ⟨I', M', dds, x, G', r, h.1, h.2⟩) ht)) fun us s2 ⟨vs, H2, I2, r, J2, M2, dds, x2, G2, r2, hM2, cs, cds, M0, wf, hlen, eM, hM0, hsp⟩ => ⟨fnAt G2 hM2 I2, ?_⟩) he hpl
  show wpAny _ _ (call (.ref f) us) _ _ _
  obtain ⟨ws, rws, hlw, hcel⟩ := At.cells G2.at_ hlen fun i c d h1 h2 => by rw [eM]; exact addM_at wf.nd h1 h2
  have hcd : ∀ y ∈ cs, ∃ d, M2 y = some (celM d) := fun y hy => by
    obtain ⟨j, hj⟩ := List.getElem?_of_mem hy
    obtain ⟨d, hd⟩ : ∃ d, cds[j]? = some d := ⟨_, List.getElem?_eq_getElem (by rw [← hlen]; exact (List.getElem?_eq_some_iff.mp hj).1)⟩
    exact ⟨d, by rw [eM]; exact addM_at wf.nd hj hd⟩
  have hcs : ∀ y ∈ cs, ∃ φ, H2 y = some (.ext φ) := fun y hy => by
    obtain ⟨d, h⟩ := hcd y hy
    obtain ⟨_, _, h1, _⟩ := G2.at_.mem _ _ h
    exact ⟨_, h1⟩
  have A0 := At.delC G2.at_ hcd
  have e0 : (fun b => if b ∈ cs then none else M2 b) = M0 := by
    funext b
    by_cases hb : b ∈ cs
    · rw [if_pos hb, hM0 b hb]
    · rw [if_neg hb, eM, addM_ne hb]
  rw [e0] at A0
  obtain ⟨_, vs0, hfH, _, hfix⟩ := G2.at_.mem _ _ hM2
  have hcJ : J2 c = some (LamX.CodeO c q.1.qual) := hfix _ (List.mem_singleton.mpr rfl)
  have hfc : f ∉ cs := fun z => by
    obtain ⟨d, h⟩ := hcd f z
    rw [hM2] at h
    exact cloM_ne (Option.some.inj h)
  have hcc : c ∉ cs := fun z => by
    obtain ⟨d, h⟩ := hcd c z
    rw [(G2.at_.mem _ _ h).1] at hcJ
    cases hcJ
  have hH0c : (fun b => if b ∈ cs then none else H2 b) c = some (LamX.CodeO c q.1.qual) := by
    show (if c ∈ cs then none else H2 c) = _
    rw [if_neg hcc]; exact G2.at_.ex _ _ hcJ
  have hH0f : (fun b => if b ∈ cs then none else H2 b) f = some (.ext (FnG q.1 cl c f)) := by
    show (if f ∈ cs then none else H2 f) = _
    rw [if_neg hfc]; exact hfH
  have hNn : ∀ {H' : Hp} {y : Addr}, H' y = none → H' y = none := fun h => h
  refine wpAny_call (codeAny_mono (R := CR (L2.CX X.prog X.w) X.stack X.prog X.w H2 s2 Q (WE Δ.W σ)) (codeAny_mono ((hC q hq).run X.A X.stack s2 (fun b => if b ∈ cs then none else H2 b) us vs ws
    (fun v H' => ∃ J' M' d, Ext J2 J' ∧ At X.K Δ.F J' M' H' ∧ Rp X.K J' v d ∧ Qd d (addM cs cds M')) (fun cls dd H' => ∃ J' M' fs, Ext J2 J' ∧ At X.K Δ.F J' M' H' ∧ ExcR X.K J' fs dd ∧ Δ.Wd cls fs env (addM cs cds M'))
    f cl c hr (Env0.less I2.env0 hcs) hH0f hH0c (cells_at I2.hok wf hlw hcel) r ⟨Δ.F, J2, M0, cds, dds, _, _, A0, rws, r2, hsp, fun d M' J' H' v x A rv qd => ⟨J', M', d, x, A, rv, qd⟩, fun e fs M' J' H' dd x A er w => ⟨J', M', fs, x, A, er, w⟩⟩)
    fun r s' h => cr_addC I2.env0 wf.nd hlw hcel (fun v H' hn ⟨J', M', d, x, A, rv, qd⟩ => ?_) (fun cls dd H' hn ⟨J', M', fs, x, A, er, w⟩ => ?_) h) (at_end (passAt xo.takes σ) I2 fun _ _ z => z))
  · exact back d _ J' _ v (x2.trans x) (G2.go x (A.addC wf.nd hn (rws.ext x) hlen)) rv qd
  · exact xo.link (G2.go x (A.addC wf.nd hn (rws.ext x) hlen)) er w
end
end BB
set_option maxHeartbeats 4000000
namespace BB
open L2 PySem PySem.Spec PyProof.Rows
theorem cellsFrom_lo : ∀ {names : List (Str × NameKind)} {n lo : Nat} {acc : List (Str × Addr)} {x : Str} {c : Addr}, lo ≤ n → (∀ y c, acc.lookup y = some c → lo ≤ c) → (cellsFrom n names acc).lookup x = some c → lo ≤ c
  | [], _, _, _, _, _, _, ha, h => ha _ _ h
  | (name, kind) :: r, n, lo, acc, x, c, hn, ha, h => by
    unfold cellsFrom at h
    split at h
    · refine cellsFrom_lo (Nat.le_succ_of_le hn) (fun y c hy => ?_) h
      by_cases e : (y == name) = true
      · simp only [List.lookup, e, Option.some.injEq] at hy
        rw [← hy]; exact hn
      · have e : (y == name) = false := by simpa using e
        simp only [List.lookup, e] at hy
        exact ha y c hy
    · exact cellsFrom_lo hn ha h
section
variable {X : Cx} {pins : List (Addr × Obj)} {σ : L2.St} {H : Hp} {s : Shared} {c P : Addr} {ps : Array Value}
theorem inv_fnG {T : CT} {cl : List (Str × Addr)} {c : Addr} {o : Obj} {t' : Nat} {doc pm ctv : Value} (I : Inv X pins σ H s) (ho : o = { cls := .type "function", data := .func (T.fd cl c doc pm ctv) }) :
    Inv X pins σ (upd H s.heap.objs.size (.ext (FnG T cl c s.heap.objs.size))) { s with heap := s.heap.push o, toks := t' } := by
  subst ho
  refine I.laid (a := s.heap.objs.size) (fun b u e => Heap.get?_push_of_some _ e) (Nat.le_refl _) ?_
  have e : (s.heap.push ({ cls := .type "function", data := .func (T.fd cl c doc pm ctv) } : Obj)).get? s.heap.objs.size = some ({ cls := .type "function", data := .func (T.fd cl c doc pm ctv) } : Obj) := Heap.get?_push_size _ rfl
  exact ⟨⟨_, _, doc, pm, ctv, e⟩, ⟨_, e⟩, fun h1 h2 ⟨od, sl, d, p, t, z⟩ st => ⟨od, sl, d, p, t, st _ z⟩⟩
theorem lam_atC {params : Arguments} {body : Expr} {scope : Scope} {fr : List Str} {pos : Pos} {E : Value → Shared → Prop} {Q : Value → Shared → Prop} (I : Inv X pins σ H s) (TB : LamX.TabB X.base X.mg c P) (code : X.env.code = .ref c) (tab : H P = some (.tbl ps)) (tri : TriplesOk ps.toList)
    (known : ∀ pos cv, codeAmong pos ps.toList = some cv → ∃ c, cv = .ref c) (nodef : defaultsOf params X.env = ([], [])) (has : ∀ y ∈ scope.names, y.2 = .free → ∃ c, X.env.cells.lookup y.1 = some c)
    (go : ∀ f c' H1 s1, Inv X pins σ (upd H1 f (.ext (FnG ⟨"<lambda>", X.env.qual ++ "<lambda>", params, .expr body, scope, fr⟩ (cloFrom X.env.cells scope.names []) c' f))) s1 → H1 f = none → Made H H1 P c' (X.env.qual ++ "<lambda>") ps → Q (.ref f) s1) :
    wpAny (model X.prog X.w) X.A (eval (.Lambda params body scope pos) X.env) Q E s := by
  have there : s.heap.get? P = some { cls := .none, data := .fields ps } := I.hok _ _ tab
  refine PySem.W.kla_eval nodef ?_
  rcases hit : codeAmong pos ps.toList with _ | cv
  · refine PySem.W.kla_makeFunction (mg := X.mg) (c := c) (P := P) (ps := ps) (closure_ok has) I.ok.glob (I.mod.glob.keeps I.bk) code (TB.code.keeps I.bk) there tri hit TB.gP (TB.bm.keeps I.bk) ?_
    rintro c' ctv g tk keep big less ⟨_, oc, vs, t, ⟨⟩, atc, isF, named⟩ tabled
    have noC : H c' = none := I.hok.fresh big
    have J := LamX.inv_table (t' := tk) (h' := g) (more := #[rawInt pos.line, rawInt pos.col, .ref c']) I tab (fun b o ne e => keep b o ne e) tabled big ⟨oc, vs, t, atc, isF, named⟩
    have eqL : (ps ++ #[rawInt pos.line, rawInt pos.col, .ref c']).toList = ps.toList ++ [rawInt pos.line, rawInt pos.col, .ref c'] := by simp
    have nF := J.hok.fresh (Nat.le_refl _)
    have I2 := inv_fnG (T := ⟨"<lambda>", X.env.qual ++ "<lambda>", params, .expr body, scope, fr⟩) (cl := cloFrom X.env.cells scope.names []) (c := c') (t' := tk) (doc := .none) (pm := (X.mg "__name__").getD .none) (ctv := ctv) J rfl
    refine go g.objs.size c' _ _ I2 nF (.inr ⟨noC, _, rfl, by rw [eqL]; exact PySem.TriplesOk_snoc _ _ _ _ tri, fun p' cv hc => ?_⟩)
    rw [eqL] at hc
    exact LamX.among_app _ tri hc
  · obtain ⟨c', rfl⟩ := known _ _ hit
    refine PySem.W.kla_makeFunctionHit (mg := X.mg) (c := c) (P := P) (ps := ps) (closure_ok has) I.ok.glob (I.mod.glob.keeps I.bk) code (TB.code.keeps I.bk) there tri hit (TB.bm.keeps I.bk) ?_
    intro ctv g tk keep size
    have J : Inv X pins σ H { s with heap := g, toks := tk } := I.kept keep
    have nF := J.hok.fresh (Nat.le_refl _)
    have I2 := inv_fnG (T := ⟨"<lambda>", X.env.qual ++ "<lambda>", params, .expr body, scope, fr⟩) (cl := cloFrom X.env.cells scope.names []) (c := c') (t' := tk) (doc := .none) (pm := (X.mg "__name__").getD .none) (ctv := ctv) J rfl
    exact go g.objs.size c' H _ I2 nF (.inl ⟨rfl, _, hit⟩)
theorem At.madeC {K : PySem.W.Frag} {F I H H1 : Hp} {M : Mem} {P c' f : Addr} {T : CT} {cl : List (Str × Addr)} {ps : Array Value} (A : At K F I M H) (hP : M P = some (.tab T.qual)) (hH : H P = some (.tbl ps)) (known : ∀ pos cv, codeAmong pos ps.toList = some cv → ∃ c, cv = .ref c ∧ I c = some (LamX.CodeO c T.qual))
    (m : Made H H1 P c' T.qual ps) (hf : H1 f = none) : ∃ J, Ext I J ∧ At K F J (mset M f (cloM T cl c')) (upd H1 f (.ext (FnG T cl c' f))) ∧ M f = none := by
  obtain ⟨J, x, A1, isC⟩ := A.made hP hH known m
  exact ⟨J, x, A1.newM hf _ _ ⟨[], upd_same, .nil, fun p hp => by rw [List.mem_singleton.mp hp]; exact isC⟩, A1.freeM hf⟩
theorem cloWf_of {scope : Scope} {fr : List Str} (ok : X.Ok) (hfree : ∀ y ∈ scope.names, y.2 = .free → X.env.scope.names.lookup y.1 = some .cell ∨ X.env.scope.names.lookup y.1 = some .free) (hfr : ∀ y ∈ fr, (y, NameKind.free) ∈ scope.names) (hall : ∀ y ∈ scope.names, y.2 = .free → y.1 ∈ fr) (nd : fr.Nodup) :
    CloWf fr (cloFrom X.env.cells scope.names []) (fr.map fun y => ((cloFrom X.env.cells scope.names []).lookup y).getD 0) := by
  have hf : ∀ y ∈ scope.names, y.2 = .free → ∃ c, X.env.cells.lookup y.1 = some c := fun y hy e => (hfree y hy e).elim (fun z => ok.has _ (.inl z)) fun z => ok.has _ (.inr z)
  have look : ∀ y ∈ fr, ∃ c, (cloFrom X.env.cells scope.names []).lookup y = some c := fun y hy => by
    obtain ⟨c, hc⟩ := hf (y, .free) (hfr y hy) rfl
    exact ⟨c, NdefX.clo_has hf (hfr y hy) hc⟩
  have inj : ∀ x y c, (cloFrom X.env.cells scope.names []).lookup x = some c → (cloFrom X.env.cells scope.names []).lookup y = some c → x = y := fun x y c h1 h2 => ok.inj x y c (NdefX.clo_cm hf h1) (NdefX.clo_cm hf h2)
  refine ⟨List.length_map _, List.pairwise_map.mpr (List.Pairwise.imp_of_mem (fun {a b} ha hb hab e => ?_) nd), fun i y e => ?_, fun y a e => ?_, inj⟩
  · obtain ⟨c1, h1⟩ := look a ha
    obtain ⟨c2, h2⟩ := look b hb
    rw [h1, h2] at e
    have e : c1 = c2 := e
    exact hab (inj a b c1 h1 (e ▸ h2))
  · rw [List.getElem?_map, e]
    obtain ⟨c, h⟩ := look y (List.mem_of_getElem? e)
    rw [h]
    show some c = some ((List.lookup y (cloFrom X.env.cells scope.names [])).getD 0)
    rw [h]; rfl
  · rcases cloFrom_mem (PySem.mem_of_lookup e) with z | ⟨z, _⟩
    · cases z
    · obtain ⟨i, hi⟩ := List.getElem?_of_mem (hall _ z rfl)
      refine ⟨i, hi, ?_⟩
      rw [List.getElem?_map, hi]
      show some (((cloFrom X.env.cells scope.names []).lookup y).getD 0) = _
      rw [e]; rfl
theorem fin_clo {outer : List PySem.Env} {cl : List (Str × Addr)} {fr : List Str} {cs : List Addr} {ws : List V} {js : List Nat} {f : Addr} {Q : VK} (I : Inv X pins σ H s) (fs0 : X.fs = frs outer) (ex0 : X.ex = []) (lo : ∀ y c, X.env.cells.lookup y = some c → X.s_0.heap.objs.size ≤ c) (cp : NdefX.Caps X cl fr js)
    (wf : CloWf fr cl cs) (hl : cs.length = ws.length) (hw : ∀ (i : Nat) v, ws[i]? = some v → ∃ j, js[i]? = some j ∧ σ[j]? = some (some v)) (q : (∀ c ∈ cs, H c = none) → Q (.ref f) (addH cs ws H)) : CE outer X.prog X.w X.H_0 X.s_0 Q (.ref f) s := by
  have C := NdefX.cells_of I cp
  have at_ : ∀ c ∈ cs, ∃ (i : Nat) (y : Str), cs[i]? = some c ∧ fr[i]? = some y ∧ cl.lookup y = some c := fun c hc => by
    obtain ⟨i, hi⟩ := List.getElem?_of_mem hc
    obtain ⟨y, hy⟩ : ∃ y, fr[i]? = some y := ⟨_, List.getElem?_eq_getElem (by rw [← wf.len]; exact (List.getElem?_eq_some_iff.mp hi).1)⟩
    exact ⟨i, y, hi, hy, (wf.has i y hy).trans hi⟩
  have hn : ∀ c ∈ cs, H c = none := fun c hc => let ⟨i, y, _, _, h⟩ := at_ c hc; (C.all y c h).1
  have new : ∀ c ∈ cs, ∀ o, X.s_0.heap.get? c ≠ some o := fun c hc o h => by
    obtain ⟨i, y, _, _, h2⟩ := at_ c hc
    exact absurd (Nat.lt_of_lt_of_le (Heap.lt_size h) (lo y c (cp.sub y c h2))) (Nat.lt_irrefl _)
  have base := I.base
  rw [fs0, ex0] at base
  refine ⟨.ref f, addH cs ws H, I.os, I.bare, ⟨base.keep, base.slot, fun b o g e hx => ?_, base.there, fun b xs e => addH_of hn (base.tups b xs e), fun b o u e => addH_of hn (base.frzs b o u e), fun b ps e => ?_⟩, HOk.addC I.hok wf.nd hn (fun i c v e1 e2 => ?_), rfl, q hn⟩
  · rw [addH_ne fun z => new b z o g]
    exact base.free b o g e hx
  · obtain ⟨more, h⟩ := base.tbls b ps e
    exact ⟨more, addH_of hn h⟩
  · obtain ⟨y, hy⟩ : ∃ y, fr[i]? = some y := ⟨_, List.getElem?_eq_getElem (by rw [← wf.len]; exact (List.getElem?_eq_some_iff.mp e1).1)⟩
    obtain ⟨c', h1, hv⟩ := C.has i y hy
    have : c' = c := by
      have := (wf.has i y hy).trans e1
      rw [h1] at this
      exact Option.some.inj this
    subst this
    obtain ⟨j, hj, hσ⟩ := hw i v e2
    obtain ⟨u, r, z⟩ := hv v (by rw [List.getElem?_map, hj]; show some (NdefX.slotAt σ j) = _; rw [NdefX.slotAt_of hσ])
    exact ⟨v, u, rfl, r, z⟩
end
end BB
set_option maxHeartbeats 4000000
namespace BB
open L2 PySem PySem.Spec PyProof.Rows
def dMkC (js : List Nat) (T : CT) (P : Addr) (Q : DKt) : Env → Mem → Prop := fun env M => M P = some (.tab T.qual) ∧ ∃ cds : List D, cds.length = js.length ∧ (∀ (i j : Nat), js[i]? = some j → ∃ d, env[j]? = some (some d) ∧ cds[i]? = some d) ∧
  ∀ (f : Addr) (cl : List (Str × Addr)) (c : Addr) (cs : List Addr), M f = none → CloWf T.fr cl cs → f ∉ cs → (∀ x ∈ cs, M x = none) → cs.length = cds.length → Q (.ref f) (addM cs cds (mset M f (cloM T cl c)))
def endC {base : Heap} (outer : List PySem.Env) (P : Program) (w : World) (H : Hp) (s : Shared) (Q : VK) : Flow → Shared → Prop
  | .ret u, s' => CE outer P w H s Q u s'
  | _, _ => False
theorem fn_rawC {P : Program} {w : World} {K : PySem.W.Frag} {mg : Str → Option Value} {base : Heap} {k : Nat} {f : Addr} {name qual : Str} {params : Arguments} {body : List Stmt} {scope : Scope} {dV kV doc pm cdv ct oc : Value} {an od : Option Addr}
    {osl : Array (Option Value)} {N ps : List Str} {sp : Sp} (lk : K.lookup f = some ⟨oc, od, .func (PySem.W.fnOf name qual params body scope dV kV doc pm an cdv ct), osl⟩) (hcd : PySem.W.codeIn K cdv qual = true) (S : FnScope N ps scope)
    (len : ∀ vs H Q E, sp vs H Q E → vs.length = ps.length)
    (inner : ∀ (A : Around) (outer : List PySem.Env) (s s1 : Shared) (H : Hp) (vs : List V) (Q : VK) (E : XK), Room k (A.deeper (envOfC qual scope s.heap.objs.size f cdv)) → sp vs H Q E → Inv (cxOf (L2.CX P w) P w K mg base N qual scope f cdv A outer s H E) [] (L2.start N vs) H s1 →
      wpAny (model P w) (A.deeper (envOfC qual scope s.heap.objs.size f cdv)) (execs body (envOfC qual scope s.heap.objs.size f cdv)) (endC (base := base) outer P w H s Q) (cxOf (L2.CX P w) P w K mg base N qual scope f cdv A outer s H E).xe s1) :
    FnOk P w K mg base (L2.CX P w) (k + 1) f (PySem.W.fnOf name qual params body scope dV kV doc pm an cdv ct) ps sp := by
  refine ⟨len, fun A outer s H args us vs Q E hr e0 hb r hsp => ?_⟩
  have hl := len _ _ _ _ hsp
  have KX : K.In s.heap := e0.mod.kin.keeps fun b o e => (e0.bs b o e).1
  have lim : s.heap.NoLimit := e0.mod.nolimit.keeps fun b o e => (e0.bs b o e).1
  have hkind : ∀ y ∈ ps.zip us, scope.names.lookup y.1 = some .local ∨ (scope.names.lookup y.1 = some .cell ∧ ((cellsFrom (s.heap.objs.size + 1) scope.names []).lookup y.1).isSome = true) := fun ⟨n, v⟩ hy => by
    rcases S.par n (List.of_mem_zip hy).1 with q | q
    · exact .inl q
    · exact .inr ⟨q, PySem.W.cellsFrom_some _ _ _ (.inl q)⟩
  refine codeAny_call_function hr.depth (KX _ _ lk) rfl S.co S.gen rfl (PySem.W.codeRec_of KX hcd) (hb _ _ _ _ ?_)
  refine wpAny_newFunctionEnv_cells S.kind hkind fun env he s1 x => ?_
  subst he
  refine ⟨lim.keeps x.toInCall.keep, codeAny_func ?_⟩
  have I : Inv (cxOf (L2.CX P w) P w K mg base N qual scope f cdv A outer s H E) [] (L2.start N vs) H s1 := inv_start S hr.hd e0 hl r x
  refine wpAny_mono (inner A outer s s1 H vs Q E (hr.deeper _) hsp I) (fun fl s' hs => ?_) fun e s' hs => hs
  cases fl with
  | ret u => exact hs
  | next => exact hs.elim
  | brk => exact hs.elim
  | cont => exact hs.elim
structure CapB (N : List Str) (osc sc : Scope) (fr : List Str) (js : List Nat) : Prop where
  free : ∀ y ∈ sc.names, y.2 = .free → osc.names.lookup y.1 = some .cell ∨ osc.names.lookup y.1 = some .free
  has : ∀ y ∈ fr, (y, NameKind.free) ∈ sc.names
  all : ∀ y ∈ sc.names, y.2 = .free → y.1 ∈ fr
  nd : fr.Nodup
  at_ : js.map (fun j => N[j]?) = fr.map some
def capB (N : List Str) (osc sc : Scope) (fr : List Str) (js : List Nat) : Bool :=
  (sc.names.all fun y => !decide (y.2 = .free) || (decide (osc.names.lookup y.1 = some .cell) || decide (osc.names.lookup y.1 = some .free))) && (fr.all fun y => decide ((y, NameKind.free) ∈ sc.names)) && (sc.names.all fun y => !decide (y.2 = .free) || decide (y.1 ∈ fr)) && decide fr.Nodup && decide (js.map (fun j => N[j]?) = fr.map some)
theorem capB_by {N : List Str} {osc sc : Scope} {fr : List Str} {js : List Nat} (h : capB N osc sc fr js = true) : CapB N osc sc fr js := by
  unfold capB at h
  simp only [Bool.and_eq_true, Bool.or_eq_true, Bool.not_eq_true', decide_eq_true_eq, decide_eq_false_iff_not, List.all_eq_true] at h
  obtain ⟨⟨⟨⟨h1, h2⟩, h3⟩, h4⟩, h5⟩ := h
  exact ⟨fun y hy e => (h1 y hy).elim (fun z => absurd e z) id, h2, fun y hy e => (h3 y hy).elim (fun z => absurd e z) id, h4, h5⟩
section
variable {P : Program} {w : World} {K : PySem.W.Frag} {mg : Str → Option Value} {base : Heap} {N : List Str} {qual : Str} {osc : Scope} {g : Addr} {n : Str} {A : Around} {outer : List PySem.Env} {s s1 : Shared} {H H1 : Hp} {E : XK} {σ : L2.St} {Q : VK} {Qd : DKt} {F I0 I : Hp} {M : Mem} {env : Env}
theorem vals_of {σ0 : L2.St} : ∀ (cds : List D) (js : List Nat), (∀ (i : Nat), i < cds.length → ∃ v d j, js[i]? = some j ∧ σ0[j]? = some (some v) ∧ cds[i]? = some d ∧ Rp K I v d) → ∃ ws : List V, Rps K I ws cds ∧ ∀ (i : Nat) v, ws[i]? = some v → ∃ j, js[i]? = some j ∧ σ0[j]? = some (some v)
  | [], _, _ => ⟨[], .nil, fun i v h => by cases h⟩
  | d :: cds, js, h => by
    obtain ⟨v, d', j, h1, h2, h3, h4⟩ := h 0 (Nat.succ_pos _)
    cases h3
    cases js with
    | nil => cases h1
    | cons j0 js =>
      cases h1
      obtain ⟨ws, r, hw⟩ := vals_of cds js fun i hi => by
        obtain ⟨v, d, j, g1, g2, g3, g4⟩ := h (i + 1) (Nat.succ_lt_succ hi)
        exact ⟨v, d, j, g1, g2, g3, g4⟩
      refine ⟨v :: ws, .cons h4 r, fun i v' e => ?_⟩
      cases i with
      | zero => cases e; exact ⟨_, rfl, h2⟩
      | succ i => exact hw i v' e
theorem fin_mk {T : CT} {fr : List Str} {js : List Nat} {c' f : Addr} {H2 : Hp} {ps : Array Value} (hfr : T.fr = fr) (B : CapB N osc T.scope fr js)
    (I2 : Inv (cxOf (L2.CX P w) P w K mg base N qual osc g (.ref (codF K n)) A outer s H E) [] σ (upd H2 f (.ext (FnG T (cloFrom (envOfC qual osc s.heap.objs.size g (.ref (codF K n))).cells T.scope.names []) c' f))) s1)
    (σ0 : L2.St) (hσ : ∀ (j : Nat) v, j ∈ js → σ0[j]? = some (some v) → σ[j]? = some (some v)) (At1 : At K F I M H1) (er : EnvR K I σ0 env) (hP : H1 (tabF K n) = some (.tbl ps)) (known : ∀ pos cv, codeAmong pos ps.toList = some cv → ∃ c, cv = .ref c ∧ I c = some (LamX.CodeO c T.qual)) (nf : H2 f = none) (m : Made H1 H2 (tabF K n) c' T.qual ps)
    (hd : dMkC js T (tabF K n) Qd env M) (hn : ∀ d M' I' H' v, Ext I I' → At K F I' M' H' → Rp K I' v d → Qd d M' → Q v H') : CE outer P w H s Q (.ref f) s1 := by
  subst hfr
  obtain ⟨hM, cds, hl, hcd, hQ⟩ := hd
  obtain ⟨J, x, A2, hMf⟩ := At.madeC (cl := cloFrom (envOfC qual osc s.heap.objs.size g (.ref (codF K n))).cells T.scope.names []) At1 hM hP known m nf
  have wf := cloWf_of I2.ok B.free B.has B.all B.nd
  have hjl : js.length = T.fr.length := by
    have := congrArg List.length B.at_
    rw [List.length_map, List.length_map] at this
    exact this
  have hv : ∀ (i : Nat), i < cds.length → ∃ v d j, js[i]? = some j ∧ σ0[j]? = some (some v) ∧ cds[i]? = some d ∧ Rp K I v d := fun i hi => by
    have hj : js[i]? = some (js[i]'(by rw [← hl]; exact hi)) := List.getElem?_eq_getElem _
    obtain ⟨d, h1, h2⟩ := hcd i _ hj
    obtain ⟨v, h3, h4⟩ := er.get _ _ h1
    exact ⟨v, d, _, hj, h3, h2, h4⟩
  obtain ⟨ws, rws, hww⟩ := vals_of cds js hv
  have hcl := wf.len
  refine fin_clo (X := cxOf (L2.CX P w) P w K mg base N qual osc g (.ref (codF K n)) A outer s H E) I2 rfl rfl (fun y c h => cellsFrom_lo (Nat.le_succ _) (fun y c h => by cases h) h) (NdefX.Caps.made I2.ok B.free B.has B.at_) wf (by rw [wf.len, ← hjl, ← hl, rws.length]) (fun i v e => ?_) fun hn0 => ?_
  · obtain ⟨j, h1, h2⟩ := hww i v e
    exact ⟨j, h1, hσ j v (List.mem_of_getElem? h1) h2⟩
  · have hl2 : (T.fr.map fun y => ((cloFrom (envOfC qual osc s.heap.objs.size g (.ref (codF K n))).cells T.scope.names []).lookup y).getD 0).length = cds.length := by rw [List.length_map, ← hjl, hl]
    have A3 := At.addC A2 wf.nd hn0 (rws.ext x) hl2
    have hfc : f ∉ (T.fr.map fun y => ((cloFrom (envOfC qual osc s.heap.objs.size g (.ref (codF K n))).cells T.scope.names []).lookup y).getD 0) := fun z => by
      have := hn0 f z
      rw [upd_same] at this
      cases this
    refine hn (.ref f) _ J _ _ x A3 (.ref f) (hQ f _ c' _ hMf wf hfc (fun y hy => ?_) hl2)
    have hH := hn0 y hy
    have hyf : y ≠ f := fun z => hfc (z ▸ hy)
    have := A2.freeM hH
    rw [mset_ne hyf] at this
    exact this
end
end BB
set_option maxHeartbeats 4000000
namespace BB
open L2 PySem PySem.Spec PyProof.Rows
section
variable {P : Program} {w : World} {K : PySem.W.Frag} {mg : Str → Option Value} {base : Heap} {N ps : List Str} {n x qual q : Str} {params : Arguments} {scope : Scope} {dvs : List V} {kws : List (Str × V)} {fd : FuncData} {k : Nat} {sp : SpD} {fr : List Str} {js : List Nat}
theorem fn_mkLam {lp : Arguments} {lb : Expr} {lsc : Scope} {lpos rpos : Pos} {body : List Stmt} (hbody : body = [.Return (some (.Lambda lp lb lsc lpos)) rpos]) (F : FunD K x qual params body scope dvs kws (He.ga K n) fd) (S : FnScope N ps scope) (len : ∀ ds M Q E, sp ds M Q E → ds.length = ps.length)
    (TB : LamX.TabB base mg (codF K n) (tabF K n)) (hq : ∀ (L g : Addr) (cd : Value), (envOfC qual scope L g cd).qual ++ "<lambda>" = q) (nodef : ∀ env : PySem.Env, defaultsOf lp env = ([], [])) (B : CapB N scope lsc fr js)
    (hsp : ∀ ds M Q E, sp ds M Q E → dMkC js ⟨"<lambda>", q, lp, .expr lb, lsc, fr⟩ (tabF K n) Q (startD N ds) M) : FnOk P w K mg base (L2.CX P w) (k + 1) (He.ga K n) fd ps (liftSp K sp) := by
  subst hbody
  obtain ⟨_, _, _, _, _, _, _, cdv, _, _, rfl, lk, hcd, _, _⟩ := F.ex
  obtain ⟨c, rfl⟩ := He.codeIn_ref hcd
  have ec : codF K n = c := He.codeOf_eq (p := (n, none)) lk rfl
  subst ec
  refine fn_rawC lk hcd S (fun vs H Q E ⟨F0, I, M, ds, Qd, Ed, A, r, h, _⟩ => r.length.trans (len _ _ _ _ h)) fun A outer s s1 H vs Q E hr ⟨F0, I, M, ds, Qd, Ed, At0, r, h, hn, hx⟩ I1 => ?_
  have hd := hsp ds M Qd Ed h
  obtain ⟨_, qs, hP, tri, known⟩ := At0.mem _ _ hd.1
  have hq' := hq s.heap.objs.size (He.ga K n) (.ref (codF K n))
  subst hq'
  refine wpAny_execs_cons (wpAny_Return_some (lam_atC (fr := fr) I1 TB rfl hP tri (fun pos cv hc => let ⟨c, e, _⟩ := known pos cv hc; ⟨c, e⟩) (nodef _) (fun y hy e => (B.free y hy e).elim (fun z => I1.ok.has _ (.inl z)) fun z => I1.ok.has _ (.inr z)) fun f c' H2 s2 J nf m => ?_))
  exact fin_mk rfl B J (L2.start N vs) (fun j v _ h => h) At0 (envr_start r) hP known nf m hd hn
end
end BB
set_option maxHeartbeats 4000000
namespace BB
open L2 PySem PySem.Spec PyProof.Rows PySem.Froz
def SpotP (p : PyData) : Prop := ∃ (n : Int) (z : Str), p = .tuple [.int n, .str z]
theorem SpotP.alike {p q : PyData} (h : SpotP p) (k : SpotP q) : PySem.W.alike p q = true := by
  obtain ⟨n, z, rfl⟩ := h
  obtain ⟨m, y, rfl⟩ := k
  rw [PySem.W.alike, PySem.W.alikeAll, PySem.W.alikeAll, PySem.W.alikeAll, PySem.W.alike, PySem.W.alike]; rfl
theorem SpotP.depth {p : PyData} (h : SpotP p) : p.depth ≤ 8 := by
  obtain ⟨n, z, rfl⟩ := h
  have d0 : ∀ i, (PyData.int i).depth = 0 := fun i => by rw [PyData.depth] <;> simp
  have d1 : ∀ i, (PyData.str i).depth = 0 := fun i => by rw [PyData.depth] <;> simp
  rw [PyData.depth, PyData.depthAll, PyData.depthAll, PyData.depthAll, d0, d1]
  decide
section
variable {P : Program} {w : World} {A : Around} {E : Value → Shared → Prop} {s : Shared} {a : Addr}
end
section
variable {X : Cx}
end
section
variable {X : Cx} {Δ : DC} {e : Expr} {te : TE} {de : DE} {p1 p2 q1 q2 : Pos}
end
end BB
set_option maxHeartbeats 4000000
namespace BB
open L2 PySem PySem.Spec PyProof.Rows
section
variable {prog : Program} {w : World} {A : Around} {E : Value → Shared → Prop} {s : Shared}
end
section
variable {X : Cx}
end
end BB
set_option maxHeartbeats 4000000
namespace BB
open L2 PySem PySem.Spec PyProof.Rows
section
variable {P : Program} {w : World} {H : Hp} {h : Heap} {a : Addr} {xs : List NEnt}
end
section
variable {X : Cx} {pins : List (Addr × Obj)} {σ : L2.St} {H : Hp} {s : Shared} {a b : Addr} {u r : Value} {y v d : V} {k : NestedKey} {xs : List NEnt} {A : Around} {E : Value → Shared → Prop}
end
section
variable {X : Cx} {o i e value : Expr} {td ty tv : TE} {pos pos' : Pos}
def tNewJ (w : World) : TE := fun _ H Q => ∀ p, H p = none → Q (.ref p) (upd H p (NDO w p []))
theorem pe_newJ : PE X (.Dict [] [] pos) (tNewJ X.w) := by
  refine ⟨fun pins s σ H Q I q => ?_⟩
  have hn := I.hok.fresh (Nat.le_refl s.heap.objs.size)
  have I1 := I.laid (a := s.heap.objs.size) (o := NDO X.w s.heap.objs.size []) (h' := s.heap.push { cls := .type "dict", data := .dict #[] }) (t' := s.toks) (fun _ _ q => Heap.get?_push_of_some _ q) (Nat.le_refl _) (nd_empty s.heap I.big)
  exact wpAny_Dict_empty ⟨.ref s.heap.objs.size, _, I1, rfl, q _ hn⟩
mutual
theorem reads_lowA {h : Heap} : ∀ {v : Value} {p : PyData} {as : List Addr}, Reads h v p as → ∀ c ∈ as, c < h.objs.size
  | _, _, _, .none, _, hc => nomatch hc
  | _, _, _, .bool _, _, hc => nomatch hc
  | _, _, _, .int _ _, _, hc => nomatch hc
  | _, _, _, .str _ _, _, hc => nomatch hc
  | _, _, _, .list h1 _ _ r, c, hc => by
    rcases List.mem_cons.mp hc with rfl | hc
    · exact Heap.lt_size h1
    · exact readsAll_lowA r c hc
  | _, _, _, .tuple _ _ _ r, c, hc => readsAll_lowA r c hc
  | _, _, _, .dict h1 _ _ r1 r2, c, hc => by
    rcases List.mem_append.mp hc with hc | hc
    · rcases List.mem_cons.mp hc with rfl | hc
      · exact Heap.lt_size h1
      · exact readsAll_lowA r1 c hc
    · exact readsAll_lowA r2 c hc
theorem readsAll_lowA {h : Heap} : ∀ {vs : List Value} {ps : List PyData} {as : List Addr}, ReadsAll h vs ps as → ∀ c ∈ as, c < h.objs.size
  | _, _, _, .nil, _, hc => nomatch hc
  | _, _, _, .cons a b, c, hc => by
    rcases List.mem_append.mp hc with hc | hc
    · exact reads_lowA a c hc
    · exact readsAll_lowA b c hc
end
end
end BB
set_option maxHeartbeats 4000000
namespace BB
open L2 PySem PySem.Spec PyProof.Rows
mutual
def jkey : D → Option NestedKey
  | .int i => some (.num i)
  | .str x => some (.text x)
  | .htup ds => (jkeys ds).map .tup
  | _ => none
def jkeys : List D → Option (List NestedKey)
  | [] => some []
  | d :: ds => match jkey d, jkeys ds with
    | some k, some ks => some (k :: ks)
    | _, _ => none
end
section
variable {K : PySem.W.Frag} {I J F H : Hp} {M : Mem} {v : V} {d : D}
mutual
theorem jkey_of : ∀ {v : V} {d : D} {k : NestedKey}, Rp K I v d → jkey d = some k → NJ I k v
  | _, .int i, _, r, h => by rw [jkey] at h; cases h; rw [r.int_inv]; exact .num i
  | _, .str i, _, r, h => by rw [jkey] at h; cases h; rw [r.str_inv]; exact .text i
  | _, .htup ds, _, r, h => by
    rw [jkey] at h
    obtain ⟨ks, hks, rfl⟩ := Option.map_eq_some_iff.mp h
    obtain ⟨a, vs, rfl, h1, h2⟩ := r.htup_inv
    exact .tup h1 (jkeys_of h2 hks)
  | _, .non, _, _, h => by rw [jkey] at h <;> first | cases h | (intros; rename_i z; cases z)
  | _, .bl _, _, _, h => by rw [jkey] at h <;> first | cases h | (intros; rename_i z; cases z)
  | _, .tup _, _, _, h => by rw [jkey] at h <;> first | cases h | (intros; rename_i z; cases z)
  | _, .lst _, _, _, h => by rw [jkey] at h <;> first | cases h | (intros; rename_i z; cases z)
  | _, .frz _, _, _, h => by rw [jkey] at h <;> first | cases h | (intros; rename_i z; cases z)
  | _, .ntup _, _, _, h => by rw [jkey] at h <;> first | cases h | (intros; rename_i z; cases z)
  | _, .dK _, _, _, h => by rw [jkey] at h <;> first | cases h | (intros; rename_i z; cases z)
  | _, .dT _, _, _, h => by rw [jkey] at h <;> first | cases h | (intros; rename_i z; cases z)
  | _, .ins _ _, _, _, h => by rw [jkey] at h <;> first | cases h | (intros; rename_i z; cases z)
  | _, .ref _, _, _, h => by rw [jkey] at h <;> first | cases h | (intros; rename_i z; cases z)
  | _, .ty _, _, _, h => by rw [jkey] at h <;> first | cases h | (intros; rename_i z; cases z)
  | _, .exc _ _, _, _, h => by rw [jkey] at h <;> first | cases h | (intros; rename_i z; cases z)
theorem jkeys_of : ∀ {vs : List V} {ds : List D} {ks : List NestedKey}, Rps K I vs ds → jkeys ds = some ks → NJs I ks vs
  | _, [], _, r, h => by rw [jkeys] at h; cases h; rw [r.nil_inv]; exact .nil
  | _, d :: ds, _, r, h => by
    obtain ⟨v, vs, rfl, rv, rr⟩ := r.cons_inv
    rw [jkeys] at h
    cases e1 : jkey d with
    | none => rw [e1] at h; cases h
    | some k =>
      cases e2 : jkeys ds with
      | none => rw [e1, e2] at h; cases h
      | some ks' => rw [e1, e2] at h; cases h; exact .cons (jkey_of rv e1) (jkeys_of rr e2)
end
mutual
def keyJ : NestedKey → D
  | .num i => .int i
  | .text x => .str x
  | .tup ks => .htup (keyJs ks)
  | .none => .non
def keyJs : List NestedKey → List D
  | [] => []
  | k :: ks => keyJ k :: keyJs ks
end
mutual
theorem keyJ_rp : ∀ {k : NestedKey} {v : V}, NJ I k v → Rp K I v (keyJ k)
  | _, _, .num i => by rw [keyJ]; exact .int i
  | _, _, .text i => by rw [keyJ]; exact .str i
  | _, _, .tup h r => by rw [keyJ]; exact .htup h (keyJs_rp r)
theorem keyJs_rp : ∀ {k : List NestedKey} {v : List V}, NJs I k v → Rps K I v (keyJs k)
  | _, _, .nil => by rw [keyJs]; exact .nil
  | _, _, .cons a b => by rw [keyJs]; exact .cons (keyJ_rp a) (keyJs_rp b)
end
theorem RpJ.len : ∀ {kv : List NEnt} {kd : List (NestedKey × D)}, RpJ K I kv kd → kv.length = kd.length
  | _, _, .nil => rfl
  | _, _, .cons _ _ _ r => congrArg (· + 1) (RpJ.len r)
theorem RpJ.anyB (k : NestedKey) : ∀ {kv : List NEnt} {kd : List (NestedKey × D)}, RpJ K I kv kd → (kv.any fun x => decide (x.1 = k)) = (kd.any fun x => decide (x.1 = k))
  | _, _, .nil => rfl
  | (k1, b, v) :: kv, (_, d) :: kd, .cons _ _ _ r => by rw [List.any_cons, List.any_cons, RpJ.anyB k r]
theorem RpJ.snoc {k : NestedKey} {b : Addr} {v : V} {d : D} (n : NJ I k (.ref b)) (hk : k.depth ≤ 8) (h : Rp K I v d) : ∀ {kv : List NEnt} {kd : List (NestedKey × D)}, RpJ K I kv kd → RpJ K I (kv ++ [(k, b, v)]) (kd ++ [(k, d)])
  | _, _, .nil => .cons n hk h .nil
  | _, _, .cons a z c r => .cons a z c (RpJ.snoc n hk h r)
theorem RpJ.repl {k : NestedKey} {v : V} {d : D} (h : Rp K I v d) : ∀ {kv : List NEnt} {kd : List (NestedKey × D)}, RpJ K I kv kd → RpJ K I (kv.map fun p => if p.1 = k then (p.1, p.2.1, v) else p) (kd.map fun p => if p.1 = k then (p.1, d) else p)
  | _, _, .nil => .nil
  | (k1, b, u) :: kv, (_, e) :: kd, .cons a z c r => by
    rw [List.map_cons, List.map_cons]
    by_cases q : k1 = k
    · rw [if_pos q, if_pos q]; exact .cons a z h (RpJ.repl h r)
    · rw [if_neg q, if_neg q]; exact .cons a z c (RpJ.repl h r)
theorem RpJ.put {k : NestedKey} {b : Addr} {v : V} {d : D} {kv : List NEnt} {kd : List (NestedKey × D)} (r : RpJ K I kv kd) (n : NJ I k (.ref b)) (hk : k.depth ≤ 8) (h : Rp K I v d) : RpJ K I (putN kv k b v) (putKD kd k d) := by
  unfold putN putKD
  rw [r.anyB]
  split
  · exact RpJ.repl h r
  · exact RpJ.snoc n hk h r
theorem RpJ.keys : ∀ {kv : List NEnt} {kd : List (NestedKey × D)}, RpJ K I kv kd → ∀ x ∈ kv, NJ I x.1 (.ref x.2.1) ∧ x.1.depth ≤ 8
  | _, _, .nil, _, h => nomatch h
  | _, _, .cons a z _ r, x, h => by
    rcases List.mem_cons.mp h with rfl | h
    · exact ⟨a, z⟩
    · exact RpJ.keys r x h
theorem RpJ.same : ∀ {kv : List NEnt} {kd : List (NestedKey × D)}, RpJ K I kv kd → kv.map (·.1) = kd.map (·.1)
  | _, _, .nil => rfl
  | (k1, b, v) :: kv, (_, d) :: kd, .cons _ _ _ r => by rw [List.map_cons, List.map_cons, RpJ.same r]
end
section
variable {X : Cx} {Δ : DC} {o i : Expr} {da db de : DE} {pos pos' : Pos} {td ty tv : TE}
end
end BB
set_option maxHeartbeats 4000000
namespace BB
open L2 PySem PySem.Spec PyProof.Rows PySem.Froz
abbrev Chg := Int × Str × Str × Int
def cPy (c : Chg) : PyData := .tuple [.int c.1, .str c.2.1, .str c.2.2.1, .int c.2.2.2]
theorem cPy_alike (c d : Chg) : PySem.W.alike (cPy c) (cPy d) = true := by
  unfold cPy
  simp [PySem.W.alike, PySem.W.alikeAll]
theorem cPy_depth (c : Chg) : (cPy c).depth = 1 := by
  unfold cPy
  simp [PyData.depth, PyData.depthAll]
theorem cPys_depth : ∀ cs : List Chg, PyData.depthAll (cs.map cPy) ≤ 1
  | [] => by rw [List.map_nil, PyData.depthAll]; exact Nat.zero_le _
  | c :: cs => by
    rw [List.map_cons, PyData.depthAll, cPy_depth]
    exact Nat.max_le.mpr ⟨Nat.le_refl _, cPys_depth cs⟩
theorem cPys_alike : ∀ cs ds : List Chg, PySem.W.alikeAll (cs.map cPy) (ds.map cPy) = true
  | [], _ => by rw [List.map_nil, PySem.W.alikeAll]
  | _ :: _, [] => by rw [List.map_nil, List.map_cons, PySem.W.alikeAll]
  | c :: cs, d :: ds => by
    rw [List.map_cons, List.map_cons, PySem.W.alikeAll, cPys_alike cs ds, cPy_alike]; rfl
def CSetP (p : PyData) : Prop := ∃ (c : Chg) (cs : List Chg), p = .tuple (cPy c :: cs.map cPy)
theorem CSetP.alike {p q : PyData} (h : CSetP p) (k : CSetP q) : PySem.W.alike p q = true := by
  obtain ⟨n, z, rfl⟩ := h
  obtain ⟨m, y, rfl⟩ := k
  rw [PySem.W.alike]
  exact cPys_alike (n :: z) (m :: y)
theorem CSetP.depth {p : PyData} (h : CSetP p) : p.depth ≤ 8 := by
  obtain ⟨n, z, rfl⟩ := h
  rw [PyData.depth]
  have := cPys_depth (n :: z)
  rw [List.map_cons] at this
  omega
section
variable {P : Program} {w : World} {A : Around} {E : Value → Shared → Prop} {s : Shared} {a : Addr}
end
section
variable {X : Cx}
end
section
variable {X : Cx} {Δ : DC} {e : Expr} {te : TE} {de : DE} {p1 p2 q1 q2 : Pos}
end
end BB
set_option maxHeartbeats 4000000
namespace BB
open L2 PySem PySem.Spec PyProof.Rows
mutual
def nrmD : D → D
  | .tup xs => .tup (nrmDs xs)
  | .ntup xs => .tup (nrmDs xs)
  | .htup xs => .tup (nrmDs xs)
  | .lst xs => .lst (nrmDs xs)
  | d => d
def nrmDs : List D → List D
  | [] => []
  | x :: xs => nrmD x :: nrmDs xs
end
section
variable {K : PySem.W.Frag} {I : Hp}
mutual
theorem Rp.deep : ∀ {v : V} {d : D}, Rp K I v d → Rp K I v (nrmD d)
  | _, _, .non => by simp only [nrmD]; exact .non
  | _, _, .bl b => by simp only [nrmD]; exact .bl b
  | _, _, .int i => by simp only [nrmD]; exact .int i
  | _, _, .str i => by simp only [nrmD]; exact .str i
  | _, _, .ty i => by simp only [nrmD]; exact .ty i
  | _, _, .ref i => by simp only [nrmD]; exact .ref i
  | _, _, .tup h r => by rw [nrmD]; exact .tup h (Rps.deep r)
  | _, _, .htup h r => by rw [nrmD]; exact .tup (.inl (.inl h)) (Rps.deep r)
  | _, _, .ntup (ob := ob) h _ _ r => by rw [nrmD]; exact .tup (.inl (.inr ⟨ob, h⟩)) (Rps.deep r)
  | _, _, .lst h r => by rw [nrmD]; exact .lst h (Rps.deep r)
  | _, _, .frz h r => by simp only [nrmD]; exact .frz h r
  | _, _, .dK h e r => by simp only [nrmD]; exact .dK h e r
  | _, _, .dT h e r => by simp only [nrmD]; exact .dT h e r
  | _, _, .ins h e r => by simp only [nrmD]; exact .ins h e r
  | _, _, .exc0 h => by simp only [nrmD]; exact .exc0 h
  | _, _, .excD h e r => by simp only [nrmD]; exact .excD h e r
theorem Rps.deep : ∀ {vs : List V} {ds : List D}, Rps K I vs ds → Rps K I vs (nrmDs ds)
  | _, _, .nil => by rw [nrmDs]; exact .nil
  | _, _, .cons a b => by rw [nrmDs]; exact .cons (Rp.deep a) (Rps.deep b)
end
end
section
variable {X : Cx} {Δ : DC} {e : Expr} {te : TE} {de : DE}
def dND (de : DE) : DE := fun env M Q => de env M fun x M1 => Q (nrmD x) M1
theorem pd_deep (h : PDe X Δ e te de) : PDe X Δ e te (dND de) := ⟨h.1, fun I M H σ env G Q Qd k q => h.2 I M H σ env G _ _ (fun d M1 I1 H1 v x1 G1 r1 q1 => k _ _ _ _ _ x1 G1 r1.deep q1) q⟩
theorem i_deep {env : Env} {M : Mem} {Q : DKt} (q : de env M fun x M1 => Q (nrmD x) M1) : dND de env M Q := q
end
end BB
set_option maxHeartbeats 4000000
namespace BB
open L2 PySem PySem.Spec PyProof.Rows
def keyN1 : Key → NestedKey
  | .inl i => .num i
  | .inr x => .text x
def flatK (k : List Key) : NestedKey := .tup (k.map keyN1)
theorem keyN1_inj : ∀ {a b : Key}, keyN1 a = keyN1 b → a = b
  | .inl _, .inl _, h => by cases h; rfl
  | .inr _, .inr _, h => by cases h; rfl
  | .inl _, .inr _, h => by cases h
  | .inr _, .inl _, h => by cases h
theorem keyN1s_inj : ∀ {a b : List Key}, a.map keyN1 = b.map keyN1 → a = b
  | [], [], _ => rfl
  | [], _ :: _, h => by cases h
  | _ :: _, [], h => by cases h
  | x :: xs, y :: ys, h => by
    rw [List.map_cons, List.map_cons] at h
    injection h with h1 h2
    rw [keyN1_inj h1, keyN1s_inj h2]
theorem flatK_inj {a b : List Key} (h : flatK a = flatK b) : a = b := by
  unfold flatK at h
  injection h with h1
  exact keyN1s_inj h1
theorem keyN1_depth (k : Key) : (keyN1 k).depth ≤ 1 := by
  cases k <;> simp [keyN1, NestedKey.depth]
theorem keyN1s_depth : ∀ k : List Key, NestedKey.depthAll (k.map keyN1) ≤ 1
  | [] => by simp [NestedKey.depthAll]
  | x :: xs => by
    have h1 := keyN1_depth x
    have h2 := keyN1s_depth xs
    simp only [List.map_cons, NestedKey.depthAll]
    omega
theorem flatK_depth (k : List Key) : (flatK k).depth ≤ 8 := by
  have h := keyN1s_depth k
  simp only [flatK, NestedKey.depth]
  omega
theorem keyN1_is {h : Heap} {k : Key} {u : Value} (r : RelV (kV k) u) : NestedIs h (keyN1 k) u := by
  cases k with
  | inl i => obtain ⟨t, rfl⟩ := r; exact .int i t
  | inr x => obtain ⟨t, rfl⟩ := r; exact .text x t
theorem keyN1s_is {h : Heap} : ∀ {ks : List Key} {us : List Value}, Vals (ks.map kV) us → NestedAll h (ks.map keyN1) us
  | [], _, r => by cases r; exact .nil
  | k :: ks, _, r => by
    cases r with
    | cons r1 r2 => exact .cons (keyN1_is r1) (keyN1s_is r2)
def NDX (K : PySem.W.Frag) (w : World) (H : Hp) (a : Addr) (xs : List NEnt) : Prop := H a = some (NDO w a xs) ∧ ∀ x ∈ xs, ∃ k : List Key, x.1 = flatK k ∧ SqT K H x.2.1 (k.map kV)
section
variable {X : Cx} {pins : List (Addr × Obj)} {σ : L2.St} {H : Hp} {s : Shared} {a b : Addr} {u r : Value} {y v d : V} {k : List Key} {xs : List NEnt} {A : Around} {E : Value → Shared → Prop}
theorem flat_is (I : Inv X pins σ H s) (h : SqT X.K H b (k.map kV)) : (nestedKind X.prog X.w).is s.heap (flatK k) b := by
  obtain ⟨its, rv, ⟨o, ho, hc, n, hd⟩, _⟩ := I.tuple h
  exact ⟨.tup ho hc hd (by rw [List.toList_toArray]; exact keyN1s_is rv), flatK_depth k⟩
theorem ndx_of (I : Inv X pins σ H s) (n : NDX X.K X.w H a xs) : (a == sysModules) = false ∧ xs.length ≤ sizeLine ∧ ∃ ys, Paired NPair xs ys ∧ s.heap.DictOfH (nestedKind X.prog X.w) a ys := by
  obtain ⟨e, hk⟩ := n
  obtain ⟨⟨hd, hl, ys, r, o, es, ep, ho, hex, hda, hes, nd⟩, _⟩ := I.hok a _ e
  refine ⟨hd, hl, ys, r, o, es, ep, ho, hex, hda, hes, fun y hy => ?_, nd⟩
  obtain ⟨x, hx, r1, r2, _⟩ := npair_mem r y hy
  obtain ⟨k1, e1, e2⟩ := hk x hx
  rw [r2] at e2
  rw [← r1, e1]
  exact flat_is I e2
theorem x_notIn {Q : Value → Shared → Prop} (hu : A.units + 10 < cLine) (I : Inv X pins σ H s) (n : NDX X.K X.w H a xs) (nk : SqT X.K H b (k.map kV)) (h : ∀ s', Inv X pins σ H s' → Q (.bool (!(atN xs (flatK k)).isSome)) s') :
    wpAny (model X.prog X.w) A (compareOp .NotIn (.ref b) (.ref a)) Q E s := by
  obtain ⟨hd, hl, ys, rr, dd⟩ := ndx_of I n
  refine wpAny_notIn_heap (knd := nestedKind X.prog X.w) (by show A.in1.units + 8 < cLine; show A.units + 1 + 8 < cLine; omega) (flat_is I nk) hd dd ?_
  have q := (npair_find (k := flatK k) rr).isSome_eq
  rw [Option.isSome_map] at q
  rw [← q]
  exact h _ (I.tok _)
theorem x_getItem {Q : Value → Shared → Prop} (hu : A.units + 10 < cLine) (I : Inv X pins σ H s) (n : NDX X.K X.w H a xs) (nk : SqT X.K H b (k.map kV)) (hv : atN xs (flatK k) = some v) (h : ∀ w' s', Inv X pins σ H s' → RelV v w' → Q w' s') :
    wpAny (model X.prog X.w) A (getItem (.ref a) (.ref b)) Q E s := by
  obtain ⟨hd, hl, ys, rr, dd⟩ := ndx_of I n
  have q := npair_find (k := flatK k) rr
  rw [hv] at q
  obtain ⟨w', hw, rw'⟩ := RelO.some_of (v := v) (o := (atKey ys (flatK k)).map (·.2)) q
  obtain ⟨p, hp, hp2⟩ := Option.map_eq_some_iff.mp hw
  refine wpAny_getItem_heap (knd := nestedKind X.prog X.w) (by show A.in1.units + 8 < cLine; show A.units + 1 + 8 < cLine; omega) (flat_is I nk) dd hp ?_
  rw [hp2]
  exact h w' _ (I.tok _) rw'
theorem x_setItem {Q : Unit → Shared → Prop} (hu : A.units + 10 < cLine) (I : Inv X pins σ H s) (n : NDX X.K X.w H a xs) (nk : SqT X.K H b (k.map kV)) (hl1 : xs.length < sizeLine) (rv : RelV v r) (h : ∀ s', Inv X pins σ (upd H a (NDO X.w a (putN xs (flatK k) b v))) s' → Q () s') :
    wpAny (model X.prog X.w) A (setItem (.ref a) (.ref b) r) Q E s := by
  obtain ⟨hd, hl, ys, rr, dd⟩ := ndx_of I n
  obtain ⟨e, _⟩ := n
  refine wpAny_setItem_heap (knd := nestedKind X.prog X.w) (hsz := by rw [← npair_len rr]; exact hl) (by show A.in1.units + 8 < cLine; show A.units + 1 + 8 < cLine; omega) (flat_is I nk) dd fun h' dd' hs => ?_
  have he : ∃ q, h'.get? a = some q := let ⟨q, _, _, hq, _⟩ := dd'; ⟨q, hq⟩
  have hp := putN_len (xs := xs) (k := flatK k) (b := b) (v := v)
  exact h _ (d_write I (by rw [e]; exact True.intro) hs he (nd_new (P := X.prog) hd (by omega) (npair_put rr rv) dd'))
theorem x_type (I : Inv X pins σ H s) (n : NDX X.K X.w H a xs) : s.TypeIs (.ref a) "dict" := by
  obtain ⟨hd, hl, ys, rr, dd⟩ := ndx_of I n
  exact dd.typeIs
end
section
variable {X : Cx} {o i e value : Expr} {pos pos' : Pos} {td ty tv : TE}
def rXIn (K : PySem.W.Frag) (w : World) (neg : Bool) : R2 := fun y x H Q => ∃ (a b : Addr) (xs : List NEnt) (k : List Key), x = .ref a ∧ y = .ref b ∧ NDX K w H a xs ∧ SqT K H b (k.map kV) ∧ Q (.bl (if neg then !(atN xs (flatK k)).isSome else (atN xs (flatK k)).isSome)) H
theorem op_xnotIn (hu : X.A.units + 10 < cLine) : OpR X (compareOp .NotIn) (rXIn X.K X.w true) := by
  rintro pins s σ H x y v u Q I rx ry ⟨a, b, xs, k, rfl, rfl, n, nk, q⟩
  cases ry
  cases rx
  exact x_notIn hu I n nk fun s' I' => ⟨.bl (!(atN xs (flatK k)).isSome), H, I', rfl, q⟩
def tXGet (K : PySem.W.Frag) (w : World) (td ty : TE) : TE := fun σ H Q => td σ H fun x H1 => ty σ H1 fun y H2 => ∃ (a b : Addr) (xs : List NEnt) (k : List Key) (v : V), x = .ref a ∧ y = .ref b ∧ NDX K w H2 a xs ∧ SqT K H2 b (k.map kV) ∧ atN xs (flatK k) = some v ∧ Q v H2
theorem pe_xget (hu : X.A.units + 10 < cLine) (ho : PE X o td) (hi : PE X i ty) (hs : NoSl i) : PE X (.Subscript o i pos) (tXGet X.K X.w td ty) := by
  refine ⟨fun pins s σ H Q I h => ?_⟩
  refine subD_of PySem.F.slot_dict_getitem.lookup hs (thn (ho.run pins s σ H _ I h) fun u s1 ⟨x, H1, I1, rx, q1⟩ => thn (hi.run pins s1 σ H1 _ I1 q1) fun iv s2 ⟨y, H2, I2, ry, a, b, xs, k, v, ex, ey, n, nk, hv, q2⟩ => ?_)
  subst ex ey
  obtain rfl : u = Value.ref a := rx
  cases ry
  exact ⟨x_type I2 n, x_getItem hu I2 n nk hv fun w' s3 I3 rw' => ⟨v, H2, I3, rw', q2⟩⟩
def sXPut (K : PySem.W.Frag) (w : World) (td ty tv : TE) : TS := fun D σ H => tv σ H fun v H1 => td σ H1 fun x H2 => ty σ H2 fun y H3 => ∃ (a b : Addr) (xs : List NEnt) (k : List Key), x = .ref a ∧ y = .ref b ∧ NDX K w H3 a xs ∧ SqT K H3 b (k.map kV) ∧ xs.length < sizeLine ∧
  D.nx σ (upd H3 a (NDO w a (putN xs (flatK k) b v)))
theorem ps_xput (hu : X.A.units + 10 < cLine) (ho : PE X o td) (hi : PE X i ty) (hv : PE X value tv) (hs : swapsWith value (some (.Subscript o i pos')) pos.line X.env = pure false) :
    PS X (.Assign [.Subscript o i pos'] value pos) (sXPut X.K X.w td ty tv) := by
  refine ⟨fun pins s σ H D I h => ?_⟩
  refine wpAny_Assign_Subscript (thn (hv.run pins s σ H _ I h) fun r s1 ⟨v, H1, I1, rv, q1⟩ => thn (ho.run pins s1 σ H1 _ I1 q1) fun u s2 ⟨x, H2, I2, rx, q2⟩ => thn (hi.run pins s2 σ H2 _ I2 q2) fun iv s3 ⟨y, H3, I3, ry, a, b, xs, k, ex, ey, n, nk, hl, q3⟩ => ?_) hs
  subst ex ey
  obtain rfl : u = Value.ref a := rx
  cases ry
  exact x_setItem hu I3 n nk hl rv fun s4 I4 => ⟨σ, _, I4, q3⟩
end
end BB
set_option maxHeartbeats 4000000
namespace BB
open L2 PySem PySem.Spec PyProof.Rows
def entsOf : List NestedKey → List V → List NEnt
  | k :: ks, .ref b :: v :: vs => (k, b, v) :: entsOf ks vs
  | _, _ => []
def flatE : List NEnt → List V
  | [] => []
  | x :: xs => .ref x.2.1 :: x.2.2 :: flatE xs
theorem ents_flat : ∀ xs : List NEnt, entsOf (xs.map (·.1)) (flatE xs) = xs
  | [] => rfl
  | x :: xs => by
    rw [List.map_cons, flatE, entsOf, ents_flat xs]
def keyX (n : Bool) (k : List Key) : D := if n then .ntup (k.map kD) else .tup (k.map kD)
def flatX (n : Bool) : List (List Key × D) → List D
  | [] => []
  | x :: xs => keyX n x.1 :: x.2 :: flatX n xs
def dX (w : World) (n : Bool) (kvs : List (List Key × D)) : MO := .xt (fun a vs h => NDict w h a (entsOf (kvs.map fun x => flatK x.1) vs)) [] (flatX n kvs)
inductive RpX (K : PySem.W.Frag) (I : Hp) (n : Bool) : List NEnt → List (List Key × D) → Prop
  | nil : RpX K I n [] []
  | cons {k b v vs d ds} : Rp K I (.ref b) (keyX n k) → Rp K I v d → RpX K I n vs ds → RpX K I n ((flatK k, b, v) :: vs) ((k, d) :: ds)
def xkey (d : D) : Option (List Key) := match nrm d with
  | .tup ds => skeys ds
  | _ => none
section
variable {K : PySem.W.Frag} {I J F H : Hp} {M : Mem} {v : V} {d : D} {n : Bool}
theorem rp_seqT {d : D} {v : V} {ds : List D} (r : Rp K I v d) (h : nrm d = .tup ds) : ∃ a vs, v = .ref a ∧ SqT K I a vs ∧ Rps K I vs ds := by
  have r1 := r.nrm
  rw [h] at r1
  exact r1.tup_inv
theorem xkey_of {k : List Key} (r : Rp K I v d) (h : xkey d = some k) : ∃ b, v = .ref b ∧ SqT K I b (k.map kV) ∧ Rp K I (.ref b) (.tup (k.map kD)) := by
  unfold xkey at h
  cases e : nrm d with
  | tup ds =>
    rw [e] at h
    replace h : skeys ds = some k := h
    obtain ⟨a, vs, rfl, h1, h2⟩ := rp_seqT r e
    have e1 := skeys_of h2 h
    subst e1
    refine ⟨a, rfl, h1, ?_⟩
    have r1 := r.nrm
    rw [e] at r1
    have e2 : ds = k.map kD := by
      clear h2 r1 e h1 r
      induction ds generalizing k with
      | nil => rw [skeys] at h; cases h; rfl
      | cons d ds ih =>
        rw [skeys] at h
        cases e1 : skey d with
        | none => rw [e1] at h; cases h
        | some k1 =>
          cases e2 : skeys ds with
          | none => rw [e1, e2] at h; cases h
          | some ks' =>
            rw [e1, e2] at h; cases h
            rw [List.map_cons, ← ih e2]
            congr 1
            cases d <;> cases e1 <;> rfl
    rw [e2] at r1
    exact r1
  | _ => rw [e] at h; cases h
theorem kD_rp {k : Key} {v : V} (r : Rp K I v (kD k)) : v = kV k := by
  cases k with
  | inl i => exact r.int_inv
  | inr z => exact r.str_inv
theorem kDs_rp : ∀ {k : List Key} {vs : List V}, Rps K I vs (k.map kD) → vs = k.map kV
  | [], _, r => r.nil_inv
  | x :: xs, _, r => by
    obtain ⟨v, vs, rfl, rv, rr⟩ := r.cons_inv
    rw [kD_rp rv, kDs_rp rr]; rfl
theorem keyX_sq {k : List Key} {v : V} (r : Rp K I v (keyX n k)) : ∃ b, v = .ref b ∧ SqT K I b (k.map kV) := by
  have e : nrm (keyX n k) = .tup (k.map kD) := by unfold keyX; cases n <;> rfl
  obtain ⟨a, vs, rfl, h1, h2⟩ := rp_seqT r e
  rw [kDs_rp h2] at h1
  exact ⟨a, rfl, h1⟩
theorem rpx_of : ∀ {kvs : List (List Key × D)} {vs : List V}, Rps K I vs (flatX n kvs) → ∃ xs, vs = flatE xs ∧ xs.map (·.1) = (kvs.map fun x => flatK x.1) ∧ RpX K I n xs kvs
  | [], _, r => ⟨[], r.nil_inv, rfl, .nil⟩
  | x :: kvs, _, r => by
    obtain ⟨v, vs, rfl, rv, rr⟩ := r.cons_inv
    obtain ⟨u, us, rfl, ru, rs⟩ := rr.cons_inv
    obtain ⟨xs, rfl, e, r2⟩ := rpx_of rs
    obtain ⟨b, rfl, _⟩ := keyX_sq rv
    exact ⟨(flatK x.1, b, u) :: xs, rfl, by rw [List.map_cons, List.map_cons, e], .cons rv ru r2⟩
theorem rpx_flat : ∀ {xs : List NEnt} {kvs : List (List Key × D)}, RpX K I n xs kvs → Rps K I (flatE xs) (flatX n kvs)
  | _, _, .nil => .nil
  | _, _, .cons a b r => .cons a (.cons b (rpx_flat r))
theorem RpX.fsts : ∀ {xs : List NEnt} {kvs : List (List Key × D)}, RpX K I n xs kvs → xs.map (·.1) = kvs.map fun x => flatK x.1
  | _, _, .nil => rfl
  | _, _, .cons a b r => by rw [List.map_cons, List.map_cons, RpX.fsts r]
theorem RpX.ext (x : Ext I J) : ∀ {xs : List NEnt} {kvs : List (List Key × D)}, RpX K I n xs kvs → RpX K J n xs kvs
  | _, _, .nil => .nil
  | _, _, .cons a b r => .cons (a.ext x) (b.ext x) (RpX.ext x r)
theorem RpX.len : ∀ {kv : List NEnt} {kd : List (List Key × D)}, RpX K I n kv kd → kv.length = kd.length
  | _, _, .nil => rfl
  | _, _, .cons _ _ r => congrArg (· + 1) (RpX.len r)
theorem RpX.val (k : List Key) : ∀ {kv : List NEnt} {kd : List (List Key × D)}, RpX K I n kv kd → RpO K I (atN kv (flatK k)) (valD kd k)
  | _, _, .nil => trivial
  | _, (k1, d) :: kd, .cons (b := b) _ a r => by
    have ih := RpX.val k r
    rw [valD_cons]
    unfold atN at ih ⊢
    rw [List.find?_cons]
    by_cases e : k1 = k
    · subst e; rw [decide_eq_true rfl, if_pos rfl]; exact a
    · have e2 : ¬ flatK k1 = flatK k := fun z => e (flatK_inj z)
      rw [decide_eq_false e2, if_neg e]; exact ih
theorem RpX.anyB (k : List Key) : ∀ {kv : List NEnt} {kd : List (List Key × D)}, RpX K I n kv kd → (kv.any fun x => decide (x.1 = flatK k)) = (kd.any fun x => decide (x.1 = k))
  | _, _, .nil => rfl
  | _, (k1, d) :: kd, .cons _ _ r => by
    rw [List.any_cons, List.any_cons, RpX.anyB k r]
    by_cases e : k1 = k
    · subst e; rw [decide_eq_true rfl, decide_eq_true rfl]
    · have e2 : ¬ flatK k1 = flatK k := fun z => e (flatK_inj z)
      rw [decide_eq_false e2, decide_eq_false e]
theorem RpX.snoc {k : List Key} {b : Addr} {v : V} {d : D} (nk : Rp K I (.ref b) (keyX n k)) (h : Rp K I v d) : ∀ {kv : List NEnt} {kd : List (List Key × D)}, RpX K I n kv kd → RpX K I n (kv ++ [(flatK k, b, v)]) (kd ++ [(k, d)])
  | _, _, .nil => .cons nk h .nil
  | _, _, .cons a c r => .cons a c (RpX.snoc nk h r)
theorem RpX.repl {k : List Key} {v : V} {d : D} (h : Rp K I v d) : ∀ {kv : List NEnt} {kd : List (List Key × D)}, RpX K I n kv kd → RpX K I n (kv.map fun p => if p.1 = flatK k then (p.1, p.2.1, v) else p) (kd.map fun p => if p.1 = k then (p.1, d) else p)
  | _, _, .nil => .nil
  | _, (k1, e) :: kd, .cons a c r => by
    rw [List.map_cons, List.map_cons]
    by_cases q : k1 = k
    · subst q; rw [if_pos rfl, if_pos rfl]; exact .cons a h (RpX.repl h r)
    · have e2 : ¬ flatK k1 = flatK k := fun z => q (flatK_inj z)
      rw [if_neg e2, if_neg q]; exact .cons a c (RpX.repl h r)
theorem RpX.put {k : List Key} {b : Addr} {v : V} {d : D} {kv : List NEnt} {kd : List (List Key × D)} (r : RpX K I n kv kd) (nk : Rp K I (.ref b) (keyX n k)) (h : Rp K I v d) : RpX K I n (putN kv (flatK k) b v) (putKD kd k d) := by
  unfold putN putKD
  rw [r.anyB]
  split
  · exact RpX.repl h r
  · exact RpX.snoc nk h r
theorem RpX.keys : ∀ {kv : List NEnt} {kd : List (List Key × D)}, RpX K I n kv kd → ∀ x ∈ kv, ∃ k : List Key, x.1 = flatK k ∧ SqT K I x.2.1 (k.map kV)
  | _, _, .nil, _, h => nomatch h
  | _, _, .cons a _ r, x, h => by
    rcases List.mem_cons.mp h with rfl | h
    · obtain ⟨b, e, s⟩ := keyX_sq a
      cases e
      exact ⟨_, rfl, s⟩
    · exact RpX.keys r x h
theorem xrep {w : World} {a : Addr} {xs : List NEnt} {kvs : List (List Key × D)} (h : H a = some (NDO w a xs)) (r : RpX K I n xs kvs) : MRep K I M H a (dX w n kvs) := by
  refine ⟨flatE xs, ?_, rpx_flat r, fun p hp => nomatch hp⟩
  rw [h]
  refine congrArg some ?_
  show HO.ext (fun h => NDict w h a xs) = HO.ext (fun h => NDict w h a (entsOf (kvs.map fun x => flatK x.1) (flatE xs)))
  rw [← r.fsts, ents_flat]
theorem xrep_inv {w : World} {a : Addr} {kvs : List (List Key × D)} (h : MRep K I M H a (dX w n kvs)) : ∃ xs, H a = some (NDO w a xs) ∧ RpX K I n xs kvs := by
  obtain ⟨vs, h1, h2, _⟩ := h
  obtain ⟨xs, rfl, e, r⟩ := rpx_of h2
  refine ⟨xs, ?_, r⟩
  rw [h1]
  refine congrArg some ?_
  show HO.ext (fun h => NDict w h a (entsOf (kvs.map fun x => flatK x.1) (flatE xs))) = HO.ext (fun h => NDict w h a xs)
  rw [← e, ents_flat]
theorem ndx_at (A : At K F I M H) {p : Addr} {w : World} {kvs} (h : M p = some (dX w n kvs)) : ∃ xs, NDX K w H p xs ∧ RpX K I n xs kvs := by
  obtain ⟨_, h0⟩ := A.mem _ _ h
  obtain ⟨xs, h1, h2⟩ := xrep_inv h0
  refine ⟨xs, ⟨h1, fun x hx => ?_⟩, h2⟩
  obtain ⟨k, e1, e2⟩ := h2.keys x hx
  exact ⟨k, e1, A.sqT e2⟩
end
section
variable {X : Cx} {Δ : DC} {o i value : Expr} {da db de : DE} {pos pos' : Pos} {td ty tv : TE}
def rdXIn (w : World) (neg : Bool) : RD2 := fun y x M Q => ∃ p n kvs k, x = .ref p ∧ M p = some (dX w n kvs) ∧ xkey y = some k ∧ Q (.bl (if neg then !(valD kvs k).isSome else (valD kvs k).isSome)) M
theorem snd_xin {neg : Bool} : SndR X (rXIn X.K X.w neg) (rdXIn X.w neg) := by
  rintro Δ I M H σ env G y x dy dx ry rx Q Qd kk ⟨p, n, kvs, k, ep, hm, hk, q⟩
  subst ep
  rw [rx.ref_inv]
  obtain ⟨xs, nx, rr⟩ := ndx_at G.at_ hm
  obtain ⟨b, rfl, nb, _⟩ := xkey_of ry hk
  refine ⟨p, b, xs, k, rfl, rfl, nx, G.at_.sqT nb, ?_⟩
  rw [(rr.val k).some_eq]
  exact kk _ _ _ _ _ (Ext.refl I) G (.bl _) q
def dXGet (w : World) (da db : DE) : DE := fun env M Q => da env M fun x M1 => db env M1 fun y M2 => ∃ p n kvs k d, x = .ref p ∧ M2 p = some (dX w n kvs) ∧ xkey y = some k ∧ valD kvs k = some d ∧ Q d M2
theorem pd_xget (hu : X.A.units + 10 < cLine) (ho : PDe X Δ o td da) (hi : PDe X Δ i ty db) (hs : NoSl i := by exact fun _ _ => rfl) : PDe X Δ (.Subscript o i pos) (tXGet X.K X.w td ty) (dXGet X.w da db) :=
  ⟨pe_xget hu ho.1 hi.1 hs, fun I M H σ env G Q Qd kk q => ho.2 I M H σ env G _ _ (fun d1 M1 I1 H1 v1 x1 G1 r1 q1 => hi.2 I1 M1 H1 σ env G1 _ _ (fun d2 M2 I2 H2 v2 x2 G2 r2 ⟨p, n, kvs, k, d, ep, hm, hk, hv, q2⟩ => by
    subst ep
    have e1 := (r1.ext x2).ref_inv
    subst e1
    obtain ⟨xs, nx, rr⟩ := ndx_at G2.at_ hm
    obtain ⟨b, rfl, nb, _⟩ := xkey_of r2 hk
    have rv := rr.val k
    rw [hv] at rv
    cases ev : atN xs (flatK k) with
    | none => rw [ev] at rv; exact rv.elim
    | some v =>
      rw [ev] at rv
      exact ⟨p, b, xs, k, v, rfl, rfl, nx, G2.at_.sqT nb, ev, kk _ _ _ _ _ (x1.trans x2) G2 rv q2⟩) q1) q⟩
def kOk (n : Bool) (d : D) (k : List Key) : Prop := if n then d = .ntup (k.map kD) else xkey d = some k
theorem kOk_rp {K : PySem.W.Frag} {I : Hp} {v : V} {d : D} {n : Bool} {k : List Key} (r : Rp K I v d) (h : kOk n d k) : ∃ b, v = .ref b ∧ SqT K I b (k.map kV) ∧ Rp K I (.ref b) (keyX n k) := by
  unfold kOk at h
  cases n with
  | false =>
    obtain ⟨b, e, s, r1⟩ := xkey_of r h
    exact ⟨b, e, s, r1⟩
  | true =>
    have e : d = keyX true k := h
    subst e
    obtain ⟨b, rfl, s⟩ := keyX_sq r
    exact ⟨b, rfl, s, r⟩
def dXPut (w : World) (da db dv : DE) : DS := fun T env M => dv env M fun v M1 => da env M1 fun x M2 => db env M2 fun y M3 => ∃ p n kvs k, x = .ref p ∧ M3 p = some (dX w n kvs) ∧ kOk n y k ∧ kvs.length < sizeLine ∧ T.nx env (mset M3 p (dX w n (putKD kvs k v)))
theorem pds_xput (hu : X.A.units + 10 < cLine) (ho : PDe X Δ o td da) (hi : PDe X Δ i ty db) (hv : PDe X Δ value tv de) (hs : swapsWith value (some (.Subscript o i pos')) pos.line X.env = pure false := by rfl) :
    PDs X Δ (.Assign [.Subscript o i pos'] value pos) (sXPut X.K X.w td ty tv) (dXPut X.w da db de) :=
  ⟨ps_xput hu ho.1 hi.1 hv.1 hs, fun I M H σ env G T Td R q => hv.2 I M H σ env G _ _ (fun d1 M1 I1 H1 v1 x1 G1 r1 q1 => ho.2 I1 M1 H1 σ env G1 _ _ (fun d2 M2 I2 H2 v2 x2 G2 r2 q2 => hi.2 I2 M2 H2 σ env G2 _ _ (fun d3 M3 I3 H3 v3 x3 G3 r3 ⟨p, n, kvs, k, e2, hm, hk, hl, q3⟩ => by
    subst e2
    have e3 := (r2.ext x3).ref_inv
    subst e3
    have r1' := (r1.ext x2).ext x3
    obtain ⟨xs, nx, rr⟩ := ndx_at G3.at_ hm
    obtain ⟨b, rfl, nb, rb⟩ := kOk_rp r3 hk
    refine ⟨p, b, xs, k, rfl, rfl, nx, G3.at_.sqT nb, by rw [rr.len]; exact hl, R.nx _ _ _ _ _ ((x1.trans x2).trans x3) ?_ q3⟩
    exact G3.go (Ext.refl _) (G3.at_.write hm (by intro z w; cases w) (xrep upd_same (rr.put rb r1')))) q2) q1) q⟩
def dXNew (w : World) (n : Bool) : DE := fun _ M Q => ∀ p, M p = none → Q (.ref p) (mset M p (dX w n []))
theorem pd_xnew {n : Bool} : PDe X Δ (.Dict [] [] pos) (tNewJ X.w) (dXNew X.w n) :=
  ⟨pe_newJ, fun I M H σ env G Q Qd kk q => fun p hp => by
    have G0 := G.newM hp (NDO X.w p []) (dX X.w n []) (xrep upd_same .nil)
    exact kk _ _ _ _ _ (Ext.refl I) G0 (.ref p) (q p (G.at_.freeM hp))⟩
end
section
variable {w : World} {da db de : DE} {env : Env} {M : Mem} {Q : DKt}
theorem i_xnotin {p : Addr} {n : Bool} {kvs : List (List Key × D)} {k : List Key} {y : D} (h1 : M p = some (dX w n kvs)) (h2 : xkey y = some k) (q : Q (.bl (!(valD kvs k).isSome)) M) : rdXIn w true y (.ref p) M Q := ⟨p, n, kvs, k, rfl, h1, h2, q⟩
theorem i_xget (q : da env M fun x M1 => db env M1 fun y M2 => ∃ p n kvs k d, x = .ref p ∧ M2 p = some (dX w n kvs) ∧ xkey y = some k ∧ valD kvs k = some d ∧ Q d M2) : dXGet w da db env M Q := q
theorem i_xput {T : EndsD} (q : de env M fun v M1 => da env M1 fun x M2 => db env M2 fun y M3 => ∃ p n kvs k, x = .ref p ∧ M3 p = some (dX w n kvs) ∧ kOk n y k ∧ kvs.length < sizeLine ∧ T.nx env (mset M3 p (dX w n (putKD kvs k v)))) : dXPut w da db de T env M := q
end
end BB
set_option maxHeartbeats 4000000
namespace BB
open L2 PySem PySem.Spec PyProof.Rows
def lamOfS : Stmt → Expr
  | .Return (some e) _ => e
  | _ => .Name "" ⟨0, 0, 0, 0⟩
def lamArgs (s : Stmt) : Arguments := match lamOfS s with
  | .Lambda a _ _ _ => a
  | _ => defArgs s
def lamBody (s : Stmt) : Expr := match lamOfS s with
  | .Lambda _ b _ _ => b
  | e => e
def lamScope (s : Stmt) : Scope := match lamOfS s with
  | .Lambda _ _ c _ => c
  | _ => defScope s
def ct__law_maker_lam : CT := ⟨"<lambda>", "_law_maker.<locals>.<lambda>", lamArgs ((defBody (top 35)).getD 0 (.Pass ⟨0, 0, 0, 0⟩)), .expr (lamBody ((defBody (top 35)).getD 0 (.Pass ⟨0, 0, 0, 0⟩))), lamScope ((defBody (top 35)).getD 0 (.Pass ⟨0, 0, 0, 0⟩)), ["_law_calls", "_law_hidden_here"]⟩
end BB
set_option maxHeartbeats 4000000
namespace BB
open L2 PySem PySem.Spec PyProof.Rows
def spN1 (p : D → Mem → DKt → DX → Prop) : SpD := fun ds M Q E => ∃ a, ds = [a] ∧ p a M Q E
def spN2 (p : D → D → Mem → DKt → DX → Prop) : SpD := fun ds M Q E => ∃ a b, ds = [a, b] ∧ p a b M Q E
def spN3 (p : D → D → D → Mem → DKt → DX → Prop) : SpD := fun ds M Q E => ∃ a b c, ds = [a, b, c] ∧ p a b c M Q E
def spN4 (p : D → D → D → D → Mem → DKt → DX → Prop) : SpD := fun ds M Q E => ∃ a b c d, ds = [a, b, c, d] ∧ p a b c d M Q E
theorem len1 {p} : ∀ ds M Q E, spN1 p ds M Q E → ds.length = 1 := by rintro _ _ _ _ ⟨_, rfl, _⟩; rfl
theorem len2 {p} : ∀ ds M Q E, spN2 p ds M Q E → ds.length = 2 := by rintro _ _ _ _ ⟨_, _, rfl, _⟩; rfl
theorem len3 {p} : ∀ ds M Q E, spN3 p ds M Q E → ds.length = 3 := by rintro _ _ _ _ ⟨_, _, _, rfl, _⟩; rfl
theorem len4 {p} : ∀ ds M Q E, spN4 p ds M Q E → ds.length = 4 := by rintro _ _ _ _ ⟨_, _, _, _, rfl, _⟩; rfl
def wd (E : DX) : DW := fun c fs _ M' => FzV (fun _ M'' => E c fs M'') .non M'
theorem hu65_of {k : Nat} {A : Around} (h : Room k A) : A.units + 65 < cLine := by have := h.un; omega
theorem hu1_of {k : Nat} {A : Around} (h : Room k A) : A.units + 1 < cLine := by have := h.un; omega
theorem hu_of {k : Nat} {A : Around} (h : Room k A) : A.units + 64 < cLine := by have := h.un; omega
def sp__law_draw (K : PySem.W.Frag) : SpD := spN2 fun s n M Q E => ∃ a c m, s = .ref a ∧ M a = some (.gen c) ∧ n = .int m ∧ 0 < m ∧ m < 1073741824 ∧ ∀ r : Int, 0 ≤ r → r < m → Q (.int r) M
def SMALLS : Str := "abcdefghijklmnopqrstuvwxyz"
def isNameB (z : Str) : Bool := decide (1 ≤ z.length) && (decide (z.length ≤ 6) && z.cps.toList.all fun c => decide (c ∈ SMALLS.cps.toList))
def isNames (zs : List Str) (lo hi : Nat) : Prop := (∀ z ∈ zs, isNameB z = true) ∧ zs.Pairwise (fun x y => ltS x y = true) ∧ lo ≤ zs.length ∧ zs.length ≤ hi
def sp__law_names (K : PySem.W.Frag) : SpD := spN2 fun s n M Q E => ∃ a c m, s = .ref a ∧ M a = some (.gen c) ∧ n = .int m ∧ 1 ≤ m ∧ m ≤ 8 ∧ ∀ zs, isNames zs m.toNat m.toNat → Q (.ntup (zs.map .str)) M
abbrev Door := Option (Str × Nat)
def doorD : Door → D
  | none => .non
  | some (s, n) => .tup [.str s, .int n]
structure Pl where
  letters : List Str
  signs : List Str
  rooms : List (List Door)
structure Pl.Ok (p : Pl) : Prop where
  ls : isNames p.letters 1 4
  ss : isNames p.signs 2 4
  lo : 1 ≤ p.rooms.length
  hi : p.rooms.length ≤ 36
  row : ∀ r ∈ p.rooms, r.length = p.letters.length
  door : ∀ r ∈ p.rooms, ∀ s n, some (s, n) ∈ r → s ∈ p.signs ∧ n < p.rooms.length
def namesD (zs : List Str) : D := .ntup (zs.map .str)
def rowsD' (rs : List (List Door)) : D := .tup (rs.map fun r => .tup (r.map doorD))
def partsD (p : Pl) : D := .tup [namesD p.letters, namesD p.signs, rowsD' p.rooms]
def planD (K : PySem.W.Frag) (p : Pl) : D := .ins (He.ga K "Plan") [("own_letters", namesD p.letters), ("own_signs", namesD p.signs), ("own_rooms", rowsD' p.rooms)]
def Pl.door' (p : Pl) (room : Nat) (z : Str) : Door := ((p.rooms[room]?).getD [])[ixOf z p.letters]?.getD none
def sp_is_name (K : PySem.W.Frag) : SpD := spN1 fun d M Q E => ∃ z, d = .str z ∧ z.length ≤ sizeLine ∧ Q (.bl (isNameB z)) M
def sp_is_count (K : PySem.W.Frag) : SpD := spN1 fun d M Q E => ∃ i, d = .int i ∧ Q (.bl (decide (0 ≤ i))) M
def sp_are_names (K : PySem.W.Frag) : SpD := spN3 fun d l h M Q E => ∃ zs lo hi, d = namesD zs ∧ l = .int (lo : Nat) ∧ h = .int (hi : Nat) ∧ hi ≤ 1000 ∧ isNames zs lo hi ∧ Q (.bl true) M
def sp_is_door (K : PySem.W.Frag) : SpD := spN3 fun d s n M Q E => ∃ (dr : Door) (ss : List Str) (many : Nat), d = doorD dr ∧ s = namesD ss ∧ n = .int many ∧ (∀ x y, dr = some (x, y) → x.length ≤ sizeLine ∧ x ∈ ss ∧ y < many) ∧ Q (.bl true) M
def sp_are_rooms (K : PySem.W.Frag) : SpD := spN3 fun d l s M Q E => ∃ p : Pl, p.Ok ∧ d = rowsD' p.rooms ∧ l = namesD p.letters ∧ s = namesD p.signs ∧ Q (.bl true) M
def sp_Plan___init__ (K : PySem.W.Frag) : SpD := spN4 fun o l s r M Q E => ∃ (p : Pl) (a : Addr), p.Ok ∧ o = .ref a ∧ M a = some (.ins (He.ga K "Plan") []) ∧ l = namesD p.letters ∧ s = namesD p.signs ∧ r = rowsD' p.rooms ∧
  Q .non (mset M a (.ins (He.ga K "Plan") [("own_letters", namesD p.letters), ("own_signs", namesD p.signs), ("own_rooms", rowsD' p.rooms)]))
def sp_Plan_letters (K : PySem.W.Frag) : SpD := spN1 fun o M Q E => ∃ p, o = planD K p ∧ Q (namesD p.letters) M
def Pl.stop (p : Pl) : List Str → Nat → Option Nat
  | [], _ => none
  | z :: ws, r => match p.door' r z with
    | none => some 0
    | some (_, n) => (p.stop ws n).map (· + 1)
end BB
set_option maxHeartbeats 4000000
namespace BB
open L2 PySem PySem.Spec PyProof.Rows
def Tidy (M : Mem) : Prop := ∀ d p, M d = some (.own p) → M p ≠ none
def Pl.fullB (p : Pl) : Bool := p.rooms.all fun r => r.all Option.isSome
def keyW (w : List Str) : List Key := w.map Sum.inr
def sp__law_begin (K : PySem.W.Frag) : SpD := spN1 fun d M Q E => ∃ xs : List Int, d = .frz (xs.map .int) ∧ xs.length ≤ 63 ∧ ∀ a c, M a = none → M c = none → a ≠ c → Q (.ref a) (mset (mset M c (.own a)) a (.gen c))
def sp__law_pick (K : PySem.W.Frag) : SpD := spN2 fun s x M Q E => ∃ (a c : Addr), s = .ref a ∧ M a = some (.gen c) ∧
  ((∃ ds : List D, seqOf M (nrm x) = some ds ∧ 1 ≤ ds.length ∧ ds.length ≤ 1000 ∧ ∀ d ∈ ds, Q d M) ∨ ∃ z : Str, x = .str z ∧ 1 ≤ z.length ∧ z.length ≤ 1000 ∧ ∀ c ∈ z.cps.toList, Q (.str ⟨#[c]⟩) M)
def sp__law_parts (K : PySem.W.Frag) : SpD := spN4 fun s n l t M Q E => ∃ (a c : Addr) (m lm sh : Int), s = .ref a ∧ M a = some (.gen c) ∧ n = .int m ∧ l = .int lm ∧ t = .int sh ∧ 1 ≤ m ∧ m ≤ 36 ∧ 1 ≤ lm ∧ lm ≤ 4 ∧ 0 ≤ sh ∧ sh < 1000 ∧
  ∀ p : Pl, p.Ok → (p.rooms.length : Int) ≤ m → (p.letters.length : Int) = lm → p.signs.length ≤ 3 → (sh = 0 → p.fullB = true) → Q (partsD p) M
structure Hid (p h : Pl) : Prop where
  ok : h.Ok
  full : h.fullB = true
  ls : h.letters = p.letters
  ss : h.signs = p.signs
def sp__law_hidden (K : PySem.W.Frag) : SpD := spN3 fun s o n M Q E => ∃ (a c : Addr) (p : Pl) (m : Int), s = .ref a ∧ M a = some (.gen c) ∧ p.Ok ∧ o = partsD p ∧ n = .int m ∧ 1 ≤ m ∧ m ≤ 36 ∧ ∀ h : Pl, Hid p h → (h.rooms.length : Int) ≤ m → Q (partsD h) M
def Pl.tellS (p : Pl) : List Str → Nat → List Str
  | [], _ => []
  | z :: w, r => match p.door' r z with
    | some (s, n) => s :: p.tellS w n
    | none => []
def WordP (p : Pl) (w : List Str) : Prop := ∀ z ∈ w, z ∈ p.letters
def askF (K : PySem.W.Frag) (p : Pl) (f d r : Addr) : List (Str × D) := [("model", planD K p), ("answers_by", .ref f), ("last_told", .ref d), ("rows", .ref r)]
structure ToldTo (kv : List (List Key × D)) (w ss : List Str) : Prop where
  len : ss.length ≤ w.length
  at_ : ∀ (j : Nat) (s : Str), ss[j]? = some s → valD kv (keyW (w.take (j + 1))) = some (.str s)
  stop : ss.length = w.length ∨ valD kv (keyW (w.take (ss.length + 1))) = none
def KvOk (kv : List (List Key × D)) : Prop := ∀ k d, valD kv k = some d → ∃ s, d = .str s ∧ PyData.strOk s = true
structure PutTo (kv : List (List Key × D)) (w gs : List Str) (kv' : List (List Key × D)) : Prop where
  at_ : ∀ (j : Nat) (s : Str), gs[j]? = some s → valD kv' (keyW (w.take (j + 1))) = some (.str s)
  old : ∀ k, (∀ j < gs.length, k ≠ keyW (w.take (j + 1))) → valD kv' k = valD kv k
  len : kv'.length ≤ kv.length + gs.length
def Begun (rows : List (List Str)) (w : List Str) : Prop := w = [] ∨ ∃ r ∈ rows, r.take w.length = w
def sp_Plan_signs (K : PySem.W.Frag) : SpD := spN1 fun o M Q E => ∃ p, o = planD K p ∧ Q (namesD p.signs) M
end BB
set_option maxHeartbeats 4000000
namespace BB
open L2 PySem PySem.Spec PyProof.Rows
def wdT (w : List Str) : D := .tup (w.map .str)
theorem wdT_key (w : List Str) : xkey (wdT w) = some (keyW w) := by
  show skeys (w.map .str) = _
  induction w with
  | nil => rfl
  | cons z w ih => rw [List.map_cons, skeys, ih]; rfl
def NoStr (d : D) : Prop := ∃ T, (∀ M, tyD M d = some T) ∧ kitB T "str" = some false
def ElOk (d : D) : Prop := (∃ z, d = .str z) ∨ NoStr d
def NoTupM (M : Mem) (d : D) : Prop := ∃ T, tyD M d = some T ∧ kitB T "tuple" = some false
def Thing (M : Mem) (d : D) : Prop := NoTupM M d ∨ ∃ ds, d = .tup ds ∧ ds.length ≤ 500 ∧ ∀ x ∈ ds, ElOk x
def isLt (p : Pl) : D → Bool
  | .str z => decide (z ∈ p.letters)
  | _ => false
def badAt (p : Pl) : Nat → Nat → List D → Option Nat
  | _, 0, _ => none
  | _, _, [] => none
  | i, n + 1, d :: ds => if isLt p d = true then badAt p (i + 1) n ds else some i
def placeL (p : Pl) (ds : List D) : Option Nat := match badAt p 0 60 ds with
  | some i => some i
  | none => if 60 < ds.length then some 60 else none
def placeD (p : Pl) : D → Option Nat
  | .tup ds => placeL p ds
  | _ => some 0
def optN : Option Nat → D
  | none => .non
  | some n => .int (n : Nat)
def sp__law_place (K : PySem.W.Frag) : SpD := spN2 fun o u M Q E => ∃ p : Pl, p.Ok ∧ o = partsD p ∧ Thing M u ∧ Q (optN (placeD p u)) M
def sp__law_thing (K : PySem.W.Frag) : SpD := spN2 fun s o M Q E => ∃ (a c : Addr) (p : Pl), s = .ref a ∧ M a = some (.gen c) ∧ p.Ok ∧ p.letters.length ≤ 4 ∧ o = partsD p ∧ ∀ d, (∀ M', Thing M' d) → (∀ b, d ≠ .ref b) → Q d M
def sp__law_along (K : PySem.W.Frag) : SpD := spN2 fun o u M Q E => ∃ (p : Pl) (w : List Str), p.Ok ∧ o = partsD p ∧ u = wdT w ∧ WordP p w ∧ w.length ≤ 200 ∧ Q (.lst ((p.tellS w 0).map .str)) M
def sp__law_noted (K : PySem.W.Frag) : SpD := spN3 fun o c u M Q E => ∃ (h : Pl) (q : Addr) (rows : List D) (w : List Str), h.Ok ∧ o = partsD h ∧ c = .ref q ∧ M q = some (.lst rows) ∧ rows.length ≤ 100000 ∧ u = wdT w ∧ WordP h w ∧ w.length ≤ 200 ∧ Q (.tup ((h.tellS w 0).map .str)) (mset M q (.lst (rows ++ [wdT w])))
def spc__law_maker_lam (K : PySem.W.Frag) : SpC := fun cds ds M Q E => ∃ (h : Pl) (q : Addr) (rows : List D) (w : List Str), cds = [.ref q, partsD h] ∧ ds = [wdT w] ∧ h.Ok ∧ M q = some (.lst rows) ∧ rows.length ≤ 100000 ∧ WordP h w ∧ w.length ≤ 200 ∧ Q (.tup ((h.tellS w 0).map .str)) (mset M q (.lst (rows ++ [wdT w])))
theorem lenc__law_maker_lam {K : PySem.W.Frag} : ∀ cds ds M Q E, spc__law_maker_lam K cds ds M Q E → ds.length = 1 := by rintro _ _ _ _ _ ⟨_, _, _, _, _, rfl, _⟩; rfl
def sp__law_maker (K : PySem.W.Frag) : SpD := spN2 fun o c M Q E => M (tabF K "_law_maker") = some (.tab ct__law_maker_lam.qual) ∧ ∀ (f : Addr) (cl : List (Str × Addr)) (cc : Addr) (cs : List Addr), M f = none → CloWf ct__law_maker_lam.fr cl cs → f ∉ cs → (∀ x ∈ cs, M x = none) → cs.length = 2 → Q (.ref f) (addM cs [c, o] (mset M f (cloM ct__law_maker_lam cl cc)))
def Cs (K : PySem.W.Frag) : List (CT × SpC) := [(ct__law_maker_lam, spc__law_maker_lam K)]
def CallsC (K : PySem.W.Frag) (f : Addr) (us : List D) (M : Mem) (Q : DKt) (E : DX) : Prop := ∃ (p : CT × SpC) (cl : List (Str × Addr)) (c : Addr), p ∈ Cs K ∧ M f = some (cloM p.1 cl c) ∧
  ∃ (cs : List Addr) (cds : List D) (M0 : Mem), CloWf p.1.fr cl cs ∧ cs.length = cds.length ∧ M = addM cs cds M0 ∧ (∀ x ∈ cs, M0 x = none) ∧ p.2 cds us M0 (fun d M' => Q d (addM cs cds M')) fun e fs M' => E e fs (addM cs cds M')
structure AskAt (K : PySem.W.Frag) (W : World) (M : Mem) (o : Addr) (p : Pl) (f d r : Addr) (kv : List (List Key × D)) (rows : List D) : Prop where
  ob : M o = some (.ins (He.ga K "Asker") (askF K p f d r))
  dd : M d = some (dX W false kv)
  rr : M r = some (.lst rows)
  ok : p.Ok
  kl : kv.length ≤ 100000
  rl : rows.length ≤ 100000
def sp_Asker___init__ (K : PySem.W.Frag) (W : World) : SpD := spN3 fun o u b M Q E => ∃ (p : Pl) (a f : Addr), p.Ok ∧ o = .ref a ∧ M a = some (.ins (He.ga K "Asker") []) ∧ u = planD K p ∧ b = .ref f ∧
  ∀ d r, M d = none → M r = none → d ≠ r → Q .non (mset (mset (mset M d (dX W false [])) r (.lst [])) a (.ins (He.ga K "Asker") (askF K p f d r)))
def sp_Asker_signs_told (K : PySem.W.Frag) (W : World) : SpD := spN2 fun o u M Q E => ∃ (a : Addr) (p : Pl) (f d r : Addr) (kv : List (List Key × D)) (rows : List D) (w : List Str), o = .ref a ∧ AskAt K W M a p f d r kv rows ∧ KvOk kv ∧ u = wdT w ∧ w.length ≤ 1000 ∧ ∀ ss, ToldTo kv w ss → Q (.lst (ss.map .str)) M
def sp_Asker_known (K : PySem.W.Frag) (W : World) : SpD := spN2 fun o u M Q E => ∃ (a : Addr) (p : Pl) (f d r : Addr) (kv : List (List Key × D)) (rows : List D), o = .ref a ∧ AskAt K W M a p f d r kv rows ∧ KvOk kv ∧ Thing M u ∧ ((∀ w, u ≠ wdT w) → Q .non M) ∧
  ∀ w, u = wdT w → ∀ ss, ToldTo kv w ss → (ss.length = w.length → Q (.tup (ss.map .str)) M) ∧ (ss.length < w.length → Q .non M)
def sp_need_letters (K : PySem.W.Frag) : SpD := spN2 fun u l M Q E => ∃ p : Pl, p.Ok ∧ Thing M u ∧ l = namesD p.letters ∧ (∀ n, placeD p u = some n → E (.ref (He.ga K "NoWord")) [("at", .int (n : Nat))] M) ∧ (placeD p u = none → Q .non M)
def sp_Asker_is_answer (K : PySem.W.Frag) (W : World) : SpD := spN3 fun o u g M Q E => ∃ (a : Addr) (p : Pl) (f d r : Addr) (kv : List (List Key × D)) (rows : List D) (w gs ss : List Str), o = .ref a ∧ AskAt K W M a p f d r kv rows ∧ KvOk kv ∧ u = wdT w ∧ w.length ≤ 1000 ∧ g = .tup (gs.map .str) ∧ gs.length = w.length ∧ (∀ s ∈ gs, s ∈ p.signs) ∧ ToldTo kv w ss ∧ ss = gs.take ss.length ∧ Q (.bl true) M
def sp_Asker_ask (K : PySem.W.Frag) (W : World) : SpD := spN2 fun o u M Q E => ∃ (a : Addr) (p : Pl) (f d r : Addr) (kv : List (List Key × D)) (rows : List D), o = .ref a ∧ AskAt K W M a p f d r kv rows ∧ KvOk kv ∧ Thing M u ∧ (∀ n, placeD p u = some n → E (.ref (He.ga K "NoWord")) [("at", .int (n : Nat))] M) ∧
  (placeD p u = none → ∀ w, u = wdT w → WordP p w → w.length ≤ 60 → ∀ ss, ToldTo kv w ss → (ss.length = w.length → Q (.tup (ss.map .str)) M) ∧
  (ss.length < w.length → CallsC K f [wdT w] M (fun g M1 => AskAt K W M1 a p f d r kv rows ∧ kv.length ≤ 90000 ∧ rows.length ≤ 90000 ∧ ∃ gs : List Str, g = .tup (gs.map .str) ∧ gs.length = w.length ∧ (∀ s ∈ gs, s ∈ p.signs) ∧ ss = gs.take ss.length ∧
    ∀ kv', PutTo kv w gs kv' → Q g (mset (mset M1 d (dX W false kv')) r (.lst (rows ++ [wdT w])))) fun e fs M' => FzV (fun _ M'' => E e fs M'') .non M'))
structure XNw (K : PySem.W.Frag) : Prop where
  xq : ExcQ K (He.ga K "NoWord")
  xf : XfC K (He.ga K "NoWord")
  na : PySem.W.findIn K (.ref (He.ga K "NoWord")) "at" = some none
  box : PySem.W.exmOne K (.ref (He.ga K "NoWord")) (.ref (He.ga K "BoxError")) = some true
  ve : PySem.W.kitOne K (.ref (He.ga K "NoWord")) (.type "ValueError") = some true
  no : ∀ c ∈ [He.ga K "BadBox", He.ga K "NoMany", He.ga K "NoPair", He.ga K "NoPlan", He.ga K "TooMany"], PySem.W.kitOne K (.ref (He.ga K "NoWord")) (.ref c) = some false
  me : PySem.W.kitOne K (.ref (He.ga K "NoWord")) (.ref (He.ga K "NoWord")) = some true
def sp__law_refused (K : PySem.W.Frag) (W : World) : SpD := spN2 fun o u M Q E => ∃ a : Addr, o = .ref a ∧ XNw K ∧ (∀ b, u ≠ .ref b) ∧ sp_Asker_ask K W [.ref a, u] M (fun g M1 => Q .non M1)
  (fun e fs M1 => e = .ref (He.ga K "NoWord") ∧ ∃ n : Nat, fs = ([("at", .int (n : Nat))] : List (Str × D)) ∧ Q (.int (n : Nat)) M1)
structure Adr where
  q : Addr
  f : Addr
  o : Addr
  d : Addr
  r : Addr
structure Seat (K : PySem.W.Frag) (W : World) (M : Mem) (h p : Pl) (A : Adr) (calls : List D) (kv : List (List Key × D)) (rows : List D) : Prop where
  hq : M A.q = some (.lst calls)
  hf : ∃ (cl : List (Str × Addr)) (c : Addr) (cs : List Addr), M A.f = some (cloM ct__law_maker_lam cl c) ∧ CloWf ct__law_maker_lam.fr cl cs ∧ cs.length = 2 ∧ ∀ (i : Nat) (c' : Addr) (d' : D), cs[i]? = some c' → [D.ref A.q, partsD h][i]? = some d' → M c' = some (celM d')
  ask : AskAt K W M A.o p A.f A.d A.r kv rows
  qr : A.q ≠ A.r
structure KvT (h : Pl) (kv : List (List Key × D)) : Prop where
  no : ∀ k d, valD kv k = some d → ∃ (w : List Str) (s : Str), k = keyW w ∧ w ≠ [] ∧ WordP h w ∧ w.length ≤ 60 ∧ (h.tellS w 0)[w.length - 1]? = some s ∧ d = .str s
def sp_law (K : PySem.W.Frag) : SpD := spN1 fun d M Q E => ∃ xs : List Int, d = .frz (xs.map .int) ∧ xs.length ≤ 63 ∧ (∀ b, b ≠ tabF K "_law_maker" → M b = none) ∧ M (tabF K "_law_maker") = some (.tab "_law_maker.<locals>.<lambda>") ∧ XNw K ∧ ∀ M', Q (.bl true) M'
end BB
set_option maxHeartbeats 4000000
namespace BB
open L2 PySem PySem.Spec PyProof.Rows
def rd__law_pick (K : PySem.W.Frag) (Wd : DW) : DS :=
  (dRet (dOp (rdO ixD) (dN (dVar 1)) (dCall Wd (sp__law_draw K) [] (dCons (dVar 0) (dCons (dCB (rd1 lenD) (dCons (dN (dVar 1)) (dNil))) (dNil))))))
def rd__law_names (K : PySem.W.Frag) (Wd : DW) : DS :=
  (dSeq (dSet 2 (dLst (dCons (dC (.str "a")) (dCons (dC (.str "b")) (dCons (dC (.str "ab")) (dCons (dC (.str "word")) (dCons (dC (.str "room")) (dCons (dC (.str "plan")) (dCons (dC (.str "point")) (dCons (dC (.str "clash")) (dCons (dC (.str "box")) (dCons (dC (.str "x")) (dCons (dC (.str "y")) (dCons (dC (.str "z")) (dCons (dC (.str "sign")) (dCons (dC (.str "letter")) (dNil)))))))))))))))))
  (dSeq (dSet 3 (dLstM (dNil)))
  (dSeq (dWhile (dTest (dOp (rdO (cmpD (fun i j => decide (i < j)) ltS)) (dN (dCB (rd1 lenD) (dCons (dN (dVar 3)) (dNil)))) (dN (dVar 1)))) (dSeq (dSet 4 (dCall Wd (sp__law_pick K) [] (dCons (dVar 0) (dCons (dVar 2) (dNil)))))
  (dSeq (dIfS (dTest (dOp (rdEq) (dN (dCall Wd (sp__law_draw K) [] (dCons (dVar 0) (dCons (dC (.int 3)) (dNil))))) (dN (dC (.int 0))))) (dSeq (dSet 5 (dC (.str "abcdefghijklmnopqrstuvwxyz")))
  (dSet 4 (dJoin (dC (.str "")) (dN (dLc (dRng1 (dCons (dN (dOp (rdO addD) (dN (dC (.int 1))) (dN (dCall Wd (sp__law_draw K) [] (dCons (dVar 0) (dCons (dC (.int 6)) (dNil))))))) (dNil))) (gdName 7) dYes (dCall noD (sp__law_pick K) [] (dCons (dVar 0) (dCons (dVar 5) (dNil)))) [7]))))) dNext)
  (dSeq (dSet 6 (dOp (rdO addD) (dN (dLst (dCons (dVar 4) (dNil)))) (dN (dLc (dSeqI (dN (dC (.str "abcdefghijklmnopqrstuvwxyz")))) (gdName 8) dYes (dOp (rdO addD) (dN (dSl (dN (dVar 4)) dNoPart (dPart (dC (.int 5))))) (dN (dVar 8))) [8]))))
  (dDrop (dApp (dVar 3) (dOp (rdO ixD) (dN (dLc (dSeqI (dN (dVar 6))) (gdName 9) (dTest (dOp (rdIn true) (dN (dVar 9)) (dN (dVar 3)))) (dVar 9) [9])) (dC (.int 0)))))))))
  (dRet (dCB (rdTupN) (dCons (dN (dCB (rdSortS) (dCons (dN (dVar 3)) (dNil)))) (dNil)))))))
def rd__law_parts (K : PySem.W.Frag) (Wd : DW) : DS :=
  (dSeq (dPar 4 5 (dCall Wd (sp__law_names K) [] (dCons (dVar 0) (dCons (dVar 2) (dNil)))) (dCall Wd (sp__law_names K) [] (dCons (dVar 0) (dCons (dOp (rdO addD) (dN (dC (.int 2))) (dN (dOp (rdO divD) (dN (dCall Wd (sp__law_draw K) [] (dCons (dVar 0) (dCons (dC (.int 4)) (dNil))))) (dN (dC (.int 3)))))) (dNil)))))
  (dSeq (dSet 6 (dOp (rdO addD) (dN (dC (.int 1))) (dN (dCall Wd (sp__law_draw K) [] (dCons (dVar 0) (dCons (dVar 1) (dNil)))))))
  (dSeq (dSet 7 (dLstM (dNil)))
  (dSeq (dFor (dRng1 (dCons (dN (dVar 6)) (dNil))) (gdName 8) (dSeq (dSet 9 (dLstM (dNil)))
  (dSeq (dFor (dRng1 (dCons (dN (dVar 2)) (dNil))) (gdName 10) (dSeq (dSet 11 (dTup (dCons (dOp (rdO ixD) (dN (dVar 5)) (dOp (rdO modD) (dN (dCall Wd (sp__law_draw K) [] (dCons (dVar 0) (dCons (dC (.int 5)) (dNil))))) (dN (dCB (rd1 lenD) (dCons (dN (dVar 5)) (dNil)))))) (dCons (dCall Wd (sp__law_pick K) [] (dCons (dVar 0) (dCons (dLst (dCons (dOp (rdO modD) (dN (dOp (rdO addD) (dN (dVar 8)) (dN (dC (.int 1))))) (dN (dVar 6))) (dCons (dCall Wd (sp__law_draw K) [] (dCons (dVar 0) (dCons (dVar 6) (dNil)))) (dNil)))) (dNil)))) (dNil)))))
  (dDrop (dApp (dVar 9) (dIf ((dAnd (dTest (dOp (rdO (intD fun i j => decide (i > j))) (dN (dVar 3)) (dN (dC (.int 0))))) (dTest (dOp (rdEq) (dN (dCall Wd (sp__law_draw K) [] (dCons (dVar 0) (dCons (dVar 3) (dNil))))) (dN (dC (.int 0))))))) (dC .non) (dVar 11))))))
  (dDrop (dApp (dVar 7) (dCB (rd1 tupD) (dCons (dN (dVar 9)) (dNil))))))))
  (dRet (dTup (dCons (dVar 4) (dCons (dVar 5) (dCons (dCB (rd1 tupD) (dCons (dN (dVar 7)) (dNil))) (dNil))))))))))
def rd__law_hidden (K : PySem.W.Frag) (Wd : DW) : DS :=
  (dSeq (dAsg (dN (dVar 1)) (gdTup 3 (gdCons (gdName 3) (gdCons (gdName 4) (gdCons (gdName 5) (gdNil))))))
  (dSeq (dSet 6 (dOp (rdO addD) (dN (dC (.int 1))) (dN (dCall Wd (sp__law_draw K) [] (dCons (dVar 0) (dCons (dVar 2) (dNil)))))))
  (dSeq (dIfS (dTest (dOp (rdEq) (dN (dCall Wd (sp__law_draw K) [] (dCons (dVar 0) (dCons (dC (.int 3)) (dNil))))) (dN (dC (.int 0))))) (dSet 6 (dCB (rdMin) (dCons (dN (dVar 6)) (dCons (dN (dCB (rd1 lenD) (dCons (dN (dVar 5)) (dNil)))) (dNil))))) dNext)
  (dSeq (dSet 7 (dLstM (dNil)))
  (dSeq (dFor (dRng1 (dCons (dN (dVar 6)) (dNil))) (gdName 8) (dSeq (dSet 9 (dLstM (dNil)))
  (dSeq (dFor (dRng1 (dCons (dN (dCB (rd1 lenD) (dCons (dN (dVar 3)) (dNil)))) (dNil))) (gdName 10) (dSeq (dSet 11 (dOp (rdO ixD) (dN (dOp (rdO ixD) (dN (dVar 5)) (dOp (rdO modD) (dN (dVar 8)) (dN (dCB (rd1 lenD) (dCons (dN (dVar 5)) (dNil))))))) (dVar 10)))
  (dSeq (dIfS ((dOr (dTest (dOp (rdO isD) (dN (dVar 11)) (dN (dC .non)))) (dTest (dOp (rdEq) (dN (dCall Wd (sp__law_draw K) [] (dCons (dVar 0) (dCons (dC (.int 6)) (dNil))))) (dN (dC (.int 0))))))) (dSet 11 (dTup (dCons (dCall Wd (sp__law_pick K) [] (dCons (dVar 0) (dCons (dVar 4) (dNil)))) (dCons (dCall Wd (sp__law_draw K) [] (dCons (dVar 0) (dCons (dVar 6) (dNil)))) (dNil))))) dNext)
  (dSeq (dSet 12 (dOp (rdO modD) (dN (dOp (rdO ixD) (dN (dVar 11)) (dC (.int 1)))) (dN (dVar 6))))
  (dSeq (dIfS ((dAnd (dTest (dOp (rdO (intD fun i j => decide (i > j))) (dN (dVar 6)) (dN (dCB (rd1 lenD) (dCons (dN (dVar 5)) (dNil)))))) (dAnd (dTest (dOp (rdO (cmpD (fun i j => decide (i < j)) ltS)) (dN (dOp (rdO addD) (dN (dVar 12)) (dN (dCB (rd1 lenD) (dCons (dN (dVar 5)) (dNil)))))) (dN (dVar 6)))) (dTest (dOp (rdEq) (dN (dCall Wd (sp__law_draw K) [] (dCons (dVar 0) (dCons (dC (.int 2)) (dNil))))) (dN (dC (.int 0)))))))) (dSet 12 (dOp (rdO addD) (dN (dVar 12)) (dN (dCB (rd1 lenD) (dCons (dN (dVar 5)) (dNil)))))) dNext)
  (dDrop (dApp (dVar 9) (dTup (dCons (dOp (rdO ixD) (dN (dVar 11)) (dC (.int 0))) (dCons (dVar 12) (dNil)))))))))))
  (dDrop (dApp (dVar 7) (dCB (rd1 tupD) (dCons (dN (dVar 9)) (dNil))))))))
  (dRet (dTup (dCons (dVar 3) (dCons (dVar 4) (dCons (dCB (rd1 tupD) (dCons (dN (dVar 7)) (dNil))) (dNil)))))))))))
def rd_Asker___init__ (K : PySem.W.Frag) (w_ : World) (Wd : DW) : DS :=
  (dSeq (dSetF (He.ga K "Asker") "model" (dVar 0) (dVar 1))
  (dSeq (dSetF (He.ga K "Asker") "answers_by" (dVar 0) (dVar 2))
  (dSeq (dSetF (He.ga K "Asker") "last_told" (dVar 0) (dXNew w_ false))
  (dSetF (He.ga K "Asker") "rows" (dVar 0) (dLstM (dNil))))))
def rd_is_name (K : PySem.W.Frag) (Wd : DW) : DS :=
  (dRet ((dAndV (dCB rdIsi (dCons (dVar 0) (dCons (dC (.ty "str")) (dNil)))) (dAndV (dChain (rdO (intD fun i j => decide (i ≤ j))) (rdO (intD fun i j => decide (i ≤ j))) (dN (dC (.int 1))) (dN (dCB (rd1 lenD) (dCons (dN (dVar 0)) (dNil)))) (dN (dC (.int 6)))) (dCB (rdAll) (dCons (dN (dLc (dSeqI (dN (dVar 0))) (gdName 1) dYes (dOp (rdIn false) (dN (dVar 1)) (dN (dC (.str "abcdefghijklmnopqrstuvwxyz")))) [1])) (dNil)))))))
def rd_are_names (K : PySem.W.Frag) (Wd : DW) : DS :=
  (dSeq (dIfS ((dOr (dNot (dTru (dN (dCB rdIsi (dCons (dVar 0) (dCons (dC (.ty "tuple")) (dNil))))))) (dOr (dNot (dTest (dChain (rdO (intD fun i j => decide (i ≤ j))) (rdO (intD fun i j => decide (i ≤ j))) (dN (dVar 1)) (dN (dCB (rd1 lenD) (dCons (dN (dVar 0)) (dNil)))) (dN (dVar 2))))) (dNot (dTru (dN (dCB (rdAll) (dCons (dN (dLc (dSeqI (dN (dVar 0))) (gdName 3) dYes (dCall noD (sp_is_name K) [] (dCons (dVar 3) (dNil))) [3])) (dNil))))))))) (dRet (dC (.bl false))) dNext)
  (dRet (dCB (rdAll) (dCons (dN (dLc (dZip2 (dCons (dN (dVar 0)) (dCons (dN (dSl (dN (dVar 0)) (dPart (dC (.int 1))) dNoPart)) (dNil)))) (gdTup 2 (gdCons (gdName 3) (gdCons (gdName 4) (gdNil)))) dYes (dOp (rdO (cmpD (fun i j => decide (i < j)) ltS)) (dN (dVar 3)) (dN (dVar 4))) [3, 4])) (dNil)))))
def rd_is_count (K : PySem.W.Frag) (Wd : DW) : DS :=
  (dRet ((dAndV (dCB rdIsi (dCons (dVar 0) (dCons (dC (.ty "int")) (dNil)))) (dAndV (dNotV (dN (dCB rdIsi (dCons (dVar 0) (dCons (dC (.ty "bool")) (dNil)))))) (dOp (rdO (intD fun i j => decide (i ≥ j))) (dN (dVar 0)) (dN (dC (.int 0))))))))
def rd_is_door (K : PySem.W.Frag) (Wd : DW) : DS :=
  (dSeq (dIfS (dTest (dOp (rdO isD) (dN (dVar 0)) (dN (dC .non)))) (dRet (dC (.bl true))) dNext)
  (dSeq (dIfS ((dOr (dNot (dTru (dN (dCB rdIsi (dCons (dVar 0) (dCons (dC (.ty "tuple")) (dNil))))))) (dOr (dTest (dOp (rdNe) (dN (dCB (rd1 lenD) (dCons (dN (dVar 0)) (dNil)))) (dN (dC (.int 2))))) (dOr (dNot (dTru (dN (dCB rdIsi (dCons (dOp (rdO ixD) (dN (dVar 0)) (dC (.int 0))) (dCons (dC (.ty "str")) (dNil))))))) (dTest (dOp (rdIn true) (dN (dOp (rdO ixD) (dN (dVar 0)) (dC (.int 0)))) (dN (dVar 1)))))))) (dRet (dC (.bl false))) dNext)
  (dRet ((dAndV (dCall Wd (sp_is_count K) [] (dCons (dOp (rdO ixD) (dN (dVar 0)) (dC (.int 1))) (dNil))) (dOp (rdO (cmpD (fun i j => decide (i < j)) ltS)) (dN (dOp (rdO ixD) (dN (dVar 0)) (dC (.int 1)))) (dN (dVar 2))))))))
def rd_are_rooms (K : PySem.W.Frag) (Wd : DW) : DS :=
  (dSeq (dIfS ((dOr (dNot (dTru (dN (dCB rdIsi (dCons (dVar 0) (dCons (dC (.ty "tuple")) (dNil))))))) (dNot (dTest (dChain (rdO (intD fun i j => decide (i ≤ j))) (rdO (intD fun i j => decide (i ≤ j))) (dN (dC (.int 1))) (dN (dCB (rd1 lenD) (dCons (dN (dVar 0)) (dNil)))) (dN (dC (.int 36)))))))) (dRet (dC (.bl false))) dNext)
  (dSeq (dFor (dSeqI (dN (dVar 0))) (gdName 3) (dSeq (dIfS ((dOr (dNot (dTru (dN (dCB rdIsi (dCons (dVar 3) (dCons (dC (.ty "tuple")) (dNil))))))) (dTest (dOp (rdNe) (dN (dCB (rd1 lenD) (dCons (dN (dVar 3)) (dNil)))) (dN (dCB (rd1 lenD) (dCons (dN (dVar 1)) (dNil)))))))) (dRet (dC (.bl false))) dNext)
  (dIfS (dNot (dTru (dN (dCB (rdAll) (dCons (dN (dLc (dSeqI (dN (dVar 3))) (gdName 4) dYes (dCall noD (sp_is_door K) [] (dCons (dVar 4) (dCons (dVar 2) (dCons (dCB (rd1 lenD) (dCons (dN (dVar 0)) (dNil))) (dNil))))) [4])) (dNil)))))) (dRet (dC (.bl false))) dNext)))
  (dRet (dC (.bl true)))))
def rd_Plan___init__ (K : PySem.W.Frag) (Wd : DW) : DS :=
  (dSeq (dIfS ((dOr (dNot (dTru (dN (dCall Wd (sp_are_names K) [] (dCons (dVar 1) (dCons (dC (.int 1)) (dCons (dC (.int 4)) (dNil)))))))) (dNot (dTru (dN (dCall Wd (sp_are_names K) [] (dCons (dVar 2) (dCons (dC (.int 2)) (dCons (dC (.int 4)) (dNil)))))))))) (dRaise Wd (He.ga K "NoPlan")) dNext)
  (dSeq (dIfS (dNot (dTru (dN (dCall Wd (sp_are_rooms K) [] (dCons (dVar 3) (dCons (dVar 1) (dCons (dVar 2) (dNil)))))))) (dRaise Wd (He.ga K "NoPlan")) dNext)
  (dSeq (dSetF (He.ga K "Plan") "own_letters" (dVar 0) (dVar 1))
  (dSeq (dSetF (He.ga K "Plan") "own_signs" (dVar 0) (dVar 2))
  (dSetF (He.ga K "Plan") "own_rooms" (dVar 0) (dVar 3))))))
def rd__law_thing (K : PySem.W.Frag) (Wd : DW) : DS :=
  (dSeq (dSet 2 (dND (dCall Wd (sp__law_pick K) [] (dCons (dVar 0) (dCons (dLst (dCons (dC (.int 0)) (dCons (dC (.int 1)) (dCons (dC (.int 3)) (dCons (dC (.int 5)) (dCons (dC (.int 58)) (dCons (dC (.int 59)) (dCons (dC (.int 60)) (dCons (dC (.int 61)) (dCons (dC (.int 63)) (dNil))))))))))) (dNil))))))
  (dSeq (dSet 3 (dCB (rd1 tupD) (dCons (dN (dLc (dRng1 (dCons (dN (dVar 2)) (dNil))) (gdName 7) dYes (dND (dCall noD (sp__law_pick K) [] (dCons (dVar 0) (dCons (dOp (rdO ixD) (dN (dVar 1)) (dC (.int 0))) (dNil))))) [7])) (dNil))))
  (dSeq (dSet 4 (dCall Wd (sp__law_draw K) [] (dCons (dVar 0) (dCons (dC (.int 4)) (dNil)))))
  (dSeq (dSet 5 (dND (dCall Wd (sp__law_pick K) [] (dCons (dVar 0) (dCons (dLst (dCons (dC .non) (dCons (dC (.int 0)) (dCons (dC (.bl true)) (dCons (dC (.str "")) (dCons (dC (.str "Zz")) (dCons (dC (.str "zzzzzzz")) (dCons (dTup (dCons (dC (.str "a")) (dNil))) (dCons (dLst (dCons (dC (.str "a")) (dNil))) (dCons (dOp (rdO ixD) (dN (dVar 1)) (dC (.int 0))) (dCons (dOp (rdO addD) (dN (dOp (rdO ixD) (dN (dOp (rdO ixD) (dN (dVar 1)) (dC (.int 1)))) (dC (.int 0)))) (dN (dC (.str "q")))) (dNil)))))))))))) (dNil))))))
  (dSeq (dSet 6 (dCall Wd (sp__law_draw K) [] (dCons (dVar 0) (dCons (dOp (rdO addD) (dN (dVar 2)) (dN (dC (.int 1)))) (dNil)))))
  (dSeq (dIfS (dTest (dOp (rdEq) (dN (dVar 4)) (dN (dC (.int 0))))) (dRet (dVar 3)) dNext)
  (dSeq (dIfS (dTest (dOp (rdEq) (dN (dVar 4)) (dN (dC (.int 1))))) (dRet (dOp (rdO addD) (dN (dOp (rdO addD) (dN (dSl (dN (dVar 3)) dNoPart (dPart (dVar 6)))) (dN (dTup (dCons (dVar 5) (dNil)))))) (dN (dSl (dN (dVar 3)) (dPart (dVar 6)) dNoPart)))) dNext)
  (dSeq (dIfS (dTest (dOp (rdEq) (dN (dVar 4)) (dN (dC (.int 2))))) (dRet (dOp (rdO addD) (dN (dOp (rdO addD) (dN (dSl (dN (dVar 3)) dNoPart (dPart (dVar 6)))) (dN (dTup (dCons (dVar 5) (dNil)))))) (dN (dSl (dN (dVar 3)) (dPart (dOp (rdO addD) (dN (dVar 6)) (dN (dC (.int 1))))) dNoPart)))) dNext)
  (dRet (dND (dCall Wd (sp__law_pick K) [] (dCons (dVar 0) (dCons (dLst (dCons (dCB (rd1 listD) (dCons (dN (dVar 3)) (dNil))) (dCons (dJoin (dC (.str "")) (dN (dVar 3))) (dCons (dVar 5) (dCons (dNewK) (dCons (dLst (dNil)) (dCons (dC .non) (dCons (dOp (rdO addD) (dN (dVar 3)) (dN (dSl (dN (dVar 3)) dNoPart (dPart (dC (.int 1)))))) (dNil))))))))) (dNil))))))))))))))
def rd__law_place (K : PySem.W.Frag) (Wd : DW) : DS :=
  (dSeq (dIfS (dNot (dTru (dN (dCB rdIsi (dCons (dVar 1) (dCons (dC (.ty "tuple")) (dNil))))))) (dRet (dC (.int 0))) dNext)
  (dSeq (dFor (dRng1 (dCons (dN (dCB (rdMin) (dCons (dN (dC (.int 60))) (dCons (dN (dCB (rd1 lenD) (dCons (dN (dVar 1)) (dNil)))) (dNil))))) (dNil))) (gdName 2) (dIfS ((dOr (dNot (dTru (dN (dCB rdIsi (dCons (dOp (rdO ixD) (dN (dVar 1)) (dVar 2)) (dCons (dC (.ty "str")) (dNil))))))) (dTest (dOp (rdIn true) (dN (dOp (rdO ixD) (dN (dVar 1)) (dVar 2))) (dN (dOp (rdO ixD) (dN (dVar 0)) (dC (.int 0)))))))) (dRet (dVar 2)) dNext))
  (dRet (dIf (dTest (dOp (rdO (intD fun i j => decide (i > j))) (dN (dCB (rd1 lenD) (dCons (dN (dVar 1)) (dNil)))) (dN (dC (.int 60))))) (dC (.int 60)) (dC .non)))))
def rd_Asker_signs_told (K : PySem.W.Frag) (w_ : World) (Wd : DW) : DS :=
  (dSeq (dSet 2 (dLstM (dNil)))
  (dSeq (dFor (dRng2 (dCons (dN (dC (.int 1))) (dCons (dN (dOp (rdO addD) (dN (dCB (rd1 lenD) (dCons (dN (dVar 1)) (dNil)))) (dN (dC (.int 1))))) (dNil)))) (gdName 3) (dSeq (dIfS (dTest (dOp (rdXIn w_ true) (dSl (dN (dVar 1)) dNoPart (dPart (dVar 3))) (dFld (He.ga K "Asker") "last_told" (dVar 0)))) (dRet (dVar 2)) dNext)
  (dDrop (dApp (dVar 2) (dXGet w_ (dFld (He.ga K "Asker") "last_told" (dVar 0)) (dSl (dN (dVar 1)) dNoPart (dPart (dVar 3))))))))
  (dRet (dVar 2))))
def rd_Asker_known (K : PySem.W.Frag) (w_ : World) (Wd : DW) : DS :=
  (dSeq (dIfS ((dOr (dNot (dTru (dN (dCB rdIsi (dCons (dVar 1) (dCons (dC (.ty "tuple")) (dNil))))))) (dNot (dTru (dN (dCB (rdAll) (dCons (dN (dLc (dSeqI (dN (dVar 1))) (gdName 3) dYes (dCB rdIsi (dCons (dVar 3) (dCons (dC (.ty "str")) (dNil)))) [3])) (dNil)))))))) (dRet (dC .non)) dNext)
  (dSeq (dSet 2 (dMeth Wd (He.ga K "Asker") "signs_told" (sp_Asker_signs_told K w_) [] (dVar 0) (dCons (dVar 1) (dNil))))
  (dRet (dIf (dTest (dOp (rdEq) (dN (dCB (rd1 lenD) (dCons (dN (dVar 2)) (dNil)))) (dN (dCB (rd1 lenD) (dCons (dN (dVar 1)) (dNil)))))) (dCB (rd1 tupD) (dCons (dN (dVar 2)) (dNil))) (dC .non)))))
def rd_need_letters (K : PySem.W.Frag) (Wd : DW) : DS :=
  (dSeq (dIfS (dNot (dTru (dN (dCB rdIsi (dCons (dVar 0) (dCons (dC (.ty "tuple")) (dNil))))))) (dRaiseI Wd (He.ga K "NoWord") "at" (dC (.int 0))) dNext)
  (dSeq (dFor (dEnum (dCons (dN (dSl (dN (dVar 0)) dNoPart (dPart (dC (.int 60))))) (dNil))) (gdTup 2 (gdCons (gdName 2) (gdCons (gdName 3) (gdNil)))) (dIfS ((dOr (dNot (dTru (dN (dCB rdIsi (dCons (dVar 3) (dCons (dC (.ty "str")) (dNil))))))) (dTest (dOp (rdIn true) (dN (dVar 3)) (dN (dVar 1)))))) (dRaiseI Wd (He.ga K "NoWord") "at" (dVar 2)) dNext))
  (dIfS (dTest (dOp (rdO (intD fun i j => decide (i > j))) (dN (dCB (rd1 lenD) (dCons (dN (dVar 0)) (dNil)))) (dN (dC (.int 60))))) (dRaiseI Wd (He.ga K "NoWord") "at" (dC (.int 60))) dNext)))
def rd_Plan_letters (K : PySem.W.Frag) (Wd : DW) : DS :=
  (dRet (dFld (He.ga K "Plan") "own_letters" (dVar 0)))
def rd__law_along (K : PySem.W.Frag) (Wd : DW) : DS :=
  (dSeq (dAsg (dN (dVar 0)) (gdTup 3 (gdCons (gdName 2) (gdCons (gdName 3) (gdCons (gdName 4) (gdNil))))))
  (dSeq (dPar 5 6 (dC (.int 0)) (dLstM (dNil)))
  (dSeq (dFor (dSeqI (dN (dVar 1))) (gdName 7) (dSeq (dSet 8 (dOp (rdO ixD) (dN (dOp (rdO ixD) (dN (dVar 4)) (dVar 5))) (dTupIx (dVar 2) (dVar 7))))
  (dSeq (dIfS (dTest (dOp (rdO isD) (dN (dVar 8)) (dN (dC .non)))) (dRet (dVar 6)) dNext)
  (dSeq (dDrop (dApp (dVar 6) (dOp (rdO ixD) (dN (dVar 8)) (dC (.int 0)))))
  (dSet 5 (dOp (rdO ixD) (dN (dVar 8)) (dC (.int 1))))))))
  (dRet (dVar 6)))))
def rd__law_noted (K : PySem.W.Frag) (Wd : DW) : DS :=
  (dSeq (dDrop (dApp (dVar 1) (dVar 2)))
  (dRet (dCB (rd1 tupD) (dCons (dN (dCall Wd (sp__law_along K) [] (dCons (dVar 0) (dCons (dVar 2) (dNil))))) (dNil)))))
def rd__law_maker_lam (K : PySem.W.Frag) (Wd : DW) : DE :=
  (dCall Wd (sp__law_noted K) [] (dCons (dVar 2) (dCons (dVar 1) (dCons (dVar 0) (dNil)))))
def rd_Plan_signs (K : PySem.W.Frag) (Wd : DW) : DS :=
  (dRet (dFld (He.ga K "Plan") "own_signs" (dVar 0)))
def rd_Asker_is_answer (K : PySem.W.Frag) (w_ : World) (Wd : DW) : DS :=
  (dSeq (dIfS ((dOr (dNot (dTru (dN (dCB rdIsi (dCons (dVar 2) (dCons (dC (.ty "tuple")) (dNil))))))) (dTest (dOp (rdNe) (dN (dCB (rd1 lenD) (dCons (dN (dVar 2)) (dNil)))) (dN (dCB (rd1 lenD) (dCons (dN (dVar 1)) (dNil)))))))) (dRet (dC (.bl false))) dNext)
  (dSeq (dIfS (dNot (dTru (dN (dCB (rdAll) (dCons (dN (dLc (dSeqI (dN (dVar 2))) (gdName 4) dYes ((dAndV (dCB rdIsi (dCons (dVar 4) (dCons (dC (.ty "str")) (dNil)))) (dOp (rdIn false) (dN (dVar 4)) (dN (dMeth noD (He.ga K "Plan") "signs" (sp_Plan_signs K) [] (dFld (He.ga K "Asker") "model" (dVar 0)) dNil))))) [4])) (dNil)))))) (dRet (dC (.bl false))) dNext)
  (dSeq (dSet 3 (dMeth Wd (He.ga K "Asker") "signs_told" (sp_Asker_signs_told K w_) [] (dVar 0) (dCons (dVar 1) (dNil))))
  (dRet (dOp (rdEq) (dN (dCB (rd1 listD) (dCons (dN (dSl (dN (dVar 2)) dNoPart (dPart (dCB (rd1 lenD) (dCons (dN (dVar 3)) (dNil)))))) (dNil)))) (dN (dVar 3)))))))
def rd_Asker_ask (K : PySem.W.Frag) (w_ : World) (Wd : DW) : DS :=
  (dSeq (dDrop (dCall Wd (sp_need_letters K) [] (dCons (dVar 1) (dCons (dMeth Wd (He.ga K "Plan") "letters" (sp_Plan_letters K) [] (dFld (He.ga K "Asker") "model" (dVar 0)) dNil) (dNil)))))
  (dSeq (dSet 2 (dMeth Wd (He.ga K "Asker") "known" (sp_Asker_known K w_) [] (dVar 0) (dCons (dVar 1) (dNil))))
  (dSeq (dIfS (dTest (dOp (rdO isntD) (dN (dVar 2)) (dN (dC .non)))) (dRet (dVar 2)) dNext)
  (dSeq (dSet 3 (dFld (He.ga K "Asker") "answers_by" (dVar 0)))
  (dSeq (dSet 2 (dCallV 3 (Cs K) (dCons (dVar 1) (dNil)) Wd))
  (dSeq (dIfS (dNot (dTru (dN (dMeth Wd (He.ga K "Asker") "is_answer" (sp_Asker_is_answer K w_) [] (dVar 0) (dCons (dVar 1) (dCons (dVar 2) (dNil))))))) (dRaiseI Wd (He.ga K "BadBox") "word" (dVar 1)) dNext)
  (dSeq (dFor (dEnum (dCons (dN (dVar 2)) (dNil))) (gdTup 2 (gdCons (gdName 4) (gdCons (gdName 5) (gdNil)))) (dXPut w_ (dFld (He.ga K "Asker") "last_told" (dVar 0)) (dSl (dN (dVar 1)) dNoPart (dPart (dOp (rdO addD) (dN (dVar 4)) (dN (dC (.int 1)))))) (dVar 5)))
  (dSeq (dDrop (dApp (dFld (He.ga K "Asker") "rows" (dVar 0)) (dVar 1)))
  (dRet (dVar 2))))))))))
def rd__law_refused (K : PySem.W.Frag) (w_ : World) (Wd : DW) : DS :=
  (dSeq (dSet 2 (dC .non))
  (dSeq (dTryKeep K (.ref (He.ga K "BoxError")) 3 (fun a cls fs => (dSet 2 (dVar 3))) Wd (fun Wd => (dDrop (dMeth Wd (He.ga K "Asker") "ask" (sp_Asker_ask K w_) [] (dVar 0) (dCons (dVar 1) (dNil))))))
  (dSeq (dIfS (dTest (dOp (rdO isD) (dN (dVar 2)) (dN (dC .non)))) (dRet (dC .non)) dNext)
  (dSeq (dIfS ((dOr (dTru (dN (dCB (rdIsiXT K) (dCons (dVar 2) (dCons (dTupH (dCons (dC (.ref (He.ga K "BadBox"))) (dCons (dC (.ref (He.ga K "NoMany"))) (dCons (dC (.ref (He.ga K "NoPair"))) (dCons (dC (.ref (He.ga K "NoPlan"))) (dCons (dC (.ref (He.ga K "TooMany"))) (dNil))))))) (dNil)))))) (dNot (dTru (dN (dCB (rdIsiX K) (dCons (dVar 2) (dCons (dC (.ref (He.ga K "NoWord"))) (dNil))))))))) (dRet (dNeg (dC (.int 1)))) dNext)
  (dRet (dIf ((dOr (dTru (dN (dCB rdIsi (dCons (dXv K "at" (dVar 2)) (dCons (dC (.ty "bool")) (dNil)))))) (dNot (dTru (dN (dCB (rdIsiY K) (dCons (dVar 2) (dCons (dC (.ty "ValueError")) (dNil))))))))) (dNeg (dC (.int 1))) (dXv K "at" (dVar 2))))))))
def rd_law (K : PySem.W.Frag) (w_ : World) (Wd : DW) : DS :=
  (dSeq (dSet 1 (dCall Wd (sp__law_begin K) [] (dCons (dVar 0) (dNil))))
  (dSeq (dSet 2 (dCall Wd (sp__law_parts K) [] (dCons (dVar 1) (dCons (dC (.int 4)) (dCons (dOp (rdO addD) (dN (dC (.int 1))) (dN (dCall Wd (sp__law_draw K) [] (dCons (dVar 1) (dCons (dC (.int 3)) (dNil)))))) (dCons (dOp (rdO ixD) (dN (dLst (dCons (dC (.int 0)) (dCons (dC (.int 4)) (dNil))))) (dCall Wd (sp__law_draw K) [] (dCons (dVar 1) (dCons (dC (.int 2)) (dNil))))) (dNil)))))))
  (dSeq (dSet 3 (dLstM (dNil)))
  (dSeq (dSet 4 (dCall Wd (sp__law_hidden K) [] (dCons (dVar 1) (dCons (dVar 2) (dCons (dC (.int 5)) (dNil))))))
  (dSeq (dSet 5 (dMake Wd (He.ga K "Asker") (sp_Asker___init__ K w_) (dCons (dMake Wd (He.ga K "Plan") (sp_Plan___init__ K) (dCons (dOp (rdO ixD) (dN (dVar 2)) (dC (.int 0))) (dCons (dOp (rdO ixD) (dN (dVar 2)) (dC (.int 1))) (dCons (dOp (rdO ixD) (dN (dVar 2)) (dC (.int 2))) (dNil))))) (dCons (dCall Wd (sp__law_maker K) [] (dCons (dVar 4) (dCons (dVar 3) (dNil)))) (dNil)))))
  (dSeq (dFor (dRng1 (dCons (dN (dOp (rdO addD) (dN (dC (.int 10))) (dN (dCB (rdMin) (dCons (dN (dCB (rd1 lenD) (dCons (dN (dVar 0)) (dNil)))) (dCons (dN (dC (.int 20))) (dNil))))))) (dNil))) (gdName 6) (dSeq (dSet 7 (dCall Wd (sp__law_thing K) [] (dCons (dVar 1) (dCons (dVar 2) (dNil)))))
  (dSeq (dPar 8 9 (dCall Wd (sp__law_place K) [] (dCons (dVar 2) (dCons (dVar 7) (dNil)))) (dCB (rd1 lenD) (dCons (dN (dVar 3)) (dNil))))
  (dSeq (dIfS ((dAnd (dTest (dOp (rdO isntD) (dN (dVar 8)) (dN (dC .non)))) (dTest (dOp (rdO isntD) (dN (dMeth Wd (He.ga K "Asker") "known" (sp_Asker_known K w_) [] (dVar 5) (dCons (dVar 7) (dNil)))) (dN (dC .non)))))) (dRet (dC (.bl false))) dNext)
  (dSeq (dIfS ((dOr (dTest (dOp (rdNe) (dN (dCall Wd (sp__law_refused K w_) [] (dCons (dVar 5) (dCons (dVar 7) (dNil))))) (dN (dVar 8)))) ((dAnd (dTest (dOp (rdO isntD) (dN (dVar 8)) (dN (dC .non)))) (dTest (dOp (rdNe) (dN (dCB (rd1 lenD) (dCons (dN (dVar 3)) (dNil)))) (dN (dVar 9)))))))) (dRet (dC (.bl false))) dNext)
  (dIfS ((dAnd (dTest (dOp (rdO isD) (dN (dVar 8)) (dN (dC .non)))) (dTest (dOp (rdNe) (dN (dMeth Wd (He.ga K "Asker") "known" (sp_Asker_known K w_) [] (dVar 5) (dCons (dVar 7) (dNil)))) (dN (dCB (rd1 tupD) (dCons (dN (dCall Wd (sp__law_along K) [] (dCons (dVar 4) (dCons (dVar 7) (dNil))))) (dNil)))))))) (dRet (dC (.bl false))) dNext))))))
  (dRet (dOp (rdEq) (dN (dLc (dSeqI (dN (dLst (dCons (dC .non) (dCons (dC (.int 5)) (dCons (dLst (dNil)) (dCons (dNewK) (dCons (dC (.str "a")) (dCons (dTup (dCons (dC (.str "Q")) (dNil))) (dCons (dTup (dCons (dC .non) (dNil))) (dCons (dLst (dCons (dTup (dCons (dC (.str "a")) (dNil))) (dNil))) (dNil)))))))))))) (gdName 10) (dTest (dOp (rdO isntD) (dN (dMeth noD (He.ga K "Asker") "known" (sp_Asker_known K w_) [] (dVar 5) (dCons (dVar 10) (dNil)))) (dN (dC .non)))) (dVar 10) [10])) (dN (dLst (dNil)))))))))))
structure Lw (K : PySem.W.Frag) : Prop where
  _law_pick : ∀ {ds : List D} {M : Mem} {Q : DKt} {E : DX}, sp__law_pick K ds M Q E → rd__law_pick K (wd E) (ends Q) (startD ["_law_state", "_law_some"] ds) M
  _law_names : ∀ {ds : List D} {M : Mem} {Q : DKt} {E : DX}, sp__law_names K ds M Q E → rd__law_names K (wd E) (ends Q) (startD ["_law_state", "_law_size", "_law_own", "_law_gained", "_law_name", "_law_small", "_law_others", "_law_k", "_law_sign", "_law_one"] ds) M
  _law_parts : ∀ {ds : List D} {M : Mem} {Q : DKt} {E : DX}, sp__law_parts K ds M Q E → rd__law_parts K (wd E) (ends Q) (startD ["_law_state", "_law_most", "_law_letters_many", "_law_open_in", "_law_names_here", "_law_ends", "_law_size", "_law_halls", "_law_k", "_law_doors", "_law_j", "_law_door"] ds) M
  _law_hidden : ∀ {ds : List D} {M : Mem} {Q : DKt} {E : DX}, sp__law_hidden K ds M Q E → rd__law_hidden K (wd E) (ends Q) (startD ["_law_state", "_law_parts_here", "_law_most", "_law_names_here", "_law_ends", "_law_halls", "_law_size", "_law_gained", "_law_k", "_law_doors", "_law_j", "_law_door", "_law_to"] ds) M
  Asker___init__ : ∀ {w_ : World} {ds : List D} {M : Mem} {Q : DKt} {E : DX}, sp_Asker___init__ K w_ ds M Q E → rd_Asker___init__ K w_ (wd E) (ends Q) (startD ["self", "plan", "box"] ds) M
  _law_maker : ∀ {ds : List D} {M : Mem} {Q : DKt} {E : DX}, sp__law_maker K ds M Q E → dMkC [1, 0] ct__law_maker_lam (tabF K "_law_maker") Q (startD ["_law_hidden_here", "_law_calls"] ds) M
  is_name : ∀ {ds : List D} {M : Mem} {Q : DKt} {E : DX}, sp_is_name K ds M Q E → rd_is_name K (wd E) (ends Q) (startD ["thing", "sign"] ds) M
  are_names : ∀ {ds : List D} {M : Mem} {Q : DKt} {E : DX}, sp_are_names K ds M Q E → rd_are_names K (wd E) (ends Q) (startD ["thing", "least", "most", "one", "other"] ds) M
  is_count : ∀ {ds : List D} {M : Mem} {Q : DKt} {E : DX}, sp_is_count K ds M Q E → rd_is_count K (wd E) (ends Q) (startD ["thing"] ds) M
  is_door : ∀ {ds : List D} {M : Mem} {Q : DKt} {E : DX}, sp_is_door K ds M Q E → rd_is_door K (wd E) (ends Q) (startD ["thing", "signs", "many"] ds) M
  are_rooms : ∀ {ds : List D} {M : Mem} {Q : DKt} {E : DX}, sp_are_rooms K ds M Q E → rd_are_rooms K (wd E) (ends Q) (startD ["thing", "letters", "signs", "doors", "door"] ds) M
  Plan___init__ : ∀ {ds : List D} {M : Mem} {Q : DKt} {E : DX}, sp_Plan___init__ K ds M Q E → rd_Plan___init__ K (wd E) (ends Q) (startD ["self", "letters", "signs", "rooms"] ds) M
  _law_thing : ∀ {ds : List D} {M : Mem} {Q : DKt} {E : DX}, sp__law_thing K ds M Q E → rd__law_thing K (wd E) (ends Q) (startD ["_law_state", "_law_parts_here", "_law_size", "_law_row_here", "_law_way", "_law_odd", "_law_at", "_law_k"] ds) M
  _law_place : ∀ {ds : List D} {M : Mem} {Q : DKt} {E : DX}, sp__law_place K ds M Q E → rd__law_place K (wd E) (ends Q) (startD ["_law_parts_here", "_law_thing_here", "_law_at"] ds) M
  Asker_signs_told : ∀ {w_ : World} {ds : List D} {M : Mem} {Q : DKt} {E : DX}, sp_Asker_signs_told K w_ ds M Q E → rd_Asker_signs_told K w_ (wd E) (ends Q) (startD ["self", "word", "found", "at"] ds) M
  Asker_known : ∀ {w_ : World} {ds : List D} {M : Mem} {Q : DKt} {E : DX}, sp_Asker_known K w_ ds M Q E → rd_Asker_known K w_ (wd E) (ends Q) (startD ["self", "word", "signs", "letter"] ds) M
  need_letters : ∀ {ds : List D} {M : Mem} {Q : DKt} {E : DX}, sp_need_letters K ds M Q E → rd_need_letters K (wd E) (ends Q) (startD ["word", "letters", "at", "letter"] ds) M
  Plan_letters : ∀ {ds : List D} {M : Mem} {Q : DKt} {E : DX}, sp_Plan_letters K ds M Q E → rd_Plan_letters K (wd E) (ends Q) (startD ["self"] ds) M
  _law_along : ∀ {ds : List D} {M : Mem} {Q : DKt} {E : DX}, sp__law_along K ds M Q E → rd__law_along K (wd E) (ends Q) (startD ["_law_parts_here", "_law_row_here", "_law_names_here", "_law_ends", "_law_halls", "_law_here", "_law_gained", "_law_letter", "_law_door"] ds) M
  _law_noted : ∀ {ds : List D} {M : Mem} {Q : DKt} {E : DX}, sp__law_noted K ds M Q E → rd__law_noted K (wd E) (ends Q) (startD ["_law_hidden_here", "_law_calls", "_law_row_here"] ds) M
  _law_maker_lam : ∀ {cds ds : List D} {M : Mem} {Q : DKt} {E : DX}, cds.length = 2 → spc__law_maker_lam K cds ds M Q E → rd__law_maker_lam K (wd E) (startD ["_law_row_here", "_law_calls", "_law_hidden_here"] (ds ++ cds)) M fun v M' => FzV Q v M'
  Plan_signs : ∀ {ds : List D} {M : Mem} {Q : DKt} {E : DX}, sp_Plan_signs K ds M Q E → rd_Plan_signs K (wd E) (ends Q) (startD ["self"] ds) M
  Asker_is_answer : ∀ {w_ : World} {ds : List D} {M : Mem} {Q : DKt} {E : DX}, sp_Asker_is_answer K w_ ds M Q E → rd_Asker_is_answer K w_ (wd E) (ends Q) (startD ["self", "word", "signs", "ahead", "sign"] ds) M
  Asker_ask : ∀ {w_ : World} {ds : List D} {M : Mem} {Q : DKt} {E : DX}, sp_Asker_ask K w_ ds M Q E → rd_Asker_ask K w_ (wd E) (ends Q) (startD ["self", "word", "signs", "answer_for", "at", "sign"] ds) M
  _law_refused : ∀ {w_ : World} {ds : List D} {M : Mem} {Q : DKt} {E : DX}, sp__law_refused K w_ ds M Q E → rd__law_refused K w_ (wd E) (ends Q) (startD ["_law_one", "_law_thing_here", "_law_caught", "e"] ds) M
  law : ∀ {w_ : World} {ds : List D} {M : Mem} {Q : DKt} {E : DX}, sp_law K ds M Q E → rd_law K w_ (wd E) (ends Q) (startD ["_law_script", "_law_state", "_law_parts_here", "_law_calls", "_law_hidden_here", "_law_one", "_law_turn", "_law_thing_here", "_law_due", "_law_many_calls", "_law_odd"] ds) M
end BB
set_option maxHeartbeats 4000000
namespace BB
open L2 PySem PySem.Spec PyProof.Rows
local macro_rules | `(tactic| walk_at "bb") => `(tactic| first
  | (with_reducible refine i_c ?_) | (with_reducible refine i_n ?_) | (with_reducible refine i_op ?_) | (with_reducible refine i_cons ?_) | (with_reducible refine i_nil ?_) | (with_reducible refine i_cb ?_)
  | (with_reducible refine i_seq ?_) | (with_reducible refine i_set ?_) | (with_reducible refine i_ret ?_) | (with_reducible refine i_if ?_) | (with_reducible refine i_drop ?_) | (with_reducible refine i_asg ?_)
  | (with_reducible refine i_test ?_) | (with_reducible refine i_chain ?_) | (with_reducible refine i_tru ?_) | (with_reducible refine i_and ?_) | (with_reducible refine i_or ?_) | (with_reducible refine i_not ?_)
  | (with_reducible refine i_andv ?_) | (with_reducible refine i_orv ?_) | (with_reducible refine i_notv ?_) | (with_reducible refine i_ifx ?_) | (with_reducible refine i_tup ?_) | (with_reducible refine i_lst ?_) | (with_reducible refine i_lstM ?_)
  | (with_reducible refine i_neg ?_) | (with_reducible refine i_call ?_) | (with_reducible refine i_callK ?_) | (with_reducible refine i_meth ?_) | (with_reducible refine i_fld ?_) | (with_reducible refine i_tupIx ?_) | (with_reducible refine i_app ?_)
  | (with_reducible refine i_join ?_) | (with_reducible refine i_sl ?_) | (with_reducible refine i_part ?_) | (with_reducible refine i_nopart ?_) | (with_reducible refine i_next ?_) | (with_reducible refine i_retN ?_)
  | (with_reducible refine i_gname ?_) | (with_reducible refine i_gcons ?_) | (with_reducible refine i_gnil ?_) | (with_reducible refine i_seqI ?_) | (with_reducible refine i_rng1 ?_) | (with_reducible refine i_enum ?_) | (with_reducible refine i_zip2 ?_)
  | (with_reducible refine i_yes ?_) | (with_reducible refine i_for ?_) | (with_reducible refine i_lc ?_)
  | ((with_reducible refine i_var (d := ?bbd) ?bbh ?bbq); (case bbh => rfl)) | ((with_reducible refine i_rdo (d := ?bbd) ?bbh ?bbq); (case bbh => rfl); (try dsimp only)) | ((with_reducible refine i_rd1 (d := ?bbd) ?bbh ?bbq); (case bbh => rfl); (try dsimp only))
  | (with_reducible refine i_itt ?_) | (with_reducible refine i_nf ?_) | (with_reducible refine i_nt ?_) | (with_reducible refine i_itf ?_)
  | (with_reducible refine i_isi rfl kb_int_int ?_) | (with_reducible refine i_isi rfl kb_int_bool ?_) | (with_reducible refine i_isi rfl kb_str_str ?_) | (with_reducible refine i_isi rfl kb_tup_tup ?_)
  | (with_reducible refine ⟨_, rfl, ?_⟩))
local macro_rules | `(tactic| walk_at "bbs") => `(tactic| repeat walk_at "bb")
section
variable {K : PySem.W.Frag} {ds : List D} {M : Mem} {Q : DKt} {E : DX}
theorem no_letters {a b c : D} : List.lookup (α := Str) "letters" [("own_letters", a), ("own_signs", b), ("own_rooms", c)] = none := by kernel_rfl
theorem lw_is_count (h : sp_is_count K ds M Q E) : rd_is_count K (wd E) (ends Q) (startD ["thing"] ds) M := by
  obtain ⟨d, rfl, i, rfl, q⟩ := h
  unfold rd_is_count
  walk_at "bbs"
  exact .done q
theorem c_is_count {i : Int} (q : Q (.bl (decide (0 ≤ i))) M) : sp_is_count K [.int i] M Q E := ⟨_, rfl, _, rfl, q⟩
theorem in_small (c : Nat) (M : Mem) (Q : DKt) (q : Q (.bl (decide (c ∈ SMALLS.cps.toList))) M) : rdIn false (.str ⟨#[c]⟩) (.str SMALLS) M Q := by
  refine .inr ⟨c, SMALLS, rfl, rfl, ?_⟩
  exact q
theorem lw_is_name (h : sp_is_name K ds M Q E) : rd_is_name K (wd E) (ends Q) (startD ["thing", "sign"] ds) M := by
  obtain ⟨d, rfl, z, rfl, hz, q⟩ := h
  unfold rd_is_name
  walk_at "bbs"
  refine i_rd1 (if_pos hz) ?_
  walk_at "bbs"
  by_cases h1 : (1 : Int) ≤ (z.length : Int)
  · refine i_dt h1 ?_
    walk_at "bbs"
    by_cases h2 : (z.length : Int) ≤ 6
    · rw [decide_eq_true h2]
      walk_at "bbs"
      refine wk_str ?_
      refine ⟨by unfold signs; rw [List.length_map]; have : z.cps.toList.length = z.length := Array.length_toList; rw [this]; exact hz, fun i acc M' => acc = (z.cps.toList.take i).map (fun c => .bl (decide (c ∈ SMALLS.cps.toList))) ∧ M' = M, ⟨rfl, rfl⟩, fun _ _ _ _ => trivial, ?_, ?_⟩
      · rintro i d acc _ hd ⟨rfl, rfl⟩
        obtain ⟨c, hc, rfl⟩ := signs_at hd
        walk_at "bbs"
        refine in_small c _ _ ?_
        exact ⟨take_map_succ (fun c => D.bl (decide (c ∈ SMALLS.cps.toList))) hc, rfl⟩
      · rintro acc _ ⟨rfl, rfl⟩
        walk_at "bbs"
        refine i_all (bs := z.cps.toList.map fun c => decide (c ∈ SMALLS.cps.toList)) ?_ ?_
        · show some _ = some _
          have : (signs z).length = z.cps.toList.length := by unfold signs; rw [List.length_map]
          rw [this, List.take_length, List.map_map]
          rfl
        · refine .done ?_
          have : isNameB z = (z.cps.toList.map fun c => decide (c ∈ SMALLS.cps.toList)).all id := by
            unfold isNameB; rw [decide_eq_true (show 1 ≤ z.length by omega), decide_eq_true (show z.length ≤ 6 by omega), List.all_map]; rfl
          rw [this] at q
          exact q
    · rw [decide_eq_false h2]
      walk_at "bbs"
      refine .done ?_
      have : isNameB z = false := by unfold isNameB; rw [decide_eq_false (show ¬ z.length ≤ 6 by omega)]; simp
      rw [this] at q
      exact q
  · refine i_df h1 ?_
    walk_at "bbs"
    refine .done ?_
    have : isNameB z = false := by unfold isNameB; rw [decide_eq_false (show ¬ 1 ≤ z.length by omega)]; simp
    rw [this] at q
    exact q
theorem lw_Plan_letters (h : sp_Plan_letters K ds M Q E) : rd_Plan_letters K (wd E) (ends Q) (startD ["self"] ds) M := by
  obtain ⟨d, rfl, p, rfl, q⟩ := h
  unfold rd_Plan_letters
  walk_at "bbs"
  exact .done q
theorem c_letters {p : Pl} (q : Q (namesD p.letters) M) : sp_Plan_letters K [planD K p] M Q E := ⟨_, rfl, p, rfl, q⟩
theorem rows_at {rs : List (List Door)} {i : Nat} {r : List Door} (h : rs[i]? = some r) : ixD M (rowsD' rs) (.int i) = some (.tup (r.map doorD)) := ix_tup (by rw [List.getElem?_map, h]; rfl)
end
end BB
set_option maxHeartbeats 4000000
namespace BB
open L2 PySem PySem.Spec PyProof.Rows
local macro_rules | `(tactic| walk_at "bb") => `(tactic| first
  | (with_reducible refine i_c ?_) | (with_reducible refine i_n ?_) | (with_reducible refine i_op ?_) | (with_reducible refine i_cons ?_) | (with_reducible refine i_nil ?_) | (with_reducible refine i_cb ?_)
  | (with_reducible refine i_seq ?_) | (with_reducible refine i_set ?_) | (with_reducible refine i_ret ?_) | (with_reducible refine i_if ?_) | (with_reducible refine i_drop ?_) | (with_reducible refine i_setF ?_) | (with_reducible refine i_raise ?_) | (with_reducible refine i_raiseI ?_) | (with_reducible refine i_asg ?_)
  | (with_reducible refine i_test ?_) | (with_reducible refine i_chain ?_) | (with_reducible refine i_tru ?_) | (with_reducible refine i_and ?_) | (with_reducible refine i_or ?_) | (with_reducible refine i_not ?_)
  | (with_reducible refine i_andv ?_) | (with_reducible refine i_orv ?_) | (with_reducible refine i_notv ?_) | (with_reducible refine i_ifx ?_) | (with_reducible refine i_tup ?_) | (with_reducible refine i_lst ?_) | (with_reducible refine i_lstM ?_)
  | (with_reducible refine i_neg ?_) | (with_reducible refine i_call ?_) | (with_reducible refine i_callK ?_) | (with_reducible refine i_meth ?_) | (with_reducible refine i_fld ?_) | (with_reducible refine i_tupIx ?_) | (with_reducible refine i_app ?_)
  | (with_reducible refine i_join ?_) | (with_reducible refine i_sl ?_) | (with_reducible refine i_part ?_) | (with_reducible refine i_nopart ?_) | (with_reducible refine i_next ?_) | (with_reducible refine i_retN ?_)
  | (with_reducible refine i_gname ?_) | (with_reducible refine i_gcons ?_) | (with_reducible refine i_gnil ?_) | (with_reducible refine i_seqI ?_) | (with_reducible refine i_rng1 ?_) | (with_reducible refine i_enum ?_) | (with_reducible refine i_zip2 ?_)
  | (with_reducible refine i_yes ?_) | (with_reducible refine i_for ?_) | (with_reducible refine i_lc ?_)
  | ((with_reducible refine i_var (d := ?bbd) ?bbh ?bbq); (case bbh => rfl)) | ((with_reducible refine i_rdo (d := ?bbd) ?bbh ?bbq); (case bbh => rfl); (try dsimp only)) | ((with_reducible refine i_rd1 (d := ?bbd) ?bbh ?bbq); (case bbh => rfl); (try dsimp only))
  | (with_reducible refine i_itt ?_) | (with_reducible refine i_nf ?_) | (with_reducible refine i_nt ?_) | (with_reducible refine i_itf ?_)
  | ((with_reducible show rdIsi _ _ _); first | refine i_isi rfl kb_int_int ?_ | refine i_isi rfl kb_int_bool ?_ | refine i_isi rfl kb_str_str ?_ | refine i_isi rfl kb_tup_tup ?_)
  | (with_reducible refine ⟨_, rfl, ?_⟩)
  | ((with_reducible show wkD _ _ _); first | refine wk_tup ?_ | refine wk_lst ?_ | refine wk_str ?_)
  | ((with_reducible show rdEq _ _ _ _); refine i_eqI ?_) | ((with_reducible show rdNe _ _ _ _); refine i_neI ?_)
  | ((with_reducible show ite _ _ _); refine i_itt ?_) | ((with_reducible show ite _ _ _); refine i_itf ?_))
local macro_rules | `(tactic| walk_at "bbs") => `(tactic| repeat walk_at "bb")
section
variable {K : PySem.W.Frag} {ds : List D} {M : Mem} {Q : DKt} {E : DX}
theorem c_is_name {z : Str} (hz : z.length ≤ sizeLine) (q : Q (.bl (isNameB z)) M) : sp_is_name K [.str z] M Q E := ⟨_, rfl, z, rfl, hz, q⟩
theorem name_len {z : Str} (h : isNameB z = true) : z.length ≤ 6 := by
  unfold isNameB at h
  rw [Bool.and_eq_true, Bool.and_eq_true] at h
  exact of_decide_eq_true h.2.1
theorem rep_succ {i : Nat} : (List.replicate i true).map D.bl ++ [.bl true] = (List.replicate (i + 1) true).map D.bl := by
  rw [List.replicate_succ', List.map_append]; rfl
theorem all_rep {n : Nat} : (List.replicate n true).all id = true := by
  induction n with
  | zero => rfl
  | succ n ih => rw [List.replicate_succ, List.all_cons, ih]; rfl
theorem lw_are_names (h : sp_are_names K ds M Q E) : rd_are_names K (wd E) (ends Q) (startD ["thing", "least", "most", "one", "other"] ds) M := by
  obtain ⟨d, l, u, rfl, zs, lo, hi, rfl, rfl, rfl, hh, ⟨h1, h2, h3, h4⟩, q⟩ := h
  unfold rd_are_names
  walk_at "bbs"
  rw [List.length_map, decide_eq_true (show (lo : Int) ≤ (zs.length : Int) by omega)]
  walk_at "bbs"
  rw [decide_eq_true (show (zs.length : Int) ≤ (hi : Int) by omega)]
  walk_at "bbs"
  have hz : zs.length ≤ sizeLine := by rw [sizeLine_eq]; omega
  refine ⟨by rw [List.length_map]; exact hz, fun i acc M' => acc = (List.replicate i true).map D.bl ∧ M' = M, ⟨rfl, rfl⟩, fun _ _ _ _ => trivial, ?_, ?_⟩
  · rintro i d acc _ hd ⟨rfl, rfl⟩
    obtain ⟨z, hz', rfl⟩ := strs_at hd
    have hn := h1 z (List.mem_of_getElem? hz')
    walk_at "bbs"
    refine c_is_name (by have := name_len hn; rw [sizeLine_eq]; omega) ?_
    rw [hn]
    exact ⟨rep_succ, rfl⟩
  · rintro acc M2 ⟨rfl, rfl⟩
    walk_at "bbs"
    refine i_all (bs := List.replicate _ true) rfl ?_
    rw [all_rep]
    walk_at "bbs"
    refine .done ?_
    walk_at "bbs"
    have hc : cutD (zs.map D.str) (some 1) none = (zs.drop 1).map D.str := by
      rw [show (1 : Int) = ((1 : Nat) : Int) from rfl, cut_from, List.map_drop]
    rw [hc]
    refine ⟨_, _, _, _, rfl, rfl, rfl, ?_⟩
    refine ⟨by unfold zip2D; rw [rowsD_len, List.length_map]; omega, fun i acc M' => acc = (List.replicate i true).map D.bl ∧ M' = M2, ⟨rfl, rfl⟩, fun _ _ _ _ => trivial, ?_, ?_⟩
    · rintro i d acc M3 hd ⟨rfl, rfl⟩
      obtain ⟨x, y, hx, hy, rfl⟩ := zip2_at hd
      refine i_gtup rfl ?_
      walk_at "bbs"
      have hl : ltS x y = true := by
        rw [List.getElem?_drop] at hy
        obtain ⟨i1, e1⟩ := List.getElem?_eq_some_iff.mp hx
        obtain ⟨i2, e2⟩ := List.getElem?_eq_some_iff.mp hy
        have := List.pairwise_iff_getElem.mp h2 i (1 + i) i1 i2 (by omega)
        rw [e1, e2] at this
        exact this
      show (List.replicate i true).map D.bl ++ [.bl (ltS x y)] = _ ∧ _
      rw [hl]
      exact ⟨rep_succ, rfl⟩
    · rintro acc M3 ⟨rfl, rfl⟩
      walk_at "bbs"
      refine i_all (bs := List.replicate _ true) rfl ?_
      rw [all_rep]
      exact .done q
theorem c_are_names {zs : List Str} {lo hi : Nat} (hh : hi ≤ 1000) (h : isNames zs lo hi) (q : Q (.bl true) M) : sp_are_names K [namesD zs, .int (lo : Nat), .int (hi : Nat)] M Q E := ⟨_, _, _, rfl, zs, lo, hi, rfl, rfl, rfl, hh, h, q⟩
theorem lw_is_door (h : sp_is_door K ds M Q E) : rd_is_door K (wd E) (ends Q) (startD ["thing", "signs", "many"] ds) M := by
  obtain ⟨d, s, n, rfl, dr, ss, many, rfl, rfl, rfl, hd, q⟩ := h
  unfold rd_is_door
  cases dr with
  | none =>
    walk_at "bbs"
    exact .done q
  | some xy =>
    obtain ⟨x, y⟩ := xy
    obtain ⟨h1, h2, h3⟩ := hd x y rfl
    walk_at "bbs"
    refine .done ?_
    walk_at "bbs"
    refine i_inS rfl ?_
    rw [if_pos rfl, decide_eq_true h2]
    walk_at "bbs"
    refine .done ?_
    walk_at "bbs"
    refine c_is_count ?_
    rw [decide_eq_true (show (0 : Int) ≤ y by omega)]
    walk_at "bbs"
    rw [decide_eq_true (show (y : Int) < many by omega)]
    exact .done q
theorem c_is_door {dr : Door} {ss : List Str} {many : Nat} (hd : ∀ x y, dr = some (x, y) → x.length ≤ sizeLine ∧ x ∈ ss ∧ y < many) (q : Q (.bl true) M) : sp_is_door K [doorD dr, namesD ss, .int many] M Q E := ⟨_, _, _, rfl, dr, ss, many, rfl, rfl, rfl, hd, q⟩
theorem lw_are_rooms (h : sp_are_rooms K ds M Q E) : rd_are_rooms K (wd E) (ends Q) (startD ["thing", "letters", "signs", "doors", "door"] ds) M := by
  obtain ⟨d, l, s, rfl, p, ok, rfl, rfl, rfl, q⟩ := h
  unfold rd_are_rooms
  walk_at "bbs"
  rw [List.length_map, decide_eq_true (show (1 : Int) ≤ (p.rooms.length : Int) by have := ok.lo; omega)]
  walk_at "bbs"
  rw [decide_eq_true (show (p.rooms.length : Int) ≤ 36 by have := ok.hi; omega)]
  walk_at "bbs"
  refine .done ?_
  walk_at "bbs"
  refine ⟨fun i env M' => M' = M ∧ ∃ a b : Option D, env = [some (rowsD' p.rooms), some (namesD p.letters), some (namesD p.signs), a, b], ⟨rfl, none, none, rfl⟩, fun _ _ _ _ => trivial, ?_, ?_⟩
  · rintro i d env M2 hd ⟨rfl, a, b, rfl⟩
    rw [List.getElem?_map] at hd
    cases hr : p.rooms[i]? with
    | none => rw [hr] at hd; cases hd
    | some row =>
      rw [hr] at hd
      cases hd
      have hmem := List.mem_of_getElem? hr
      have hlen := ok.row _ hmem
      walk_at "bbs"
      rw [List.length_map, List.length_map, hlen, decide_eq_true rfl]
      walk_at "bbs"
      refine .done ?_
      walk_at "bbs"
      refine ⟨by rw [List.length_map, hlen, sizeLine_eq]; have := ok.ls.2.2.2; omega, fun i acc M' => acc = (List.replicate i true).map D.bl ∧ M' = M2, ⟨rfl, rfl⟩, fun _ _ _ _ => trivial, ?_, ?_⟩
      · rintro i d acc M3 hd ⟨rfl, rfl⟩
        rw [List.getElem?_map] at hd
        cases hdr : row[i]? with
        | none => rw [hdr] at hd; cases hd
        | some dr =>
          rw [hdr] at hd
          cases hd
          walk_at "bbs"
          rw [List.length_map]
          refine c_is_door (fun x y e => ?_) ⟨rep_succ, rfl⟩
          subst e
          obtain ⟨k1, k2⟩ := ok.door _ hmem x y (List.mem_of_getElem? hdr)
          exact ⟨by have := name_len (ok.ss.1 x k1); rw [sizeLine_eq]; omega, k1, k2⟩
      · rintro acc M3 ⟨rfl, rfl⟩
        walk_at "bbs"
        refine i_all (bs := List.replicate _ true) rfl ?_
        rw [all_rep]
        walk_at "bbs"
        exact .done ⟨rfl, _, _, rfl⟩
  · rintro env M2 ⟨rfl, a, b, rfl⟩
    refine .done ?_
    walk_at "bbs"
    exact .done q
theorem c_are_rooms {p : Pl} (ok : p.Ok) (q : Q (.bl true) M) : sp_are_rooms K [rowsD' p.rooms, namesD p.letters, namesD p.signs] M Q E := ⟨_, _, _, rfl, p, ok, rfl, rfl, rfl, q⟩
theorem put2 {l s : D} : putD "own_signs" s [("own_letters", l)] = ([("own_letters", l), ("own_signs", s)] : List (Str × D)) := by kernel_rfl
theorem put3 {l s r : D} : putD "own_rooms" r [("own_letters", l), ("own_signs", s)] = ([("own_letters", l), ("own_signs", s), ("own_rooms", r)] : List (Str × D)) := by kernel_rfl
theorem lw_Plan___init__ (h : sp_Plan___init__ K ds M Q E) : rd_Plan___init__ K (wd E) (ends Q) (startD ["self", "letters", "signs", "rooms"] ds) M := by
  obtain ⟨o, l, s, r, rfl, p, a, ok, rfl, hm, rfl, rfl, rfl, q⟩ := h
  unfold rd_Plan___init__
  walk_at "bbs"
  refine c_are_names (lo := 1) (hi := 4) (by omega) ok.ls ?_
  walk_at "bbs"
  refine c_are_names (lo := 2) (hi := 4) (by omega) ok.ss ?_
  walk_at "bbs"
  refine .done ?_
  walk_at "bbs"
  refine c_are_rooms ok ?_
  walk_at "bbs"
  refine .done ?_
  walk_at "bbs"
  refine ⟨a, _, rfl, hm, by decide, ?_⟩
  refine .done ?_
  walk_at "bbs"
  refine ⟨a, _, rfl, mset_same, by show 1 < 1000; omega, ?_⟩
  rw [mset_mset]
  refine .done ?_
  walk_at "bbs"
  refine ⟨a, _, rfl, mset_same, by
    show (putD "own_signs" _ [("own_letters", _)]).length < 1000
    rw [put2]
    show 2 < 1000
    omega, ?_⟩
  rw [mset_mset]
  show FzV Q .non (mset M a (.ins (He.ga K "Plan") (putD "own_rooms" _ (putD "own_signs" _ [("own_letters", _)]))))
  rw [put2, put3]
  exact .done q
end
end BB
set_option maxHeartbeats 4000000
namespace BB
open L2 PySem PySem.Spec PyProof.Rows
local macro_rules | `(tactic| walk_at "bb") => `(tactic| first
  | (with_reducible refine i_c ?_) | (with_reducible refine i_n ?_) | (with_reducible refine i_op ?_) | (with_reducible refine i_cons ?_) | (with_reducible refine i_nil ?_) | (with_reducible refine i_cb ?_)
  | (with_reducible refine i_seq ?_) | (with_reducible refine i_set ?_) | (with_reducible refine i_ret ?_) | (with_reducible refine i_if ?_) | (with_reducible refine i_drop ?_) | (with_reducible refine i_setF ?_) | (with_reducible refine i_raise ?_) | (with_reducible refine i_raiseI ?_) | (with_reducible refine i_asg ?_)
  | (with_reducible refine i_test ?_) | (with_reducible refine i_chain ?_) | (with_reducible refine i_tru ?_) | (with_reducible refine i_and ?_) | (with_reducible refine i_or ?_) | (with_reducible refine i_not ?_)
  | (with_reducible refine i_andv ?_) | (with_reducible refine i_orv ?_) | (with_reducible refine i_notv ?_) | (with_reducible refine i_ifx ?_) | (with_reducible refine i_tup ?_) | (with_reducible refine i_lst ?_) | (with_reducible refine i_lstM ?_)
  | (with_reducible refine i_neg ?_) | (with_reducible refine i_call ?_) | (with_reducible refine i_callK ?_) | (with_reducible refine i_meth ?_) | (with_reducible refine i_fld ?_) | (with_reducible refine i_tupIx ?_) | (with_reducible refine i_app ?_)
  | (with_reducible refine i_join ?_) | (with_reducible refine i_sl ?_) | (with_reducible refine i_part ?_) | (with_reducible refine i_nopart ?_) | (with_reducible refine i_next ?_) | (with_reducible refine i_retN ?_)
  | (with_reducible refine i_gname ?_) | (with_reducible refine i_gcons ?_) | (with_reducible refine i_gnil ?_) | (with_reducible refine i_seqI ?_) | (with_reducible refine i_rng1 ?_) | (with_reducible refine i_enum ?_) | (with_reducible refine i_zip2 ?_)
  | (with_reducible refine i_yes ?_) | (with_reducible refine i_for ?_) | (with_reducible refine i_lc ?_)
  | ((with_reducible refine i_var (d := ?bbd) ?bbh ?bbq); (case bbh => rfl)) | ((with_reducible refine i_rdo (d := ?bbd) ?bbh ?bbq); (case bbh => rfl); (try dsimp only)) | ((with_reducible refine i_rd1 (d := ?bbd) ?bbh ?bbq); (case bbh => rfl); (try dsimp only))
  | (with_reducible refine i_itt ?_) | (with_reducible refine i_nf ?_) | (with_reducible refine i_nt ?_) | (with_reducible refine i_itf ?_)
  | ((with_reducible show rdIsi _ _ _); first | refine i_isi rfl kb_int_int ?_ | refine i_isi rfl kb_int_bool ?_ | refine i_isi rfl kb_str_str ?_ | refine i_isi rfl kb_tup_tup ?_)
  | (with_reducible refine ⟨_, rfl, ?_⟩)
  | ((with_reducible show wkD _ _ _); first | refine wk_tup ?_ | refine wk_lst ?_ | refine wk_str ?_)
  | ((with_reducible show rdEq _ _ _ _); refine i_eqI ?_) | ((with_reducible show rdNe _ _ _ _); refine i_neI ?_)
  | ((with_reducible show ite _ _ _); refine i_itt ?_) | ((with_reducible show ite _ _ _); refine i_itf ?_))
local macro_rules | `(tactic| walk_at "bbs") => `(tactic| repeat walk_at "bb")
section
variable {K : PySem.W.Frag} {ds : List D} {M : Mem} {Q : DKt} {E : DX}
theorem ix_sign {z : Str} {r : Int} (hz : z.length ≤ sizeLine) (h0 : 0 ≤ r) (h1 : r < z.cps.toList.length) : ∃ c, c ∈ z.cps.toList ∧ ixD M (.str z) (.int r) = some (.str ⟨#[c]⟩) := by
  obtain ⟨n, rfl⟩ := Int.eq_ofNat_of_zero_le h0
  have hn : n < z.cps.toList.length := by omega
  refine ⟨z.cps.toList[n], List.getElem_mem hn, ?_⟩
  show (if z.length ≤ sizeLine then (atI z.cps.toList ((n : Nat) : Int)).map fun c => D.str ⟨#[c]⟩ else none) = _
  rw [if_pos hz, atI_nat (x := z.cps.toList[n]) (by simp [hn])]
  rfl
theorem small_len : SMALLS.cps.toList.length = 26 := by decide +kernel
theorem joinL_nil : ∀ l : List (List Nat), TL.joinL [] l = l.flatten
  | [] => rfl
  | [p] => by show p = [p].flatten; simp
  | p :: q :: r => by
    show p ++ ([] ++ TL.joinL [] (q :: r)) = _
    rw [joinL_nil (q :: r)]
    simp
theorem join_cps (zs : List Str) : (Txt.join ("" : Str) zs).cps.toList = (zs.map fun z => z.cps.toList).flatten := by
  rw [TL.join_eq]
  have := TL.tl_join ("" : Str) zs
  rw [show TL.tl ("" : Str) = [] from rfl, joinL_nil] at this
  exact this
theorem singles : ∀ {zs : List Str}, (∀ z ∈ zs, ∃ c, c ∈ SMALLS.cps.toList ∧ z = ⟨#[c]⟩) → ∃ cs : List Nat, zs = cs.map (fun c => (⟨#[c]⟩ : Str)) ∧ ∀ c ∈ cs, c ∈ SMALLS.cps.toList
  | [], _ => ⟨[], rfl, fun _ h => by cases h⟩
  | z :: zs, h => by
    obtain ⟨c, hc, e⟩ := h z List.mem_cons_self
    obtain ⟨cs, e2, h2⟩ := singles (zs := zs) fun y hy => h y (List.mem_cons_of_mem _ hy)
    refine ⟨c :: cs, by rw [e, e2]; rfl, fun x hx => ?_⟩
    rcases List.mem_cons.mp hx with hx | hx
    · rw [hx]; exact hc
    · exact h2 x hx
theorem flat_singles (cs : List Nat) : ((cs.map (fun c => (⟨#[c]⟩ : Str))).map fun z => z.cps.toList).flatten = cs := by
  induction cs with
  | nil => rfl
  | cons c cs ih =>
    rw [List.map_cons, List.map_cons, List.flatten_cons, ih]
    rfl
theorem len_cps (z : Str) : z.length = z.cps.toList.length := Array.length_toList.symm
theorem nameB_iff {z : Str} : isNameB z = true ↔ 1 ≤ z.cps.toList.length ∧ z.cps.toList.length ≤ 6 ∧ ∀ c ∈ z.cps.toList, c ∈ SMALLS.cps.toList := by
  unfold isNameB
  rw [Bool.and_eq_true, Bool.and_eq_true, List.all_eq_true, len_cps]
  simp only [decide_eq_true_eq]
theorem join_small {zs : List Str} (h1 : 1 ≤ zs.length) (h2 : zs.length ≤ 6) (h : ∀ z ∈ zs, ∃ c, c ∈ SMALLS.cps.toList ∧ z = ⟨#[c]⟩) : isNameB (Txt.join "" zs) = true := by
  obtain ⟨cs, rfl, hc⟩ := singles h
  rw [List.length_map] at h1 h2
  rw [nameB_iff, join_cps, flat_singles]
  exact ⟨h1, h2, hc⟩
theorem rising_pw : ∀ {l : List Str} {p : Str}, risingS p l = true → (p :: l).Nodup → (p :: l).Pairwise (fun x y => ltS x y = true)
  | [], p, _, _ => List.pairwise_singleton _ _
  | x :: r, p, h, hn => by
    unfold risingS at h
    rw [Bool.and_eq_true] at h
    have hn2 := List.nodup_cons.mp hn
    have ih := rising_pw h.2 hn2.2
    have h1 : ¬ x.cps.toList < p.cps.toList := by
      have := h.1
      rw [PyProof.Rows.ltCps_eq] at this
      simpa using this
    have hne : p.cps.toList ≠ x.cps.toList := fun e => hn2.1 (by
      have : p = x := by cases p; cases x; simp only [Str.mk.injEq]; exact Array.toList_inj.mp e
      rw [this]; exact List.mem_cons_self)
    have hpx : ltS p x = true := by
      unfold ltS
      refine decide_eq_true (Classical.byContradiction fun hc => hne ?_)
      exact List.le_antisymm (List.not_lt.mp h1) (List.not_lt.mp hc)
    refine List.pairwise_cons.mpr ⟨fun y hy => ?_, ih⟩
    rcases List.mem_cons.mp hy with hy | hy
    · rw [hy]; exact hpx
    · have hxy := (List.pairwise_cons.mp ih).1 y hy
      exact decide_eq_true (List.lt_trans (of_decide_eq_true hpx) (of_decide_eq_true hxy))
theorem sorted_pw {l : List Str} (h : sortedS l = true) (hn : l.Nodup) : l.Pairwise (fun x y => ltS x y = true) := by
  cases l with
  | nil => exact .nil
  | cons x r => exact rising_pw h hn
theorem cutS_to (z : Str) (n : Nat) : (cutS z none (some (n : Int))).cps.toList = z.cps.toList.take n := by
  unfold cutS
  rw [HT.sIx_none, HT.sIx_nat, List.drop_zero, Nat.sub_zero]
  show (z.cps.toList.take (min n z.length)) = _
  rw [len_cps]
  by_cases h : n ≤ z.cps.toList.length
  · rw [Nat.min_eq_left h]
  · rw [Nat.min_eq_right (by omega), List.take_of_length_le (Nat.le_refl _), List.take_of_length_le (by omega)]
theorem app_cps (x y : Str) : (x ++ y).cps.toList = x.cps.toList ++ y.cps.toList := TL.tl_append x y
theorem name_more {z : Str} {n c : Nat} (h : isNameB z = true) (hn : n ≤ 5) (hc : c ∈ SMALLS.cps.toList) : isNameB (cutS z none (some (n : Int)) ++ ⟨#[c]⟩) = true := by
  rw [nameB_iff] at h ⊢
  rw [app_cps, cutS_to]
  refine ⟨by rw [List.length_append]; show 1 ≤ _ + 1; omega, by rw [List.length_append, List.length_take]; show _ + 1 ≤ 6; omega, fun x hx => ?_⟩
  rcases List.mem_append.mp hx with hx | hx
  · exact h.2.2 x (List.mem_of_mem_take hx)
  · rw [List.mem_singleton.mp hx]; exact hc
theorem small_nodup : SMALLS.cps.toList.Nodup := by decide +kernel
theorem small_ok : ∀ c ∈ SMALLS.cps.toList, c < 0x110000 := by decide +kernel
theorem strOk_name {z : Str} (h : isNameB z = true) : PyData.strOk z = true := by
  unfold PyData.strOk
  rw [← Array.all_toList, List.all_eq_true]
  exact fun c hc => decide_eq_true (small_ok c ((nameB_iff.mp h).2.2 c hc))
theorem lay_strs : ∀ {zs : List Str}, (∀ z ∈ zs, PyData.strOk z = true) → PyData.canLayAll0 (zs.map PyData.str) = true
  | [], _ => rfl
  | z :: zs, h => by
    rw [List.map_cons, PyData.canLayAll0, lay_strs fun y hy => h y (List.mem_cons_of_mem _ hy), PyData.canLay0, h z List.mem_cons_self]
    rfl
theorem depth_strs : ∀ zs : List Str, PyData.depthAll (zs.map PyData.str) = 0
  | [] => rfl
  | z :: zs => by rw [List.map_cons, PyData.depthAll, depth_strs zs, PyData.depth]; rfl
theorem shaped_list {zs : List Str} (h : ∀ z ∈ zs, PyData.strOk z = true) : SeqAt.shaped (.list (zs.map PyData.str)) = true := by
  unfold SeqAt.shaped
  rw [PyData.canLay0, lay_strs h, PyData.depth, depth_strs]
  rfl
theorem i_ixRef {p : Addr} {xs : List D} {i : Int} {d : D} (h : M p = some (.lst xs)) (e : ixD M (.lst xs) (.int i) = some d) (q : Q d M) : rdO ixD (.ref p) (.int i) M Q := by
  refine ⟨d, ?_, q⟩
  show (seqOf M (.ref p)).bind _ = _
  rw [seqOf_ref h]
  exact e
theorem sl_to {z : Str} {n : Nat} (hz : z.length ≤ sizeLine) : slD M (.str z) none (some (n : Int)) = some (.str (cutS z none (some (n : Int)))) := if_pos hz
theorem name_size {z : Str} (h : isNameB z = true) : z.length ≤ sizeLine := by have := name_len h; rw [sizeLine_eq]; omega
theorem i_rdoN {f : Mem → D → D → Option D} {x y d : D} (h : f M x y = some d) (q : Q d M) : rdO f x y M Q := ⟨d, h, q⟩
end
end BB
set_option maxHeartbeats 4000000
namespace BB
open L2 PySem PySem.Spec PyProof.Rows
section
variable {K : PySem.W.Frag} {M : Mem} {Q : DKt} {E : DX}
theorem c_init {a : Addr} {p : Pl} (ok : p.Ok) (hm : M a = some (.ins (He.ga K "Plan") [])) (q : Q .non (mset M a (.ins (He.ga K "Plan") [("own_letters", namesD p.letters), ("own_signs", namesD p.signs), ("own_rooms", rowsD' p.rooms)]))) : sp_Plan___init__ K [.ref a, namesD p.letters, namesD p.signs, rowsD' p.rooms] M Q E := ⟨_, _, _, _, rfl, p, a, ok, rfl, hm, rfl, rfl, rfl, q⟩
theorem i_make {Wd : DW} {C : Addr} {sp : SpD} {dl : DA} {env : Env} (q : dl env M fun us M1 => ∀ p dx, M1 p = none → M1 dx = none → dx ≠ p →
  sp (.ref p :: us) (mset (mset M1 dx (.own p)) p (.ins C [])) (fun v M2 => v = .non ∧ FzV Q (.ref p) M2) fun c fs M' => FzV (fun _ M'' => Wd c fs env M'') .non M') : dMake Wd C sp dl env M Q := q
theorem made {p dx : Addr} {fs : List (Str × D)} {C : Addr} (ht : Tidy M) (hp : M p = none) (hdx : M dx = none) (hne : dx ≠ p)
    (q : Q (.ins C fs) M) : FzV Q (.ref p) (mset (mset (mset M dx (.own p)) p (.ins C [])) p (.ins C fs)) := by
  refine .fixI mset_same fun d2 h2 => ?_
  have hd : d2 = dx := by
    refine Classical.byContradiction fun hn => ?_
    by_cases e1 : d2 = p
    · rw [e1, mset_same] at h2; cases h2
    · rw [mset_ne e1, mset_ne e1, mset_ne hn] at h2
      exact ht _ _ h2 hp
  subst hd
  rw [mset_mset, mdel_mset (by rw [mset_ne hne.symm]; exact hp), mdel_mset hdx]
  exact .done q
end
end BB
set_option maxHeartbeats 4000000
namespace BB
open L2 PySem PySem.Spec PyProof.Rows
section
variable {M : Mem} {Q : DKt}
end
end BB
set_option maxHeartbeats 4000000
namespace BB
open L2 PySem PySem.Spec PyProof.Rows
section
variable {M : Mem}
end
end BB
set_option maxHeartbeats 8000000
namespace BB
open L2 PySem PySem.Spec PyProof.Rows
section
variable {K : PySem.W.Frag} {ds : List D} {M : Mem} {Q : DKt} {E : DX}
theorem c_drawP {a c : Addr} {m : Int} (hm : M a = some (.gen c)) (h0 : 0 < m) (h1 : m < 1073741824) (q : ∀ r : Int, 0 ≤ r → r < m → Q (.int r) M) : sp__law_draw K [.ref a, .int m] M Q E := ⟨_, _, rfl, a, c, m, rfl, hm, rfl, h0, h1, q⟩
theorem c_pickL {a c : Addr} {x : D} {xs : List D} (hm : M a = some (.gen c)) (hs : seqOf M (nrm x) = some xs) (h1 : 1 ≤ xs.length) (h2 : xs.length ≤ 1000) (k : ∀ d ∈ xs, Q d M) : sp__law_pick K [.ref a, x] M Q E := ⟨_, _, rfl, a, c, rfl, hm, .inl ⟨xs, hs, h1, h2, k⟩⟩
theorem c_pickS {a c : Addr} {z : Str} (hm : M a = some (.gen c)) (h1 : 1 ≤ z.length) (h2 : z.length ≤ 1000) (k : ∀ c ∈ z.cps.toList, Q (.str ⟨#[c]⟩) M) : sp__law_pick K [.ref a, .str z] M Q E := ⟨_, _, rfl, a, c, rfl, hm, .inr ⟨z, rfl, h1, h2, k⟩⟩
theorem c_names {a c : Addr} {m : Int} (hm : M a = some (.gen c)) (h0 : 1 ≤ m) (h1 : m ≤ 8) (q : ∀ zs, isNames zs m.toNat m.toNat → Q (namesD zs) M) : sp__law_names K [.ref a, .int m] M Q E := ⟨_, _, rfl, a, c, m, rfl, hm, rfl, h0, h1, q⟩
theorem c_parts47 {a c : Addr} {m lm sh : Int} (hm : M a = some (.gen c)) (m1 : 1 ≤ m) (m2 : m ≤ 36) (l1 : 1 ≤ lm) (l2 : lm ≤ 4) (s1 : 0 ≤ sh) (s2 : sh < 1000)
    (q : ∀ p : Pl, p.Ok → (p.rooms.length : Int) ≤ m → (p.letters.length : Int) = lm → p.signs.length ≤ 3 → (sh = 0 → p.fullB = true) → Q (partsD p) M) : sp__law_parts K [.ref a, .int m, .int lm, .int sh] M Q E := ⟨_, _, _, _, rfl, a, c, m, lm, sh, rfl, hm, rfl, rfl, rfl, m1, m2, l1, l2, s1, s2, q⟩
theorem c_hidden {a c : Addr} {p : Pl} {m : Int} (hm : M a = some (.gen c)) (ok : p.Ok) (m1 : 1 ≤ m) (m2 : m ≤ 36) (q : ∀ h : Pl, Hid p h → (h.rooms.length : Int) ≤ m → Q (partsD h) M) : sp__law_hidden K [.ref a, partsD p, .int m] M Q E := ⟨_, _, _, rfl, a, c, p, m, rfl, hm, ok, rfl, rfl, m1, m2, q⟩
theorem c_signs47 {p : Pl} (q : Q (namesD p.signs) M) : sp_Plan_signs K [planD K p] M Q E := ⟨_, rfl, p, rfl, q⟩
theorem c_maker {o c : D} (hP : M (tabF K "_law_maker") = some (.tab ct__law_maker_lam.qual)) (q : ∀ (f : Addr) (cl : List (Str × Addr)) (cc : Addr) (cs : List Addr), M f = none → CloWf ct__law_maker_lam.fr cl cs → f ∉ cs → (∀ x ∈ cs, M x = none) → cs.length = 2 → Q (.ref f) (addM cs [c, o] (mset M f (cloM ct__law_maker_lam cl cc)))) : sp__law_maker K [o, c] M Q E := ⟨_, _, rfl, hP, q⟩
theorem py47 (ws : List Str) : pyOf M (.tup (ws.map .str)) = some (.tuple (ws.map PyData.str)) := by
  show toPy (.tup (ws.map .str)) = _
  rw [toPy, toPys_strs]; rfl
theorem sh47 {ws : List Str} (h : ∀ z ∈ ws, PyData.strOk z = true) : SeqAt.shaped (.tuple (ws.map PyData.str)) = true := by
  unfold SeqAt.shaped
  refine Bool.and_eq_true_iff.mpr ⟨?_, decide_eq_true ?_⟩
  · rw [PyData.canLay0]; exact lay_strs h
  · rw [PyData.depth, depth_strs]; decide
theorem tup_ref {p : Addr} {xs : List D} (h : M p = some (.lst xs)) : tupD M (nrm (.ref p)) = some (.tup xs) := by
  show (seqOf M (.ref p)).map D.tup = _
  rw [seqOf_ref h]
  rfl
theorem i_mod47 {i j : Int} (h : 0 < j) (q : Q (.int (i % j)) M) : rdO modD (.int i) (.int j) M Q := ⟨_, if_pos h, q⟩
theorem i_ixT47 {xs : List D} {r : Int} (h0 : 0 ≤ r) (h1 : r < xs.length) (q : ∀ d ∈ xs, Q d M) : rdO ixD (.tup xs) (.int r) M Q := by
  obtain ⟨n, rfl⟩ := Int.eq_ofNat_of_zero_le h0
  have hn : n < xs.length := by omega
  exact ⟨_, ix_tup (List.getElem?_eq_getElem hn), q _ (List.getElem_mem hn)⟩
theorem keyW_inj {u v : List Str} (h : keyW u = keyW v) : u = v := by
  unfold keyW at h
  exact (List.map_inj_right (fun a b e => Sum.inr.inj e)).mp h
theorem door_ix47 {p : Pl} (ok : p.Ok) {r : Nat} {z : Str} (hr : r < p.rooms.length) (hz : z ∈ p.letters) : ixD M (.tup (p.rooms[r].map doorD)) (.int (ixOf z p.letters : Nat)) = some (doorD (p.door' r z)) := by
  have hrow : p.rooms[r]? = some p.rooms[r] := by simp [hr]
  have hl : ixOf z p.letters < p.rooms[r].length := by rw [ok.row _ (List.getElem_mem hr)]; exact ixOf_lt hz
  refine ix_tup ?_
  unfold Pl.door'
  rw [List.getElem?_map, hrow]
  simp [hl]
theorem door_in47 {p : Pl} (ok : p.Ok) {r : Nat} {z : Str} (hr : r < p.rooms.length) (hz : z ∈ p.letters) : p.door' r z ∈ p.rooms[r] := by
  have hrow : p.rooms[r]? = some p.rooms[r] := by simp [hr]
  have hl : ixOf z p.letters < p.rooms[r].length := by rw [ok.row _ (List.getElem_mem hr)]; exact ixOf_lt hz
  have : p.door' r z = p.rooms[r][ixOf z p.letters] := by
    unfold Pl.door'
    rw [hrow]
    simp [hl]
  rw [this]
  exact List.getElem_mem hl
theorem door_ok47 {p : Pl} (ok : p.Ok) {r : Nat} {z s : Str} {n : Nat} (hr : r < p.rooms.length) (hz : z ∈ p.letters) (h : p.door' r z = some (s, n)) : s ∈ p.signs ∧ n < p.rooms.length :=
  ok.door _ (List.getElem_mem hr) s n (by rw [← h]; exact door_in47 ok hr hz)
theorem door_full47 {p : Pl} (ok : p.Ok) (hf : p.fullB = true) {r : Nat} {z : Str} (hr : r < p.rooms.length) (hz : z ∈ p.letters) : ∃ s n, p.door' r z = some (s, n) := by
  have h1 := List.all_eq_true.mp hf _ (List.getElem_mem hr)
  have h2 := List.all_eq_true.mp h1 _ (door_in47 ok hr hz)
  obtain ⟨⟨s, n⟩, e⟩ := Option.isSome_iff_exists.mp h2
  exact ⟨s, n, e⟩
theorem tellS_len {p : Pl} (ok : p.Ok) (hf : p.fullB = true) : ∀ {w : List Str} {r : Nat}, r < p.rooms.length → WordP p w → (p.tellS w r).length = w.length
  | [], _, _, _ => rfl
  | z :: w, r, hr, hw => by
    obtain ⟨s, n, e⟩ := door_full47 ok hf hr (hw z List.mem_cons_self)
    have h2 := door_ok47 ok hr (hw z List.mem_cons_self) e
    rw [Pl.tellS, e]
    show (s :: p.tellS w n).length = _
    rw [List.length_cons, tellS_len ok hf h2.2 fun y hy => hw y (List.mem_cons_of_mem _ hy), List.length_cons]
theorem tellS_take {p : Pl} : ∀ {w : List Str} {r k : Nat}, p.tellS (w.take k) r = (p.tellS w r).take k
  | [], _, _ => by rw [List.take_nil, Pl.tellS, List.take_nil]
  | z :: w, r, 0 => rfl
  | z :: w, r, k + 1 => by
    rw [List.take_succ_cons, Pl.tellS, Pl.tellS]
    cases e : p.door' r z with
    | none => rfl
    | some q =>
      obtain ⟨s, n⟩ := q
      show s :: p.tellS (w.take k) n = (s :: p.tellS w n).take (k + 1)
      rw [tellS_take, List.take_succ_cons]
theorem tellS_in {p : Pl} (ok : p.Ok) : ∀ {w : List Str} {r : Nat}, r < p.rooms.length → WordP p w → ∀ s ∈ p.tellS w r, s ∈ p.signs
  | [], _, _, _, _, h => by cases h
  | z :: w, r, hr, hw, s, h => by
    rw [Pl.tellS] at h
    cases e : p.door' r z with
    | none => rw [e] at h; cases h
    | some q =>
      obtain ⟨s', n⟩ := q
      rw [e] at h
      have h2 := door_ok47 ok hr (hw z List.mem_cons_self) e
      rcases List.mem_cons.mp h with rfl | h
      · exact h2.1
      · exact tellS_in ok h2.2 (fun y hy => hw y (List.mem_cons_of_mem _ hy)) s h
structure KvR (h : Pl) (kv : List (List Key × D)) (rows : List (List Str)) : Prop where
  yes : ∀ (w : List Str) (s : Str), w ≠ [] → Begun rows w → (h.tellS w 0)[w.length - 1]? = some s → valD kv (keyW w) = some (.str s)
  no : ∀ k d, valD kv k = some d → ∃ (w : List Str) (s : Str), k = keyW w ∧ w ≠ [] ∧ Begun rows w ∧ (h.tellS w 0)[w.length - 1]? = some s ∧ d = .str s
theorem KvR.nil {h : Pl} : KvR h [] [] where
  yes := fun w s hn hb => by
    rcases hb with hb | ⟨r, hr, _⟩
    · exact absurd hb hn
    · cases hr
  no := fun k d h => by cases h
theorem Begun.pre {rows : List (List Str)} {w : List Str} (h : Begun rows w) (k : Nat) : Begun rows (w.take k) := by
  rcases h with rfl | ⟨r, hr, e⟩
  · exact .inl (List.take_nil ..)
  · refine .inr ⟨r, hr, ?_⟩
    have e2 : w.take k = r.take (min k w.length) := by
      conv => lhs; rw [← e]
      rw [List.take_take]
    rw [List.length_take, e2]
theorem Begun.self {rows : List (List Str)} {w : List Str} (h : w ∈ rows) : Begun rows w := .inr ⟨w, h, List.take_length ..⟩
theorem Begun.more {rows more : List (List Str)} {w : List Str} (h : Begun rows w) : Begun (rows ++ more) w := by
  rcases h with h | ⟨r, hr, e⟩
  · exact .inl h
  · exact .inr ⟨r, List.mem_append_left _ hr, e⟩
theorem take_idx {p : Pl} {w : List Str} {j : Nat} (hj : j < w.length) : (p.tellS (w.take (j + 1)) 0)[(w.take (j + 1)).length - 1]? = (p.tellS w 0)[j]? := by
  rw [tellS_take, List.length_take, show min (j + 1) w.length - 1 = j by omega, List.getElem?_take_of_lt (Nat.lt_succ_self j)]
theorem take_ne {w : List Str} {j : Nat} (hj : j < w.length) : w.take (j + 1) ≠ [] := fun e => by
  have := congrArg List.length e
  rw [List.length_take] at this
  have h0 : ([] : List Str).length = 0 := rfl
  omega
theorem KvR.ok {h : Pl} {kv : List (List Key × D)} {rows : List (List Str)} (okh : h.Ok) (R : KvR h kv rows) (hr : ∀ w ∈ rows, WordP h w) : KvOk kv := fun k d hd => by
  obtain ⟨w, s, k1, k2, k3, k4, k5⟩ := R.no k d hd
  refine ⟨s, k5, ?_⟩
  have hw : WordP h w := by
    rcases k3 with rfl | ⟨r, hr', e⟩
    · intro z hz; cases hz
    · intro z hz; rw [← e] at hz; exact hr r hr' z (List.mem_of_mem_take hz)
  exact strOk_name (okh.ss.1 s (tellS_in okh (by have := okh.lo; omega) hw s (List.mem_of_getElem? k4)))
theorem KvR.put {h : Pl} {kv kv' : List (List Key × D)} {rows : List (List Str)} {w : List Str} (ok : h.Ok) (hf : h.fullB = true) (hw : WordP h w) (R : KvR h kv rows) (P : PutTo kv w (h.tellS w 0) kv') : KvR h kv' (rows ++ [w]) := by
  have hl := tellS_len ok hf (r := 0) (by have := ok.lo; omega) hw
  constructor
  · intro u s hn hb hs
    by_cases hu : ∃ j, j < (h.tellS w 0).length ∧ u = w.take (j + 1)
    · obtain ⟨j, hj, rfl⟩ := hu
      rw [take_idx (by omega)] at hs
      exact P.at_ j s hs
    · rw [P.old _ fun j hj e => hu ⟨j, hj, keyW_inj e⟩]
      refine R.yes u s hn ?_ hs
      rcases hb with hb | ⟨r, hr, e⟩
      · exact .inl hb
      · rcases List.mem_append.mp hr with hr | hr
        · exact .inr ⟨r, hr, e⟩
        · rw [List.mem_singleton.mp hr] at e
          have hpos : 0 < u.length := List.length_pos_iff.mpr hn
          have hlu : u.length ≤ w.length := by rw [← e, List.length_take]; omega
          exact absurd ⟨u.length - 1, by omega, by rw [show u.length - 1 + 1 = u.length by omega]; exact e.symm⟩ hu
  · intro k d hd
    by_cases hk : ∃ j, j < (h.tellS w 0).length ∧ k = keyW (w.take (j + 1))
    · obtain ⟨j, hj, rfl⟩ := hk
      have e1 : (h.tellS w 0)[j]? = some (h.tellS w 0)[j] := List.getElem?_eq_getElem hj
      rw [P.at_ j _ e1] at hd
      refine ⟨w.take (j + 1), _, rfl, take_ne (by omega), (Begun.self (rows := rows ++ [w]) (List.mem_append_right _ List.mem_cons_self)).pre _, by rw [take_idx (by omega)]; exact e1, ?_⟩
      cases hd; rfl
    · rw [P.old _ fun j hj e => hk ⟨j, hj, e⟩] at hd
      obtain ⟨u, s, k1, k2, k3, k4, k5⟩ := R.no k d hd
      exact ⟨u, s, k1, k2, k3.more, k4, k5⟩
def without (cs : List Addr) (M : Mem) : Mem := fun b => if b ∈ cs then none else M b
theorem without_in {cs : List Addr} {b : Addr} (h : b ∈ cs) : without cs M b = none := if_pos h
theorem without_ne {cs : List Addr} {b : Addr} (h : b ∉ cs) : without cs M b = M b := if_neg h
theorem addM_of {cs : List Addr} {ds : List D} {M M' : Mem} (nd : cs.Nodup) (hl : cs.length = ds.length) (h : ∀ (i : Nat) (c : Addr) (d : D), cs[i]? = some c → ds[i]? = some d → M c = some (celM d)) (h' : ∀ b, b ∉ cs → M' b = M b) : addM cs ds M' = M := funext fun b => by
  by_cases hb : b ∈ cs
  · obtain ⟨i, hi, rfl⟩ := List.mem_iff_getElem.mp hb
    have e1 : cs[i]? = some cs[i] := List.getElem?_eq_getElem hi
    have e2 : ds[i]? = some (ds[i]'(by omega)) := List.getElem?_eq_getElem (by omega)
    rw [addM_at nd e1 e2, h i _ _ e1 e2]
  · rw [addM_ne hb, h' b hb]
end
end BB
set_option maxHeartbeats 8000000
namespace BB
open L2 PySem PySem.Spec PyProof.Rows
local macro_rules | `(tactic| walk_at "bb") => `(tactic| first
  | (with_reducible refine i_c ?_) | (with_reducible refine i_n ?_) | (with_reducible refine i_op ?_) | (with_reducible refine i_cons ?_) | (with_reducible refine i_nil ?_) | (with_reducible refine i_cb ?_)
  | (with_reducible refine i_seq ?_) | (with_reducible refine i_set ?_) | (with_reducible refine i_ret ?_) | (with_reducible refine i_if ?_) | (with_reducible refine i_drop ?_) | (with_reducible refine i_par ?_) | (with_reducible refine i_setF ?_) | (with_reducible refine i_raise ?_) | (with_reducible refine i_raiseI ?_) | (with_reducible refine i_asg ?_)
  | (with_reducible refine i_test ?_) | (with_reducible refine i_chain ?_) | (with_reducible refine i_tru ?_) | (with_reducible refine i_and ?_) | (with_reducible refine i_or ?_) | (with_reducible refine i_not ?_)
  | (with_reducible refine i_andv ?_) | (with_reducible refine i_orv ?_) | (with_reducible refine i_notv ?_) | (with_reducible refine i_ifx ?_) | (with_reducible refine i_tup ?_) | (with_reducible refine i_lst ?_) | (with_reducible refine i_lstM ?_)
  | (with_reducible refine i_neg ?_) | (with_reducible refine i_call ?_) | (with_reducible refine i_callK ?_) | (with_reducible refine i_meth ?_) | (with_reducible refine i_fld ?_) | (with_reducible refine i_tupIx ?_) | (with_reducible refine i_app ?_)
  | (with_reducible refine i_join ?_) | (with_reducible refine i_sl ?_) | (with_reducible refine i_part ?_) | (with_reducible refine i_nopart ?_) | (with_reducible refine i_next ?_) | (with_reducible refine i_retN ?_)
  | (with_reducible refine i_gname ?_) | (with_reducible refine i_gcons ?_) | (with_reducible refine i_gnil ?_) | (with_reducible refine i_seqI ?_) | (with_reducible refine i_rng1 ?_) | (with_reducible refine i_enum ?_) | (with_reducible refine i_zip2 ?_)
  | (with_reducible refine i_keys ?_) | (with_reducible refine i_updT ?_) | (with_reducible refine i_popI ?_) | (with_reducible refine i_lcM ?_) | (with_reducible refine i_parD ?_) | (with_reducible refine i_tupH ?_) | (with_reducible refine i_dispT ?_) | (with_reducible refine i_dget ?_) | (with_reducible refine i_dget1 ?_) | (with_reducible refine i_dget2 ?_) | (with_reducible refine i_dput ?_) | (with_reducible refine i_while ?_) | (with_reducible refine i_newT ?_) | (with_reducible refine i_newK ?_) | (with_reducible refine i_dispK ?_)
  | (with_reducible refine i_yes ?_) | (with_reducible refine i_for ?_) | (with_reducible refine i_lc ?_)
  | ((with_reducible refine i_var (d := ?bbd) ?bbh ?bbq); (case bbh => rfl)) | ((with_reducible refine i_rdo (d := ?bbd) ?bbh ?bbq); (case bbh => rfl); (try dsimp only)) | ((with_reducible refine i_rd1 (d := ?bbd) ?bbh ?bbq); (case bbh => rfl); (try dsimp only))
  | (with_reducible refine i_itt ?_) | (with_reducible refine i_nf ?_) | (with_reducible refine i_nt ?_) | (with_reducible refine i_itf ?_)
  | ((with_reducible show rdIsi _ _ _); first | refine i_isi rfl kb_int_int ?_ | refine i_isi rfl kb_int_bool ?_ | refine i_isi rfl kb_str_str ?_ | refine i_isi rfl kb_tup_tup ?_)
  | (with_reducible refine ⟨_, rfl, ?_⟩)
  | ((with_reducible show wkD _ _ _); first | refine wk_tup ?_ | refine wk_lst ?_ | refine wk_str ?_)
  | ((with_reducible show rdEq _ _ _ _); refine i_eqI ?_) | ((with_reducible show rdNe _ _ _ _); refine i_neI ?_)
  | ((with_reducible show ite _ _ _); refine i_itt ?_) | ((with_reducible show ite _ _ _); refine i_itf ?_))
local macro_rules | `(tactic| walk_at "bbs") => `(tactic| repeat walk_at "bb")
section
variable {K : PySem.W.Frag} {ds : List D} {M : Mem} {Q : DKt} {E : DX}
theorem lw_Plan_signs (h : sp_Plan_signs K ds M Q E) : rd_Plan_signs K (wd E) (ends Q) (startD ["self"] ds) M := by
  obtain ⟨o, rfl, p, rfl, q⟩ := h
  unfold rd_Plan_signs
  walk_at "bbs"
  exact .done q
theorem lw__law_pick (h : sp__law_pick K ds M Q E) : rd__law_pick K (wd E) (ends Q) (startD ["_law_state", "_law_some"] ds) M := by
  obtain ⟨s, x, rfl, a, c, rfl, hm, h⟩ := h
  have hs := sizeLine_eq
  unfold rd__law_pick
  rcases h with ⟨xs, hs, h1, h2, k⟩ | ⟨z, rfl, h1, h2, k⟩
  · have ns : ∀ z, nrm x ≠ .str z := fun z e => by rw [e] at hs; cases hs
    have hl : lenD M (nrm x) = some (.int xs.length) := by
      unfold lenD
      split
      · rename_i z e; exact absurd e (ns z)
      · rw [hs]; rfl
    walk_at "bbs"
    refine i_rd1 hl ?_
    walk_at "bbs"
    refine c_drawP hm (by omega) (by omega) fun r h3 h4 => ?_
    obtain ⟨n, rfl⟩ := Int.eq_ofNat_of_zero_le h3
    have hn : n < xs.length := by omega
    refine i_rdo (ix_seq_of ns hs (List.getElem?_eq_getElem hn)) ?_
    exact .done (k _ (List.getElem_mem hn))
  · walk_at "bbs"
    refine i_rd1 (d := .int z.length) (if_pos (by omega)) ?_
    walk_at "bbs"
    refine c_drawP hm (by omega) (by omega) fun r h3 h4 => ?_
    obtain ⟨cc, hcc, e2⟩ := ix_sign (M := M) (z := z) (by omega) h3 (by rw [← len_cps]; exact h4)
    refine i_rdo e2 ?_
    exact .done (k _ hcc)
def cand5 (z : Str) (c : Nat) : Str := cutS z none (some ((5 : Nat) : Int)) ++ ⟨#[c]⟩
theorem cand5_inj {z : Str} {c d : Nat} (h : cand5 z c = cand5 z d) : c = d := by
  have h2 : (cand5 z c).cps.toList = (cand5 z d).cps.toList := by rw [h]
  unfold cand5 at h2
  rw [app_cps, app_cps] at h2
  have h3 := List.append_cancel_left h2
  exact (List.cons.inj h3).1
theorem cands5_nodup (z : Str) : (SMALLS.cps.toList.map (cand5 z)).Nodup := by
  refine List.pairwise_map.mpr (small_nodup.imp fun h e => h (cand5_inj e))
theorem some_new5 {z : Str} {zs : List Str} (h : zs.length < 26) : ((z :: SMALLS.cps.toList.map (cand5 z)).filter fun y => !decide (y ∈ zs)) ≠ [] := by
  intro e
  have hsub : SMALLS.cps.toList.map (cand5 z) ⊆ zs := fun y hy => by
    have := List.filter_eq_nil_iff.mp e y (List.mem_cons_of_mem _ hy)
    simpa using this
  have := (cands5_nodup z).length_le_of_subset hsub
  rw [List.length_map, small_len] at this
  omega
theorem names_tail47 {T : EndsD} {a p : Addr} {m : Int} {z : Str} {zs : List Str} {xs5 : List D} {x5 x6 : Option D} (hp : M p = some (.lst (zs.map .str))) (hz : isNameB z = true) (hzs : ∀ z ∈ zs, isNameB z = true) (hl : zs.length < 26)
    (hT : ∀ y, isNameB y = true → y ∉ zs → ∀ x6, T.nx [some (.ref a), some (.int m), some (.lst xs5), some (.ref p), some (.str z), x5, x6, none, none, none] (mset M p (.lst ((zs ++ [y]).map .str)))) :
    (dSeq (dSet 6 (dOp (rdO addD) (dN (dLst (dCons (dVar 4) (dNil)))) (dN (dLc (dSeqI (dN (dC (.str "abcdefghijklmnopqrstuvwxyz")))) (gdName 8) dYes (dOp (rdO addD) (dN (dSl (dN (dVar 4)) dNoPart (dPart (dC (.int 5))))) (dN (dVar 8))) [8]))))
  (dDrop (dApp (dVar 3) (dOp (rdO ixD) (dN (dLc (dSeqI (dN (dVar 6))) (gdName 9) (dTest (dOp (rdIn true) (dN (dVar 9)) (dN (dVar 3)))) (dVar 9) [9])) (dC (.int 0)))))) T [some (.ref a), some (.int m), some (.lst xs5), some (.ref p), some (.str z), x5, x6, none, none, none] M := by
  have h26 := small_len
  have hs := sizeLine_eq
  walk_at "bbs"
  refine ⟨by show 1 ≤ sizeLine; omega, ?_⟩
  walk_at "bbs"
  refine ⟨by unfold signs; rw [List.length_map]; show SMALLS.cps.toList.length ≤ _; omega, fun i acc M' => acc = ((SMALLS.cps.toList.take i).map (cand5 z)).map D.str ∧ M' = M, ⟨rfl, rfl⟩, fun _ _ _ _ => trivial, ?_, ?_⟩
  · rintro i d acc M2 hd ⟨rfl, rfl⟩
    obtain ⟨c, hc, rfl⟩ := signs_at hd
    walk_at "bbs"
    refine ⟨_, sl_to (n := 5) (name_size hz), ?_⟩
    walk_at "bbs"
    refine i_rdoN (addD_str ?_) ?_
    · have h1 := len_cps (cutS z none (some ((5 : Nat) : Int)))
      rw [cutS_to, List.length_take] at h1
      have h2 : (⟨#[c]⟩ : Str).length = 1 := rfl
      omega
    · refine ⟨?_, rfl⟩
      rw [List.map_map, List.map_map]
      exact take_map_succ (fun c => D.str (cand5 z c)) hc
  · rintro acc M2 ⟨rfl, rfl⟩
    have hlen : (signs ("abcdefghijklmnopqrstuvwxyz" : Str)).length = 26 := by unfold signs; rw [List.length_map]; exact small_len
    rw [hlen, List.take_of_length_le (by omega)]
    refine i_rdoN (addD_lst (by rw [List.length_map, List.length_map]; show 1 + _ ≤ _; omega)) ?_
    refine .done ?_
    walk_at "bbs"
    refine ⟨p, _, rfl, hp, ?_⟩
    walk_at "bbs"
    have e0 : [D.str z] ++ (SMALLS.cps.toList.map (cand5 z)).map D.str = (z :: SMALLS.cps.toList.map (cand5 z)).map D.str := rfl
    rw [e0]
    refine ⟨by rw [List.length_map, List.length_cons, List.length_map]; omega, fun i acc M' => acc = (((z :: SMALLS.cps.toList.map (cand5 z)).take i).filter fun y => !decide (y ∈ zs)).map D.str ∧ M' = M2, ⟨rfl, rfl⟩, fun _ _ _ _ => trivial, ?_, ?_⟩
    · rintro i d acc M3 hd ⟨rfl, rfl⟩
      obtain ⟨y, hy, rfl⟩ := strs_at hd
      walk_at "bbs"
      refine i_inS (by rw [show nrm (D.ref p) = D.ref p from rfl]; exact seqOf_ref hp) ?_
      rw [if_pos rfl]
      walk_at "bbs"
      have hsucc : ((z :: SMALLS.cps.toList.map (cand5 z)).take (i + 1)).filter (fun y => !decide (y ∈ zs)) = ((z :: SMALLS.cps.toList.map (cand5 z)).take i).filter (fun y => !decide (y ∈ zs)) ++ (if y ∈ zs then [] else [y]) := by
        rw [← take_succ_of hy, List.filter_append]
        congr 1
        by_cases hyz : y ∈ zs <;> simp [hyz]
      by_cases hyz : y ∈ zs
      · rw [decide_eq_true hyz]
        walk_at "bbs"
        refine ⟨?_, rfl⟩
        rw [hsucc, if_pos hyz, List.append_nil]
      · rw [decide_eq_false hyz]
        walk_at "bbs"
        refine ⟨?_, rfl⟩
        rw [hsucc, if_neg hyz, List.map_append]
        rfl
    · rintro acc M3 ⟨rfl, rfl⟩
      walk_at "bbs"
      rw [List.length_map, List.take_length]
      have hne := some_new5 (z := z) hl
      cases hf : (z :: SMALLS.cps.toList.map (cand5 z)).filter (fun y => !decide (y ∈ zs)) with
      | nil => exact absurd hf hne
      | cons y r =>
        have hy : y ∈ (z :: SMALLS.cps.toList.map (cand5 z)).filter (fun y => !decide (y ∈ zs)) := by rw [hf]; exact List.mem_cons_self
        obtain ⟨hy1, hy2⟩ := List.mem_filter.mp hy
        refine i_rdoN (ix_lst (i := 0) (d := .str y) rfl) ?_
        refine ⟨_, hp, by rw [List.length_map]; omega, ?_⟩
        have hyn : isNameB y = true := by
          rcases List.mem_cons.mp hy1 with e | hy1
          · rw [e]; exact hz
          · obtain ⟨c, hc, rfl⟩ := List.mem_map.mp hy1
            exact name_more hz (by omega) hc
        have key := hT y hyn (by simpa using hy2)
        rw [List.map_append] at key
        exact key _
def own47 : List Str := ["a", "b", "ab", "word", "room", "plan", "point", "clash", "box", "x", "y", "z", "sign", "letter"]
theorem own47_ok : ∀ z ∈ own47, isNameB z = true := by decide +kernel
theorem lw__law_names (h : sp__law_names K ds M Q E) : rd__law_names K (wd E) (ends Q) (startD ["_law_state", "_law_size", "_law_own", "_law_gained", "_law_name", "_law_small", "_law_others", "_law_k", "_law_sign", "_law_one"] ds) M := by
  obtain ⟨s, n, rfl, a, c, m, rfl, hm, rfl, h0, h1, q⟩ := h
  have hs := sizeLine_eq
  unfold rd__law_names
  walk_at "bbs"
  refine ⟨by show 14 ≤ sizeLine; omega, ?_⟩
  refine .done ?_
  walk_at "bbs"
  refine ⟨Nat.zero_le _, fun p hp => ?_⟩
  refine .done ?_
  have hma : ∀ {x}, (mset M p x) a = some (.gen c) := fun {x} => by rw [mset_ne (mem_ne hm hp)]; exact hm
  walk_at "bbs"
  have inv : ∀ (zs : List Str) (y : Str), (∀ z ∈ zs, isNameB z = true) → zs.Nodup → isNameB y = true → y ∉ zs → (∀ x ∈ zs ++ [y], isNameB x = true) ∧ (zs ++ [y]).Nodup := fun zs y hz hnd hy hyn => ⟨fun x hx => by
      rcases List.mem_append.mp hx with hx | hx
      · exact hz x hx
      · rw [List.mem_singleton.mp hx]; exact hy, List.nodup_append.mpr ⟨hnd, (by simp), fun x hx w hw e => hyn (by rw [← List.mem_singleton.mp hw, ← e]; exact hx)⟩⟩
  refine ⟨fun k env M' => ∃ (zs : List Str) (x4 x5 x6 : Option D), env = [some (.ref a), some (.int m), some (.lst (own47.map .str)), some (.ref p), x4, x5, x6, none, none, none] ∧ M' = mset M p (.lst (zs.map .str)) ∧ (∀ z ∈ zs, isNameB z = true) ∧ zs.Nodup ∧ zs.length ≤ m.toNat ∧ k = m.toNat - zs.length,
    ⟨m.toNat, [], none, none, none, rfl, rfl, (by intro _ h; cases h), List.nodup_nil, Nat.zero_le _, rfl⟩, ?_⟩
  rintro k env M2 ⟨zs, x4, x5, x6, rfl, rfl, hz, hnd, hle, rfl⟩
  walk_at "bbs"
  refine i_rd1 (d := .int zs.length) (by show (seqOf _ _).map _ = _; rw [show nrm (D.ref p) = D.ref p from rfl, seqOf_ref mset_same]; simp) ?_
  walk_at "bbs"
  by_cases hlt : (zs.length : Int) < m
  · rw [decide_eq_true hlt]
    walk_at "bbs"
    refine c_pickL hma (x := .lst (own47.map .str)) rfl (by rw [List.length_map]; decide) (by rw [List.length_map]; decide) fun d hd => ?_
    obtain ⟨z0, hz0', rfl⟩ := List.mem_map.mp hd
    have hz0 := own47_ok z0 hz0'
    refine .done ?_
    walk_at "bbs"
    refine c_drawP hma (by omega) (by omega) fun r h4 h5 => ?_
    walk_at "bbs"
    by_cases hr : r = 0
    · rw [decide_eq_true hr]
      walk_at "bbs"
      refine .done ?_
      walk_at "bbs"
      refine c_drawP hma (by omega) (by omega) fun r6 h6 h7 => ?_
      walk_at "bbs"
      refine ⟨by omega, by omega, by rw [rng_len, sizeLine_eq]; omega, fun i acc M' => M' = mset M p (.lst (zs.map .str)) ∧ ∃ zz : List Str, acc = zz.map .str ∧ zz.length = i ∧ ∀ z ∈ zz, ∃ c, c ∈ SMALLS.cps.toList ∧ z = ⟨#[c]⟩, ⟨rfl, [], rfl, rfl, fun _ h => by cases h⟩, fun _ _ _ _ => trivial, ?_, ?_⟩
      · rintro i d acc M2 hd' ⟨rfl, zz, rfl, hl, hzz⟩
        walk_at "bbs"
        refine c_pickS hma (z := SMALLS) (by rw [len_cps, small_len]; decide) (by rw [len_cps, small_len]; decide) fun cc hcc => ?_
        refine ⟨rfl, zz ++ [⟨#[cc]⟩], by rw [List.map_append]; rfl, by simp [hl], fun z hz' => ?_⟩
        rcases List.mem_append.mp hz' with hz' | hz'
        · exact hzz z hz'
        · exact ⟨cc, hcc, List.mem_singleton.mp hz'⟩
      · rintro acc M2 ⟨rfl, zz, rfl, hl, hzz⟩
        rw [rng_len] at hl
        walk_at "bbs"
        refine ⟨?_, ?_⟩
        · have e1 : (zz.map fun x => x.length) = List.replicate zz.length 1 := by
            rw [List.eq_replicate_iff]
            refine ⟨by rw [List.length_map], fun b hb => ?_⟩
            obtain ⟨z, hz', rfl⟩ := List.mem_map.mp hb
            obtain ⟨cc, _, rfl⟩ := hzz z hz'
            rfl
          rw [e1, List.sum_replicate_nat, show (("" : Str)).length = 0 from rfl]
          omega
        · refine .done ?_
          refine names_tail47 mset_same (join_small (by omega) (by omega) hzz) hz (by omega) fun y hy hyn x6 => ?_
          obtain ⟨i1, i2⟩ := inv zs y hz hnd hy hyn
          exact .done ⟨m.toNat - (zs.length + 1), by omega, zs ++ [y], _, _, _, rfl, by rw [mset_mset], i1, i2, by rw [List.length_append, List.length_singleton]; omega, by rw [List.length_append, List.length_singleton]⟩
    · rw [decide_eq_false hr]
      walk_at "bbs"
      refine .done ?_
      refine names_tail47 mset_same hz0 hz (by omega) fun y hy hyn x6 => ?_
      obtain ⟨i1, i2⟩ := inv zs y hz hnd hy hyn
      exact .done ⟨m.toNat - (zs.length + 1), by omega, zs ++ [y], _, _, _, rfl, by rw [mset_mset], i1, i2, by rw [List.length_append, List.length_singleton]; omega, by rw [List.length_append, List.length_singleton]⟩
  · rw [decide_eq_false hlt]
    walk_at "bbs"
    refine .done ?_
    walk_at "bbs"
    have hlen : zs.length = m.toNat := by omega
    refine ⟨_, rfl, zs, by rw [show nrm (D.ref p) = D.ref p from rfl]; exact lstOf_ref mset_same, by omega, fun ys hperm hsort => ?_⟩
    walk_at "bbs"
    first | refine ⟨_, rfl, _, rfl, ?_⟩ | skip
    refine .drop p mset_same rfl ?_
    rw [mdel_mset hp]
    have hl2 := hperm.length_eq
    exact .done (q ys ⟨fun y hy => hz y (hperm.subset hy), sorted_pw hsort (hperm.nodup_iff.mpr hnd), by omega, by omega⟩)
end
end BB
set_option maxHeartbeats 8000000
namespace BB
open L2 PySem PySem.Spec PyProof.Rows
local macro_rules | `(tactic| walk_at "bb") => `(tactic| first
  | (with_reducible refine i_c ?_) | (with_reducible refine i_n ?_) | (with_reducible refine i_op ?_) | (with_reducible refine i_cons ?_) | (with_reducible refine i_nil ?_) | (with_reducible refine i_cb ?_)
  | (with_reducible refine i_seq ?_) | (with_reducible refine i_set ?_) | (with_reducible refine i_ret ?_) | (with_reducible refine i_if ?_) | (with_reducible refine i_drop ?_) | (with_reducible refine i_par ?_) | (with_reducible refine i_setF ?_) | (with_reducible refine i_raise ?_) | (with_reducible refine i_raiseI ?_) | (with_reducible refine i_asg ?_)
  | (with_reducible refine i_test ?_) | (with_reducible refine i_chain ?_) | (with_reducible refine i_tru ?_) | (with_reducible refine i_and ?_) | (with_reducible refine i_or ?_) | (with_reducible refine i_not ?_)
  | (with_reducible refine i_andv ?_) | (with_reducible refine i_orv ?_) | (with_reducible refine i_notv ?_) | (with_reducible refine i_ifx ?_) | (with_reducible refine i_tup ?_) | (with_reducible refine i_lst ?_) | (with_reducible refine i_lstM ?_)
  | (with_reducible refine i_neg ?_) | (with_reducible refine i_call ?_) | (with_reducible refine i_callK ?_) | (with_reducible refine i_meth ?_) | (with_reducible refine i_fld ?_) | (with_reducible refine i_tupIx ?_) | (with_reducible refine i_app ?_)
  | (with_reducible refine i_join ?_) | (with_reducible refine i_sl ?_) | (with_reducible refine i_part ?_) | (with_reducible refine i_nopart ?_) | (with_reducible refine i_next ?_) | (with_reducible refine i_retN ?_)
  | (with_reducible refine i_gname ?_) | (with_reducible refine i_gcons ?_) | (with_reducible refine i_gnil ?_) | (with_reducible refine i_seqI ?_) | (with_reducible refine i_rng1 ?_) | (with_reducible refine i_enum ?_) | (with_reducible refine i_zip2 ?_)
  | (with_reducible refine i_keys ?_) | (with_reducible refine i_updT ?_) | (with_reducible refine i_popI ?_) | (with_reducible refine i_lcM ?_) | (with_reducible refine i_parD ?_) | (with_reducible refine i_tupH ?_) | (with_reducible refine i_dispT ?_) | (with_reducible refine i_dget ?_) | (with_reducible refine i_dget1 ?_) | (with_reducible refine i_dget2 ?_) | (with_reducible refine i_dput ?_) | (with_reducible refine i_while ?_) | (with_reducible refine i_newT ?_) | (with_reducible refine i_newK ?_) | (with_reducible refine i_dispK ?_)
  | (with_reducible refine i_yes ?_) | (with_reducible refine i_for ?_) | (with_reducible refine i_lc ?_)
  | ((with_reducible refine i_var (d := ?bbd) ?bbh ?bbq); (case bbh => rfl)) | ((with_reducible refine i_rdo (d := ?bbd) ?bbh ?bbq); (case bbh => rfl); (try dsimp only)) | ((with_reducible refine i_rd1 (d := ?bbd) ?bbh ?bbq); (case bbh => rfl); (try dsimp only))
  | (with_reducible refine i_itt ?_) | (with_reducible refine i_nf ?_) | (with_reducible refine i_nt ?_) | (with_reducible refine i_itf ?_)
  | ((with_reducible show rdIsi _ _ _); first | refine i_isi rfl kb_int_int ?_ | refine i_isi rfl kb_int_bool ?_ | refine i_isi rfl kb_str_str ?_ | refine i_isi rfl kb_tup_tup ?_)
  | (with_reducible refine ⟨_, rfl, ?_⟩)
  | ((with_reducible show wkD _ _ _); first | refine wk_tup ?_ | refine wk_lst ?_ | refine wk_str ?_)
  | ((with_reducible show rdEq _ _ _ _); refine i_eqI ?_) | ((with_reducible show rdNe _ _ _ _); refine i_neI ?_)
  | ((with_reducible show ite _ _ _); refine i_itt ?_) | ((with_reducible show ite _ _ _); refine i_itf ?_))
local macro_rules | `(tactic| walk_at "bbs") => `(tactic| repeat walk_at "bb")
section
variable {K : PySem.W.Frag} {ds : List D} {M : Mem} {Q : DKt} {E : DX}
def Row47 (ss : List Str) (n : Nat) (r : List Door) : Prop := ∀ s m, some (s, m) ∈ r → s ∈ ss ∧ m < n
theorem row47_add {ss : List Str} {n : Nat} {r : List Door} {d : Door} (h : Row47 ss n r) (hd : Row47 ss n [d]) : Row47 ss n (r ++ [d]) := fun s m e => by
  rcases List.mem_append.mp e with e | e
  · exact h s m e
  · exact hd s m e
theorem lw__law_parts (h : sp__law_parts K ds M Q E) : rd__law_parts K (wd E) (ends Q) (startD ["_law_state", "_law_most", "_law_letters_many", "_law_open_in", "_law_names_here", "_law_ends", "_law_size", "_law_halls", "_law_k", "_law_doors", "_law_j", "_law_door"] ds) M := by
  obtain ⟨s, n, l, t, rfl, a, c, m, lm, sh, rfl, hm, rfl, rfl, rfl, m1, m2, l1, l2, s1, s2, q⟩ := h
  have hs := sizeLine_eq
  unfold rd__law_parts
  walk_at "bbs"
  refine c_names hm l1 (by omega) fun ls hls => ?_
  walk_at "bbs"
  refine c_drawP hm (by omega) (by omega) fun r0 a3 a4 => ?_
  walk_at "bbs"
  refine c_names hm (by omega) (by omega) fun ss hss => ?_
  refine .done ?_
  walk_at "bbs"
  refine c_drawP hm (by omega) (by omega) fun r h3 h4 => ?_
  obtain ⟨j, rfl⟩ := Int.eq_ofNat_of_zero_le h3
  obtain ⟨n, hn⟩ : ∃ n : Nat, (1 : Int) + j = n := ⟨1 + j, by omega⟩
  have hssl : 2 ≤ ss.length ∧ ss.length ≤ 3 := by have h1 := hss.2.2.1; have h2 := hss.2.2.2; omega
  have hlsl : (ls.length : Int) = lm := by have h1 := hls.2.2.1; have h2 := hls.2.2.2; omega
  walk_at "bbs"
  rw [hn]
  refine .done ?_
  walk_at "bbs"
  refine ⟨by show 0 ≤ sizeLine; omega, fun ph hph => ?_⟩
  have hma : ∀ {x}, (mset M ph x) a = some (.gen c) := fun {x} => by rw [mset_ne (mem_ne hm hph)]; exact hm
  refine .done ?_
  walk_at "bbs"
  refine ⟨by omega, by omega, ?_⟩
  refine ⟨fun i env M' => ∃ (rs : List (List Door)) (x8 x9 x10 x11 : Option D), env = [some (.ref a), some (.int m), some (.int lm), some (.int sh), some (namesD ls), some (namesD ss), some (.int n), some (.ref ph), x8, x9, x10, x11] ∧ M' = mset M ph (.lst (rs.map fun r => .tup (r.map doorD))) ∧ rs.length = i ∧ ∀ r ∈ rs, r.length = ls.length ∧ Row47 ss n r ∧ (sh = 0 → r.all Option.isSome = true),
    ⟨[], none, none, none, none, rfl, rfl, rfl, by intro _ h; cases h⟩, fun _ _ _ _ => trivial, ?_, ?_⟩
  · rintro i d env M2 hd ⟨rs, x8, x9, x10, x11, rfl, rfl, hrl, hrs⟩
    obtain ⟨hi, rfl⟩ := rng_at hd
    walk_at "bbs"
    refine ⟨by show 0 ≤ sizeLine; omega, fun pd hpd => ?_⟩
    have hpn : pd ≠ ph := fun e => by rw [e, mset_same] at hpd; cases hpd
    have hpd0 : M pd = none := by rw [mset_ne hpn] at hpd; exact hpd
    have hmb : ∀ {x y}, (mset (mset M ph x) pd y) a = some (.gen c) := fun {x y} => by rw [mset_ne (mem_ne hm hpd0)]; exact hma
    refine .done ?_
    walk_at "bbs"
    refine ⟨by omega, by omega, ?_⟩
    refine ⟨fun j env M' => ∃ (r : List Door) (x10 x11 : Option D), env = [some (.ref a), some (.int m), some (.int lm), some (.int sh), some (namesD ls), some (namesD ss), some (.int n), some (.ref ph), some (.int (0 + (i : Nat))), some (.ref pd), x10, x11] ∧ M' = mset (mset M ph (.lst (rs.map fun r => .tup (r.map doorD)))) pd (.lst (r.map doorD)) ∧ r.length = j ∧ Row47 ss n r ∧ (sh = 0 → r.all Option.isSome = true),
      ⟨[], _, _, rfl, rfl, rfl, (by intro _ _ h; cases h), fun _ => rfl⟩, fun _ _ _ _ => trivial, ?_, ?_⟩
    · rintro j d env M3 hd2 ⟨r, y10, y11, rfl, rfl, hr1, hr2, hr3⟩
      obtain ⟨hj, rfl⟩ := rng_at hd2
      walk_at "bbs"
      refine c_drawP hmb (by omega) (by omega) fun r5 b3 b4 => ?_
      walk_at "bbs"
      refine i_mod47 (by rw [List.length_map]; omega) ?_
      refine i_ixT47 (Int.emod_nonneg _ (by rw [List.length_map]; omega)) (Int.emod_lt_of_pos _ (by rw [List.length_map]; omega)) fun dz hdz => ?_
      obtain ⟨sg, hsg, rfl⟩ := List.mem_map.mp hdz
      walk_at "bbs"
      refine i_mod47 (by omega) ?_
      walk_at "bbs"
      refine c_drawP hmb (by omega) (by omega) fun r4 b5 b6 => ?_
      walk_at "bbs"
      refine ⟨by show 2 ≤ sizeLine; omega, ?_⟩
      walk_at "bbs"
      refine c_pickL hmb rfl (by show 1 ≤ 2; omega) (by show 2 ≤ 1000; omega) fun dn hdn => ?_
      obtain ⟨n4, hn4, rfl⟩ : ∃ n4 : Nat, n4 < n ∧ dn = .int (n4 : Nat) := by
        have g : ∀ z : Int, 0 ≤ z → z < n → ∃ n4 : Nat, n4 < n ∧ D.int z = .int (n4 : Nat) := fun z h1 h2 => by
          obtain ⟨k, rfl⟩ := Int.eq_ofNat_of_zero_le h1
          exact ⟨k, by omega, rfl⟩
        rcases List.mem_cons.mp hdn with rfl | hdn
        · exact g _ (Int.emod_nonneg _ (by omega)) (Int.emod_lt_of_pos _ (by omega))
        · rw [List.mem_singleton.mp hdn]
          exact g _ b5 b6
      walk_at "bbs"
      refine ⟨by show 2 ≤ sizeLine; omega, ?_⟩
      refine .done ?_
      have hd0 : Row47 ss n [some (sg, n4)] := fun s m h => by
        cases h with
        | head => exact ⟨hsg, hn4⟩
        | tail _ h => cases h
      walk_at "bbs"
      refine ⟨pd, _, rfl, mset_same, ?_⟩
      have fin : ∀ (dr : Door), Row47 ss n [dr] → (sh = 0 → dr.isSome = true) → ∃ xs, (mset (mset M ph (.lst (rs.map fun r => .tup (r.map doorD)))) pd (.lst (r.map doorD))) pd = some (.lst xs) ∧ xs.length < sizeLine ∧ FzS (fun env M' => ∃ (r : List Door) (x10 x11 : Option D), env = [some (.ref a), some (.int m), some (.int lm), some (.int sh), some (namesD ls), some (namesD ss), some (.int n), some (.ref ph), some (.int (0 + (i : Nat))), some (.ref pd), x10, x11] ∧ M' = mset (mset M ph (.lst (rs.map fun r => .tup (r.map doorD)))) pd (.lst (r.map doorD)) ∧ r.length = j + 1 ∧ Row47 ss n r ∧ (sh = 0 → r.all Option.isSome = true))
          [some (.ref a), some (.int m), some (.int lm), some (.int sh), some (namesD ls), some (namesD ss), some (.int n), some (.ref ph), some (.int (0 + (i : Nat))), some (.ref pd), some (.int (0 + (j : Nat))), some (.tup [.str sg, .int (n4 : Nat)])] (mset (mset (mset M ph (.lst (rs.map fun r => .tup (r.map doorD)))) pd (.lst (r.map doorD))) pd (.lst (xs ++ [doorD dr]))) := fun dr hdr hfl => by
        refine ⟨_, mset_same, by rw [List.length_map]; omega, ?_⟩
        rw [mset_mset]
        refine .done ⟨r ++ [dr], _, _, rfl, by rw [List.map_append]; rfl, by rw [List.length_append, List.length_singleton, hr1], row47_add hr2 hdr, fun h => ?_⟩
        rw [List.all_append, hr3 h, List.all_cons, hfl h]; rfl
      walk_at "bbs"
      by_cases c2 : sh > 0
      · rw [decide_eq_true c2]
        walk_at "bbs"
        refine c_drawP hmb (by omega) (by omega) fun r6 b7 b8 => ?_
        walk_at "bbs"
        by_cases c3 : r6 = 0
        · rw [decide_eq_true c3]
          walk_at "bbs"
          exact fin none (fun s n h => by cases h with | tail _ h => cases h) fun h => by omega
        · rw [decide_eq_false c3]
          walk_at "bbs"
          exact fin (some (sg, n4)) hd0 fun _ => rfl
      · rw [decide_eq_false c2]
        walk_at "bbs"
        exact fin (some (sg, n4)) hd0 fun _ => rfl
    · rintro env M3 ⟨r, y10, y11, rfl, rfl, hr1, hr2, hr3⟩
      rw [rng_len] at hr1
      refine .done ?_
      walk_at "bbs"
      refine ⟨ph, _, rfl, by rw [mset_ne hpn.symm]; exact mset_same, ?_⟩
      walk_at "bbs"
      refine i_rd1 (tup_ref mset_same) ?_
      refine ⟨_, by rw [mset_ne hpn.symm]; exact mset_same, by rw [List.length_map]; omega, ?_⟩
      refine .drop pd (m := .lst (r.map doorD)) (by rw [mset_ne hpn]; exact mset_same) rfl ?_
      rw [mdel_mset_ne hpn.symm, mdel_mset hpd, mset_mset]
      refine .done ⟨rs ++ [r], _, _, _, _, rfl, by rw [List.map_append]; rfl, by rw [List.length_append, List.length_singleton, hrl], fun x hx => ?_⟩
      rcases List.mem_append.mp hx with h | h
      · exact hrs x h
      · rw [List.mem_singleton.mp h]; exact ⟨by omega, hr2, hr3⟩
  · rintro env M2 ⟨rs, x8, x9, x10, x11, rfl, rfl, hrl, hrs⟩
    rw [rng_len] at hrl
    refine .done ?_
    walk_at "bbs"
    refine i_rd1 (tup_ref mset_same) ?_
    refine ⟨by show 3 ≤ sizeLine; omega, ?_⟩
    refine .drop ph mset_same rfl ?_
    rw [mdel_mset hph]
    refine .done (q ⟨ls, ss, rs⟩ ⟨⟨hls.1, hls.2.1, by show 1 ≤ ls.length; omega, by show ls.length ≤ 4; omega⟩, ⟨hss.1, hss.2.1, hssl.1, by show ss.length ≤ 4; omega⟩, ?_, ?_, fun r hr => (hrs r hr).1, fun r hr s n hsn => ?_⟩ ?_ hlsl hssl.2 fun h => ?_)
    · show 1 ≤ rs.length; omega
    · show rs.length ≤ 36; omega
    · obtain ⟨e1, e2⟩ := (hrs r hr).2.1 s n hsn
      exact ⟨e1, by show n < rs.length; omega⟩
    · show (rs.length : Int) ≤ m; omega
    · exact List.all_eq_true.mpr fun r hr => (hrs r hr).2.2 h
theorem hid_door {T : EndsD} {a c ph pd : Addr} {p : Pl} {m k j : Int} {n n' : Nat} {s : Str} {x12 : Option D} {r : List Door} (ok : p.Ok) (hM : M pd = some (.lst (r.map doorD))) (hl : r.length ≤ 1000) (n1 : 1 ≤ n) (hm : M a = some (.gen c))
    (hT : ∀ (t : Nat), t < n → ∀ x12, T.nx [some (.ref a), some (partsD p), some (.int m), some (namesD p.letters), some (namesD p.signs), some (rowsD' p.rooms), some (.int n), some (.ref ph), some (.int k), some (.ref pd), some (.int j), some (.tup [.str s, .int (n' : Nat)]), x12] (mset M pd (.lst ((r ++ [some (s, t)]).map doorD)))) :
    (dSeq (dSet 12 (dOp (rdO modD) (dN (dOp (rdO ixD) (dN (dVar 11)) (dC (.int 1)))) (dN (dVar 6))))
  (dSeq (dIfS ((dAnd (dTest (dOp (rdO (intD fun i j => decide (i > j))) (dN (dVar 6)) (dN (dCB (rd1 lenD) (dCons (dN (dVar 5)) (dNil)))))) (dAnd (dTest (dOp (rdO (cmpD (fun i j => decide (i < j)) ltS)) (dN (dOp (rdO addD) (dN (dVar 12)) (dN (dCB (rd1 lenD) (dCons (dN (dVar 5)) (dNil)))))) (dN (dVar 6)))) (dTest (dOp (rdEq) (dN (dCall (wd E) (sp__law_draw K) [] (dCons (dVar 0) (dCons (dC (.int 2)) (dNil))))) (dN (dC (.int 0)))))))) (dSet 12 (dOp (rdO addD) (dN (dVar 12)) (dN (dCB (rd1 lenD) (dCons (dN (dVar 5)) (dNil)))))) dNext)
  (dDrop (dApp (dVar 9) (dTup (dCons (dOp (rdO ixD) (dN (dVar 11)) (dC (.int 0))) (dCons (dVar 12) (dNil)))))))) T [some (.ref a), some (partsD p), some (.int m), some (namesD p.letters), some (namesD p.signs), some (rowsD' p.rooms), some (.int n), some (.ref ph), some (.int k), some (.ref pd), some (.int j), some (.tup [.str s, .int (n' : Nat)]), x12] M := by
  have hs := sizeLine_eq
  walk_at "bbs"
  refine i_mod47 (by omega) ?_
  refine .done ?_
  obtain ⟨t, ht⟩ := Int.eq_ofNat_of_zero_le (Int.emod_nonneg (n' : Int) (b := (n : Int)) (by omega))
  have htn : t < n := by have := Int.emod_lt_of_pos (n' : Int) (b := (n : Int)) (by omega); omega
  rw [ht]
  have fin : ∀ (t : Nat) , t < n → (dDrop (dApp (dVar 9) (dTup (dCons (dOp (rdO ixD) (dN (dVar 11)) (dC (.int 0))) (dCons (dVar 12) (dNil)))))) T [some (.ref a), some (partsD p), some (.int m), some (namesD p.letters), some (namesD p.signs), some (rowsD' p.rooms), some (.int n), some (.ref ph), some (.int k), some (.ref pd), some (.int j), some (.tup [.str s, .int (n' : Nat)]), some (.int (t : Nat))] M := fun t ht => by
    walk_at "bbs"
    refine ⟨pd, _, rfl, hM, ?_⟩
    walk_at "bbs"
    refine ⟨by show 2 ≤ sizeLine; omega, ?_⟩
    refine ⟨_, hM, by rw [List.length_map]; omega, ?_⟩
    have := hT t ht (some (.int (t : Nat)))
    rw [List.map_append] at this
    exact this
  walk_at "bbs"
  by_cases c1 : (n : Int) > ((p.rooms.map fun r => D.tup (r.map doorD)).length : Int)
  · rw [decide_eq_true c1]
    walk_at "bbs"
    by_cases c2 : ((t : Nat) : Int) + ((p.rooms.map fun r => D.tup (r.map doorD)).length : Int) < (n : Int)
    · rw [decide_eq_true c2]
      walk_at "bbs"
      refine c_drawP hm (by omega) (by omega) fun r2 b7 b8 => ?_
      walk_at "bbs"
      by_cases c3 : r2 = 0
      · rw [decide_eq_true c3]
        walk_at "bbs"
        refine .done ?_
        exact fin (t + (p.rooms.map fun r => D.tup (r.map doorD)).length) (by omega)
      · rw [decide_eq_false c3]
        walk_at "bbs"
        refine .done ?_
        exact fin t htn
    · rw [decide_eq_false c2]
      walk_at "bbs"
      refine .done ?_
      exact fin t htn
  · rw [decide_eq_false c1]
    walk_at "bbs"
    refine .done ?_
    exact fin t htn
theorem hid_tail {a c : Addr} {p : Pl} {m : Int} {n : Nat} (hm : M a = some (.gen c)) (ok : p.Ok) (n1 : 1 ≤ n) (hn : (n : Int) ≤ m) (m2 : m ≤ 36) (q : ∀ h : Pl, Hid p h → (h.rooms.length : Int) ≤ m → Q (partsD h) M) :
    (dSeq (dSet 7 (dLstM (dNil)))
  (dSeq (dFor (dRng1 (dCons (dN (dVar 6)) (dNil))) (gdName 8) (dSeq (dSet 9 (dLstM (dNil)))
  (dSeq (dFor (dRng1 (dCons (dN (dCB (rd1 lenD) (dCons (dN (dVar 3)) (dNil)))) (dNil))) (gdName 10) (dSeq (dSet 11 (dOp (rdO ixD) (dN (dOp (rdO ixD) (dN (dVar 5)) (dOp (rdO modD) (dN (dVar 8)) (dN (dCB (rd1 lenD) (dCons (dN (dVar 5)) (dNil))))))) (dVar 10)))
  (dSeq (dIfS ((dOr (dTest (dOp (rdO isD) (dN (dVar 11)) (dN (dC .non)))) (dTest (dOp (rdEq) (dN (dCall (wd E) (sp__law_draw K) [] (dCons (dVar 0) (dCons (dC (.int 6)) (dNil))))) (dN (dC (.int 0))))))) (dSet 11 (dTup (dCons (dCall (wd E) (sp__law_pick K) [] (dCons (dVar 0) (dCons (dVar 4) (dNil)))) (dCons (dCall (wd E) (sp__law_draw K) [] (dCons (dVar 0) (dCons (dVar 6) (dNil)))) (dNil))))) dNext)
  (dSeq (dSet 12 (dOp (rdO modD) (dN (dOp (rdO ixD) (dN (dVar 11)) (dC (.int 1)))) (dN (dVar 6))))
  (dSeq (dIfS ((dAnd (dTest (dOp (rdO (intD fun i j => decide (i > j))) (dN (dVar 6)) (dN (dCB (rd1 lenD) (dCons (dN (dVar 5)) (dNil)))))) (dAnd (dTest (dOp (rdO (cmpD (fun i j => decide (i < j)) ltS)) (dN (dOp (rdO addD) (dN (dVar 12)) (dN (dCB (rd1 lenD) (dCons (dN (dVar 5)) (dNil)))))) (dN (dVar 6)))) (dTest (dOp (rdEq) (dN (dCall (wd E) (sp__law_draw K) [] (dCons (dVar 0) (dCons (dC (.int 2)) (dNil))))) (dN (dC (.int 0)))))))) (dSet 12 (dOp (rdO addD) (dN (dVar 12)) (dN (dCB (rd1 lenD) (dCons (dN (dVar 5)) (dNil)))))) dNext)
  (dDrop (dApp (dVar 9) (dTup (dCons (dOp (rdO ixD) (dN (dVar 11)) (dC (.int 0))) (dCons (dVar 12) (dNil)))))))))))
  (dDrop (dApp (dVar 7) (dCB (rd1 tupD) (dCons (dN (dVar 9)) (dNil))))))))
  (dRet (dTup (dCons (dVar 3) (dCons (dVar 4) (dCons (dCB (rd1 tupD) (dCons (dN (dVar 7)) (dNil))) (dNil)))))))) (ends Q) [some (.ref a), some (partsD p), some (.int m), some (namesD p.letters), some (namesD p.signs), some (rowsD' p.rooms), some (.int n), none, none, none, none, none, none] M := by
  have hs := sizeLine_eq
  have okl := ok.ls.2.2.2
  have okl1 := ok.ls.2.2.1
  have oks1 := ok.ss.2.2.1
  have oks2 := ok.ss.2.2.2
  have oklo := ok.lo
  walk_at "bbs"
  refine ⟨by show 0 ≤ sizeLine; omega, fun ph hph => ?_⟩
  have hma : ∀ {x}, (mset M ph x) a = some (.gen c) := fun {x} => by rw [mset_ne (mem_ne hm hph)]; exact hm
  refine .done ?_
  walk_at "bbs"
  refine ⟨by omega, by omega, ?_⟩
  refine ⟨fun i env M' => ∃ (rs : List (List Door)) (x8 x9 x10 x11 x12 : Option D), env = [some (.ref a), some (partsD p), some (.int m), some (namesD p.letters), some (namesD p.signs), some (rowsD' p.rooms), some (.int n), some (.ref ph), x8, x9, x10, x11, x12] ∧ M' = mset M ph (.lst (rs.map fun r => .tup (r.map doorD))) ∧ rs.length = i ∧ ∀ r ∈ rs, r.length = p.letters.length ∧ Row47 p.signs n r ∧ r.all Option.isSome = true,
    ⟨[], none, none, none, none, none, rfl, rfl, rfl, by intro _ h; cases h⟩, fun _ _ _ _ => trivial, ?_, ?_⟩
  · rintro i d env M2 hd ⟨rs, x8, x9, x10, x11, x12, rfl, rfl, hrl, hrs⟩
    obtain ⟨hi, rfl⟩ := rng_at hd
    walk_at "bbs"
    refine ⟨by show 0 ≤ sizeLine; omega, fun pd hpd => ?_⟩
    have hpn : pd ≠ ph := fun e => by rw [e, mset_same] at hpd; cases hpd
    have hpd0 : M pd = none := by rw [mset_ne hpn] at hpd; exact hpd
    have hmb : ∀ {x y}, (mset (mset M ph x) pd y) a = some (.gen c) := fun {x y} => by rw [mset_ne (mem_ne hm hpd0)]; exact hma
    refine .done ?_
    walk_at "bbs"
    refine ⟨by rw [List.length_map]; omega, by rw [List.length_map]; omega, ?_⟩
    refine ⟨fun j env M' => ∃ (r : List Door) (x10 x11 x12 : Option D), env = [some (.ref a), some (partsD p), some (.int m), some (namesD p.letters), some (namesD p.signs), some (rowsD' p.rooms), some (.int n), some (.ref ph), some (.int (0 + (i : Nat))), some (.ref pd), x10, x11, x12] ∧ M' = mset (mset M ph (.lst (rs.map fun r => .tup (r.map doorD)))) pd (.lst (r.map doorD)) ∧ r.length = j ∧ Row47 p.signs n r ∧ r.all Option.isSome = true,
      ⟨[], _, _, _, rfl, rfl, rfl, (by intro _ _ h; cases h), rfl⟩, fun _ _ _ _ => trivial, ?_, ?_⟩
    · rintro j d env M3 hd2 ⟨r, y10, y11, y12, rfl, rfl, hr1, hr2, hr3⟩
      obtain ⟨hj, rfl⟩ := rng_at hd2
      rw [List.length_map] at hj
      walk_at "bbs"
      refine i_mod47 (by rw [List.length_map]; omega) ?_
      refine i_ixT47 (Int.emod_nonneg _ (by rw [List.length_map]; omega)) (Int.emod_lt_of_pos _ (by rw [List.length_map]; omega)) fun drow hdrow => ?_
      obtain ⟨row, hrow, rfl⟩ := List.mem_map.mp hdrow
      have hrl2 := ok.row row hrow
      walk_at "bbs"
      refine i_ixT47 (by omega) (by rw [List.length_map]; omega) fun ddoor hddoor => ?_
      obtain ⟨dr, hdr, rfl⟩ := List.mem_map.mp hddoor
      refine .done ?_
      have fin : ∀ (s : Str) (n' : Nat) (z : List (List Door)), s ∈ p.signs → (dSeq (dSet 12 (dOp (rdO modD) (dN (dOp (rdO ixD) (dN (dVar 11)) (dC (.int 1)))) (dN (dVar 6))))
  (dSeq (dIfS ((dAnd (dTest (dOp (rdO (intD fun i j => decide (i > j))) (dN (dVar 6)) (dN (dCB (rd1 lenD) (dCons (dN (dVar 5)) (dNil)))))) (dAnd (dTest (dOp (rdO (cmpD (fun i j => decide (i < j)) ltS)) (dN (dOp (rdO addD) (dN (dVar 12)) (dN (dCB (rd1 lenD) (dCons (dN (dVar 5)) (dNil)))))) (dN (dVar 6)))) (dTest (dOp (rdEq) (dN (dCall (wd E) (sp__law_draw K) [] (dCons (dVar 0) (dCons (dC (.int 2)) (dNil))))) (dN (dC (.int 0)))))))) (dSet 12 (dOp (rdO addD) (dN (dVar 12)) (dN (dCB (rd1 lenD) (dCons (dN (dVar 5)) (dNil)))))) dNext)
  (dDrop (dApp (dVar 9) (dTup (dCons (dOp (rdO ixD) (dN (dVar 11)) (dC (.int 0))) (dCons (dVar 12) (dNil))))))))
          { (ends Q) with nx := FzS fun env M' => ∃ (r : List Door) (x10 x11 x12 : Option D), env = [some (.ref a), some (partsD p), some (.int m), some (namesD p.letters), some (namesD p.signs), some (rowsD' p.rooms), some (.int n), some (.ref ph), some (.int (0 + (i : Nat))), some (.ref pd), x10, x11, x12] ∧ M' = mset (mset M ph (.lst (rs.map fun r => .tup (r.map doorD)))) pd (.lst (r.map doorD)) ∧ r.length = j + 1 ∧ Row47 p.signs n r ∧ r.all Option.isSome = true }
          [some (.ref a), some (partsD p), some (.int m), some (namesD p.letters), some (namesD p.signs), some (rowsD' p.rooms), some (.int n), some (.ref ph), some (.int (0 + (i : Nat))), some (.ref pd), some (.int (0 + (j : Nat))), some (.tup [.str s, .int (n' : Nat)]), y12] (mset (mset M ph (.lst (rs.map fun r => .tup (r.map doorD)))) pd (.lst (r.map doorD))) := fun s n' _ hsg => by
        refine hid_door ok mset_same (by omega) n1 hmb fun t ht x12 => ?_
        rw [mset_mset]
        refine .done ⟨r ++ [some (s, t)], _, _, _, rfl, rfl, by rw [List.length_append, List.length_singleton, hr1], row47_add hr2 fun s' m' h => ?_, by rw [List.all_append, hr3]; rfl⟩
        cases h with
        | head => exact ⟨hsg, ht⟩
        | tail _ h => cases h
      walk_at "bbs"
      cases dr with
      | none =>
        walk_at "bbs"
        refine c_pickL hmb (x := namesD p.signs) rfl (by rw [List.length_map]; omega) (by rw [List.length_map]; omega) fun dz hdz => ?_
        obtain ⟨sg, hsg, rfl⟩ := List.mem_map.mp hdz
        walk_at "bbs"
        refine c_drawP hmb (by omega) (by omega) fun r4 b5 b6 => ?_
        obtain ⟨n4, rfl⟩ := Int.eq_ofNat_of_zero_le b5
        walk_at "bbs"
        refine ⟨by show 2 ≤ sizeLine; omega, ?_⟩
        refine .done ?_
        have := fin sg n4 [] hsg
        exact this
      | some sn =>
        obtain ⟨s0, n0⟩ := sn
        obtain ⟨hs0, _⟩ := ok.door row hrow s0 n0 hdr
        walk_at "bbs"
        refine c_drawP hmb (by omega) (by omega) fun r6 b7 b8 => ?_
        walk_at "bbs"
        by_cases c3 : r6 = 0
        · rw [decide_eq_true c3]
          walk_at "bbs"
          refine c_pickL hmb (x := namesD p.signs) rfl (by rw [List.length_map]; omega) (by rw [List.length_map]; omega) fun dz hdz => ?_
          obtain ⟨sg, hsg, rfl⟩ := List.mem_map.mp hdz
          walk_at "bbs"
          refine c_drawP hmb (by omega) (by omega) fun r4 b5 b6 => ?_
          obtain ⟨n4, rfl⟩ := Int.eq_ofNat_of_zero_le b5
          walk_at "bbs"
          refine ⟨by show 2 ≤ sizeLine; omega, ?_⟩
          refine .done ?_
          have := fin sg n4 [] hsg
          exact this
        · rw [decide_eq_false c3]
          walk_at "bbs"
          refine .done ?_
          have := fin s0 n0 [] hs0
          exact this
    · rintro env M3 ⟨r, y10, y11, y12, rfl, rfl, hr1, hr2, hr3⟩
      rw [rng_len] at hr1
      refine .done ?_
      walk_at "bbs"
      refine ⟨ph, _, rfl, by rw [mset_ne hpn.symm]; exact mset_same, ?_⟩
      walk_at "bbs"
      refine i_rd1 (tup_ref mset_same) ?_
      refine ⟨_, by rw [mset_ne hpn.symm]; exact mset_same, by rw [List.length_map]; omega, ?_⟩
      refine .drop pd (m := .lst (r.map doorD)) (by rw [mset_ne hpn]; exact mset_same) rfl ?_
      rw [mdel_mset_ne hpn.symm, mdel_mset hpd, mset_mset]
      refine .done ⟨rs ++ [r], _, _, _, _, _, rfl, by rw [List.map_append]; rfl, by rw [List.length_append, List.length_singleton, hrl], fun x hx => ?_⟩
      rcases List.mem_append.mp hx with h | h
      · exact hrs x h
      · rw [List.mem_singleton.mp h]; exact ⟨by simpa using hr1, hr2, hr3⟩
  · rintro env M2 ⟨rs, x8, x9, x10, x11, x12, rfl, rfl, hrl, hrs⟩
    rw [rng_len] at hrl
    refine .done ?_
    walk_at "bbs"
    refine i_rd1 (tup_ref mset_same) ?_
    refine ⟨by show 3 ≤ sizeLine; omega, ?_⟩
    refine .drop ph mset_same rfl ?_
    rw [mdel_mset hph]
    refine .done (q ⟨p.letters, p.signs, rs⟩ ⟨⟨ok.ls, ok.ss, ?_, ?_, fun r hr => (hrs r hr).1, fun r hr s n hsn => ?_⟩, List.all_eq_true.mpr fun r hr => (hrs r hr).2.2, rfl, rfl⟩ ?_)
    · show 1 ≤ rs.length; omega
    · show rs.length ≤ 36; omega
    · obtain ⟨e1, e2⟩ := (hrs r hr).2.1 s n hsn
      exact ⟨e1, by show n < rs.length; omega⟩
    · show (rs.length : Int) ≤ m; omega
theorem lw__law_hidden (h : sp__law_hidden K ds M Q E) : rd__law_hidden K (wd E) (ends Q) (startD ["_law_state", "_law_parts_here", "_law_most", "_law_names_here", "_law_ends", "_law_halls", "_law_size", "_law_gained", "_law_k", "_law_doors", "_law_j", "_law_door", "_law_to"] ds) M := by
  obtain ⟨s, o, n, rfl, a, c, p, m, rfl, hm, ok, rfl, rfl, m1, m2, q⟩ := h
  have oklo := ok.lo
  unfold rd__law_hidden
  walk_at "bbs"
  refine i_gtupN rfl rfl ?_
  walk_at "bbs"
  refine .done ?_
  walk_at "bbs"
  refine c_drawP hm (by omega) (by omega) fun r h3 h4 => ?_
  obtain ⟨j, rfl⟩ := Int.eq_ofNat_of_zero_le h3
  obtain ⟨n, hn⟩ : ∃ n : Nat, (1 : Int) + j = n := ⟨1 + j, by omega⟩
  walk_at "bbs"
  rw [hn]
  refine .done ?_
  walk_at "bbs"
  refine c_drawP hm (by omega) (by omega) fun r2 h5 h6 => ?_
  walk_at "bbs"
  by_cases c3 : r2 = 0
  · rw [decide_eq_true c3]
    walk_at "bbs"
    refine ⟨_, _, rfl, ?_⟩
    refine .done ?_
    by_cases c4 : ((p.rooms.map fun r => D.tup (r.map doorD)).length : Int) < (n : Int)
    · rw [if_pos c4]
      rw [List.length_map] at c4 ⊢
      exact hid_tail hm ok oklo (by omega) m2 q
    · rw [if_neg c4]
      exact hid_tail hm ok (by omega) (by omega) m2 q
  · rw [decide_eq_false c3]
    walk_at "bbs"
    refine .done ?_
    exact hid_tail hm ok (by omega) (by omega) m2 q
end
end BB
set_option maxHeartbeats 8000000
namespace BB
open L2 PySem PySem.Spec PyProof.Rows
local macro_rules | `(tactic| walk_at "bb") => `(tactic| first
  | (with_reducible refine i_c ?_) | (with_reducible refine i_n ?_) | (with_reducible refine i_op ?_) | (with_reducible refine i_cons ?_) | (with_reducible refine i_nil ?_) | (with_reducible refine i_cb ?_)
  | (with_reducible refine i_seq ?_) | (with_reducible refine i_set ?_) | (with_reducible refine i_ret ?_) | (with_reducible refine i_if ?_) | (with_reducible refine i_drop ?_) | (with_reducible refine i_par ?_) | (with_reducible refine i_setF ?_) | (with_reducible refine i_raise ?_) | (with_reducible refine i_raiseI ?_) | (with_reducible refine i_asg ?_)
  | (with_reducible refine i_test ?_) | (with_reducible refine i_chain ?_) | (with_reducible refine i_tru ?_) | (with_reducible refine i_and ?_) | (with_reducible refine i_or ?_) | (with_reducible refine i_not ?_)
  | (with_reducible refine i_andv ?_) | (with_reducible refine i_orv ?_) | (with_reducible refine i_notv ?_) | (with_reducible refine i_ifx ?_) | (with_reducible refine i_tup ?_) | (with_reducible refine i_lst ?_) | (with_reducible refine i_lstM ?_)
  | (with_reducible refine i_neg ?_) | (with_reducible refine i_call ?_) | (with_reducible refine i_callK ?_) | (with_reducible refine i_meth ?_) | (with_reducible refine i_fld ?_) | (with_reducible refine i_tupIx ?_) | (with_reducible refine i_app ?_)
  | (with_reducible refine i_join ?_) | (with_reducible refine i_sl ?_) | (with_reducible refine i_part ?_) | (with_reducible refine i_nopart ?_) | (with_reducible refine i_next ?_) | (with_reducible refine i_retN ?_)
  | (with_reducible refine i_gname ?_) | (with_reducible refine i_gcons ?_) | (with_reducible refine i_gnil ?_) | (with_reducible refine i_seqI ?_) | (with_reducible refine i_rng1 ?_) | (with_reducible refine i_enum ?_) | (with_reducible refine i_zip2 ?_)
  | (with_reducible refine i_keys ?_) | (with_reducible refine i_updT ?_) | (with_reducible refine i_popI ?_) | (with_reducible refine i_lcM ?_) | (with_reducible refine i_parD ?_) | (with_reducible refine i_tupH ?_) | (with_reducible refine i_dispT ?_) | (with_reducible refine i_dget ?_) | (with_reducible refine i_dget1 ?_) | (with_reducible refine i_dget2 ?_) | (with_reducible refine i_dput ?_) | (with_reducible refine i_while ?_) | (with_reducible refine i_newT ?_) | (with_reducible refine i_newK ?_) | (with_reducible refine i_dispK ?_)
  | (with_reducible refine i_yes ?_) | (with_reducible refine i_for ?_) | (with_reducible refine i_lc ?_)
  | ((with_reducible refine i_var (d := ?bbd) ?bbh ?bbq); (case bbh => rfl)) | ((with_reducible refine i_rdo (d := ?bbd) ?bbh ?bbq); (case bbh => rfl); (try dsimp only)) | ((with_reducible refine i_rd1 (d := ?bbd) ?bbh ?bbq); (case bbh => rfl); (try dsimp only))
  | (with_reducible refine i_itt ?_) | (with_reducible refine i_nf ?_) | (with_reducible refine i_nt ?_) | (with_reducible refine i_itf ?_)
  | ((with_reducible show rdIsi _ _ _); first | refine i_isi rfl kb_int_int ?_ | refine i_isi rfl kb_int_bool ?_ | refine i_isi rfl kb_str_str ?_ | refine i_isi rfl kb_tup_tup ?_)
  | (with_reducible refine ⟨_, rfl, ?_⟩)
  | ((with_reducible show wkD _ _ _); first | refine wk_tup ?_ | refine wk_lst ?_ | refine wk_str ?_)
  | ((with_reducible show rdEq _ _ _ _); refine i_eqI ?_) | ((with_reducible show rdNe _ _ _ _); refine i_neI ?_)
  | ((with_reducible show ite _ _ _); refine i_itt ?_) | ((with_reducible show ite _ _ _); refine i_itf ?_))
local macro_rules | `(tactic| walk_at "bbs") => `(tactic| repeat walk_at "bb")
section
variable {K : PySem.W.Frag} {ds : List D} {M : Mem} {Q : DKt} {E : DX}
theorem c_along49 {p : Pl} {w : List Str} (ok : p.Ok) (hw : WordP p w) (hl : w.length ≤ 200) (q : Q (.lst ((p.tellS w 0).map .str)) M) : sp__law_along K [partsD p, wdT w] M Q E := ⟨_, _, rfl, p, w, ok, rfl, rfl, hw, hl, q⟩
theorem c_noted {h : Pl} {qa : Addr} {rows : List D} {w : List Str} (ok : h.Ok) (hq : M qa = some (.lst rows)) (hr : rows.length ≤ 100000) (hw : WordP h w) (hl : w.length ≤ 200) (q : Q (.tup ((h.tellS w 0).map .str)) (mset M qa (.lst (rows ++ [wdT w])))) : sp__law_noted K [partsD h, .ref qa, wdT w] M Q E := ⟨_, _, _, rfl, h, qa, rows, w, ok, rfl, rfl, hq, hr, rfl, hw, hl, q⟩
theorem strs_at47 {w : List Str} {i : Nat} {d : D} (h : (w.map D.str)[i]? = some d) : ∃ z, w[i]? = some z ∧ d = .str z ∧ z ∈ w ∧ w.drop i = z :: w.drop (i + 1) := by
  obtain ⟨z, hz, rfl⟩ := strs_at h
  have hi := (List.getElem?_eq_some_iff.mp hz).1
  have e : w[i] = z := (List.getElem?_eq_some_iff.mp hz).2
  exact ⟨z, hz, rfl, List.mem_of_getElem? hz, by rw [List.drop_eq_getElem_cons hi, e]⟩
theorem lw__law_along (h : sp__law_along K ds M Q E) : rd__law_along K (wd E) (ends Q) (startD ["_law_parts_here", "_law_row_here", "_law_names_here", "_law_ends", "_law_halls", "_law_here", "_law_gained", "_law_letter", "_law_door"] ds) M := by
  obtain ⟨o, u, rfl, p, w, ok, rfl, rfl, hw, hl, q⟩ := h
  have hs := sizeLine_eq
  unfold rd__law_along
  walk_at "bbs"
  refine i_gtupN rfl rfl ?_
  walk_at "bbs"
  refine .done ?_
  walk_at "bbs"
  refine ⟨by show 0 ≤ sizeLine; omega, fun g hg => ?_⟩
  refine .done ?_
  walk_at "bbs"
  refine ⟨fun i env M' => ∃ (r : Nat) (acc : List Str) (x7 x8 : Option D), env = [some (partsD p), some (wdT w), some (namesD p.letters), some (namesD p.signs), some (rowsD' p.rooms), some (.int (r : Nat)), some (.ref g), x7, x8] ∧ M' = mset M g (.lst (acc.map .str)) ∧ r < p.rooms.length ∧ acc.length = i ∧ p.tellS w 0 = acc ++ p.tellS (w.drop i) r,
    ⟨0, [], none, none, rfl, rfl, (by have := ok.lo; omega), rfl, rfl⟩, fun _ _ _ _ => trivial, ?_, ?_⟩
  · rintro i d env M2 hd ⟨r, acc, x7, x8, rfl, rfl, hr, hl2, ht⟩
    obtain ⟨z, hz, rfl, hzw, hdrop⟩ := strs_at47 hd
    have hzl := hw z hzw
    have hi : i < w.length := (List.getElem?_eq_some_iff.mp hz).1
    rw [hdrop, Pl.tellS] at ht
    walk_at "bbs"
    have hrow : p.rooms[r]? = some p.rooms[r] := by simp [hr]
    refine i_rdo (rows_at hrow) ?_
    walk_at "bbs"
    refine ⟨hzl, ?_⟩
    refine i_rdo (door_ix47 ok hr hzl) ?_
    refine .done ?_
    walk_at "bbs"
    cases e : p.door' r z with
    | none =>
      rw [e] at ht
      walk_at "bbs"
      refine .fixL mset_same ?_
      rw [mdel_mset hg]
      have e2 : p.tellS w 0 = acc := by rw [ht]; exact List.append_nil _
      rw [e2] at q
      exact .done q
    | some sn =>
      obtain ⟨s, n⟩ := sn
      rw [e] at ht
      have h2 := door_ok47 ok hr hzl e
      walk_at "bbs"
      refine .done ?_
      walk_at "bbs"
      refine ⟨g, _, rfl, mset_same, ?_⟩
      walk_at "bbs"
      refine ⟨_, mset_same, by rw [List.length_map]; omega, ?_⟩
      refine .done ?_
      walk_at "bbs"
      refine .done ⟨n, acc ++ [s], _, _, rfl, by rw [mset_mset, List.map_append]; rfl, h2.2, by rw [List.length_append, List.length_singleton, hl2], ?_⟩
      rw [ht, List.append_assoc]; rfl
  · rintro env M2 ⟨r, acc, x7, x8, rfl, rfl, hr, hl2, ht⟩
    rw [List.length_map, List.drop_length] at ht
    have e2 : p.tellS w 0 = acc := by rw [ht]; exact List.append_nil _
    refine .done ?_
    walk_at "bbs"
    refine .fixL mset_same ?_
    rw [mdel_mset hg]
    rw [e2] at q
    exact .done q
theorem lw__law_noted (h : sp__law_noted K ds M Q E) : rd__law_noted K (wd E) (ends Q) (startD ["_law_hidden_here", "_law_calls", "_law_row_here"] ds) M := by
  obtain ⟨o, c, u, rfl, h, qa, rows, w, ok, rfl, rfl, hq, hr, rfl, hw, hl, q⟩ := h
  have hs := sizeLine_eq
  unfold rd__law_noted
  walk_at "bbs"
  refine ⟨qa, _, rfl, hq, ?_⟩
  walk_at "bbs"
  refine ⟨_, hq, by omega, ?_⟩
  refine .done ?_
  walk_at "bbs"
  refine c_along49 ok hw hl ?_
  walk_at "bbs"
  exact .done q
theorem lw__law_maker_lam {cds : List D} (hn : cds.length = 2) (h : spc__law_maker_lam K cds ds M Q E) : rd__law_maker_lam K (wd E) (startD ["_law_row_here", "_law_calls", "_law_hidden_here"] (ds ++ cds)) M fun v M' => FzV Q v M' := by
  obtain ⟨h, qa, rows, w, rfl, rfl, ok, hq, hr, hw, hl, q⟩ := h
  unfold rd__law_maker_lam
  walk_at "bbs"
  exact c_noted ok hq hr hw hl (.done q)
theorem lw__law_maker (h : sp__law_maker K ds M Q E) : dMkC [1, 0] ct__law_maker_lam (tabF K "_law_maker") Q (startD ["_law_hidden_here", "_law_calls"] ds) M := by
  obtain ⟨o, c, rfl, hP, q⟩ := h
  refine ⟨hP, [c, o], rfl, fun i j hj => ?_, fun f cl cc cs h1 h2 h3 h4 h5 => q f cl cc cs h1 h2 h3 h4 h5⟩
  match i, hj with
  | 0, hj => cases hj; exact ⟨c, rfl, rfl⟩
  | 1, hj => cases hj; exact ⟨o, rfl, rfl⟩
  | i + 2, hj => cases hj
theorem no_tup {M : Mem} {ds : List D} (h : NoTupM M (.tup ds)) : False := by
  obtain ⟨T, h1, h2⟩ := h
  have h1 : some "tuple" = some T := h1
  cases h1
  exact absurd h2 (by decide +kernel)
theorem place_no {M : Mem} {p : Pl} {d : D} (h : NoTupM M d) : placeD p d = some 0 := by
  cases d with
  | tup ds => exact (no_tup h).elim
  | _ => rfl
theorem bad_here {p : Pl} : ∀ {ds : List D} {n k i : Nat} {d : D}, (∀ j x, j < i → ds[j]? = some x → isLt p x = true) → i < n → ds[i]? = some d → isLt p d = false → badAt p k n ds = some (k + i)
  | [], _, _, _, _, _, _, h, _ => by cases h
  | x :: ds, 0, _, _, _, _, h, _, _ => by omega
  | x :: ds, n + 1, k, 0, d, h1, h2, h3, h4 => by
    cases h3
    rw [badAt, if_neg (by rw [h4]; decide)]
    rfl
  | x :: ds, n + 1, k, i + 1, d, h1, h2, h3, h4 => by
    have hx := h1 0 x (by omega) rfl
    rw [badAt, if_pos hx, bad_here (ds := ds) (n := n) (k := k + 1) (i := i) (fun j y hj e => h1 (j + 1) y (by omega) e) (by omega) h3 h4]
    congr 1; omega
theorem bad_none {p : Pl} : ∀ {ds : List D} {n k : Nat}, (∀ j x, j < n → ds[j]? = some x → isLt p x = true) → badAt p k n ds = none
  | [], 0, _, _ => rfl
  | [], n + 1, _, _ => rfl
  | x :: ds, 0, _, _ => rfl
  | x :: ds, n + 1, k, h => by
    rw [badAt, if_pos (h 0 x (by omega) rfl), bad_none (ds := ds) (n := n) fun j y hj e => h (j + 1) y (by omega) e]
theorem bad_some {p : Pl} : ∀ {ds : List D} {n k i : Nat}, badAt p k n ds = some i → ∃ j x, i = k + j ∧ j < n ∧ ds[j]? = some x ∧ isLt p x = false
  | _, 0, _, _, h => by rw [badAt] at h; cases h
  | [], n + 1, _, _, h => by rw [badAt] at h <;> first | cases h | simp
  | x :: ds, n + 1, k, i, h => by
    rw [badAt] at h
    by_cases hx : isLt p x = true
    · rw [if_pos hx] at h
      obtain ⟨j, y, rfl, h2, h3, h4⟩ := bad_some h
      exact ⟨j + 1, y, by omega, by omega, h3, h4⟩
    · rw [if_neg hx] at h
      cases h
      exact ⟨0, x, rfl, by omega, rfl, Bool.eq_false_iff.mpr hx⟩
theorem bad_all {p : Pl} : ∀ {ds : List D} {n k : Nat}, badAt p k n ds = none → ∀ j x, j < n → ds[j]? = some x → isLt p x = true
  | [], _, _, _, _, _, _, e => by cases e
  | y :: ds, 0, _, _, _, _, h, _ => by omega
  | y :: ds, n + 1, k, h, j, x, hj, e => by
    rw [badAt] at h
    by_cases hy : isLt p y = true
    · rw [if_pos hy] at h
      match j, e with
      | 0, e => cases e; exact hy
      | j + 1, e => exact bad_all h j x (by omega) e
    · rw [if_neg hy] at h; cases h
theorem isLt_str {p : Pl} {d : D} (h : isLt p d = true) : ∃ z, d = .str z ∧ z ∈ p.letters := by
  cases d with
  | str z => exact ⟨z, rfl, of_decide_eq_true h⟩
  | _ => cases h
theorem strs_of {p : Pl} : ∀ {ds : List D}, (∀ x ∈ ds, isLt p x = true) → ∃ w : List Str, ds = w.map .str ∧ WordP p w
  | [], _ => ⟨[], rfl, fun _ h => nomatch h⟩
  | d :: ds, h => by
    obtain ⟨z, rfl, hz⟩ := isLt_str (h _ List.mem_cons_self)
    obtain ⟨w, rfl, hw⟩ := strs_of (ds := ds) fun x hx => h x (List.mem_cons_of_mem _ hx)
    refine ⟨z :: w, rfl, fun y hy => ?_⟩
    rcases List.mem_cons.mp hy with rfl | hy
    · exact hz
    · exact hw y hy
theorem place_none {p : Pl} {d : D} (h : placeD p d = none) : ∃ w, d = wdT w ∧ WordP p w ∧ w.length ≤ 60 := by
  cases d with
  | tup ds =>
    have h : placeL p ds = none := h
    unfold placeL at h
    cases e : badAt p 0 60 ds with
    | some i => rw [e] at h; cases h
    | none =>
      rw [e] at h
      by_cases hl : 60 < ds.length
      · replace h : (if 60 < ds.length then some 60 else none : Option Nat) = none := h
        rw [if_pos hl] at h; cases h
      · obtain ⟨w, rfl, hw⟩ := strs_of (p := p) (ds := ds) fun x hx => by
          obtain ⟨j, hj, rfl⟩ := List.mem_iff_getElem.mp hx
          exact bad_all e j _ (by omega) (List.getElem?_eq_getElem hj)
        exact ⟨w, rfl, hw, by rw [List.length_map] at hl; omega⟩
  | _ => cases h
theorem place_some {p : Pl} {w : List Str} {n : Nat} (h : placeD p (wdT w) = some n) : (∃ z, w[n]? = some z ∧ z ∉ p.letters) ∨ (n = 60 ∧ 60 < w.length) := by
  have h : placeL p (w.map .str) = some n := h
  unfold placeL at h
  cases e : badAt p 0 60 (w.map D.str) with
  | some i =>
    rw [e] at h
    cases h
    obtain ⟨j, x, rfl, h2, h3, h4⟩ := bad_some e
    rw [Nat.zero_add]
    rw [List.getElem?_map] at h3
    obtain ⟨z, hz, rfl⟩ := Option.map_eq_some_iff.mp h3
    exact .inl ⟨z, hz, of_decide_eq_false h4⟩
  | none =>
    rw [e] at h
    replace h : (if 60 < (w.map D.str).length then some 60 else none : Option Nat) = some n := h
    by_cases hl : 60 < (w.map D.str).length
    · rw [if_pos hl] at h
      cases h
      exact .inr ⟨rfl, by rw [List.length_map] at hl; exact hl⟩
    · rw [if_neg hl] at h; cases h
theorem placeL_bad {p : Pl} {ds : List D} {i : Nat} {d : D} (h1 : ∀ j x, j < i → ds[j]? = some x → isLt p x = true) (h2 : i < 60) (h3 : ds[i]? = some d) (h4 : isLt p d = false) : placeD p (.tup ds) = some i := by
  show placeL p ds = _
  unfold placeL
  rw [bad_here h1 h2 h3 h4, Nat.zero_add]
theorem placeL_end {p : Pl} {ds : List D} (h1 : ∀ j x, j < 60 → ds[j]? = some x → isLt p x = true) : placeD p (.tup ds) = if 60 < ds.length then some 60 else none := by
  show placeL p ds = _
  unfold placeL
  rw [bad_none h1]
theorem isLt_no {p : Pl} {d : D} (h : NoStr d) : isLt p d = false := by
  cases d with
  | str z =>
    obtain ⟨T, h1, h2⟩ := h
    have h1 : some "str" = some T := h1 fun _ => none
    cases h1
    exact absurd h2 (by decide +kernel)
  | _ => rfl
theorem enum_at49 {xs : List D} {i : Nat} {d : D} (h : (enumD xs)[i]? = some d) : ∃ x, xs[i]? = some x ∧ d = .tup [.int (i : Nat), x] := by
  obtain ⟨hi, e⟩ := rowsD_get h
  exact ⟨xs[i], List.getElem?_eq_getElem hi, by rw [e, List.getD_eq_getElem?_getD, List.getElem?_eq_getElem hi]; rfl⟩
theorem enum_len49 {xs : List D} : (enumD xs).length = xs.length := by unfold enumD; rw [rowsD_len]
theorem lw__law_place (h : sp__law_place K ds M Q E) : rd__law_place K (wd E) (ends Q) (startD ["_law_parts_here", "_law_thing_here", "_law_at"] ds) M := by
  obtain ⟨o, u, rfl, p, ok, rfl, ht, q⟩ := h
  have hs := sizeLine_eq
  unfold rd__law_place
  rcases ht with hn | ⟨ts, rfl, hl, hel⟩
  · obtain ⟨T, hT, hT2⟩ := id hn
    rw [place_no hn] at q
    walk_at "bbs"
    refine i_isi hT hT2 ?_
    walk_at "bbs"
    exact .done q
  · walk_at "bbs"
    refine .done ?_
    walk_at "bbs"
    refine ⟨60, (ts.length : Nat), rfl, ?_⟩
    obtain ⟨m, hm⟩ : ∃ m : Nat, m = min 60 ts.length := ⟨_, rfl⟩
    have em : (if ((ts.length : Nat) : Int) < 60 then ((ts.length : Nat) : Int) else 60) = (m : Nat) := by
      subst hm; split <;> omega
    rw [em]
    walk_at "bbs"
    refine ⟨by omega, by omega, ?_⟩
    rw [Int.toNat_natCast]
    refine ⟨fun i env M' => M' = M ∧ (∃ x2 : Option D, env = [some (partsD p), some (.tup ts), x2]) ∧ ∀ j x, j < i → ts[j]? = some x → isLt p x = true, ⟨rfl, ⟨none, rfl⟩, fun j x hj => by omega⟩, fun _ _ _ _ => trivial, ?_, ?_⟩
    · rintro i d env M2 hd ⟨rfl, ⟨x2, rfl⟩, hall⟩
      obtain ⟨hi, rfl⟩ := rng_at hd
      rw [Int.zero_add]
      have hit : i < ts.length := by omega
      have e1 : ts[i]? = some ts[i] := List.getElem?_eq_getElem hit
      have ix : ∀ {M' : Mem}, ixD M' (.tup ts) (.int (i : Nat)) = some ts[i] := ix_tup e1
      walk_at "bbs"
      refine i_rdo ix ?_
      rcases hel _ (List.getElem_mem hit) with ⟨z, hz⟩ | ⟨T, hT, hT2⟩
      · rw [hz]
        rw [hz] at e1
        have ix2 : ∀ {M' : Mem}, ixD M' (.tup ts) (.int (i : Nat)) = some (.str z) := fun {M'} => by rw [ix, hz]
        walk_at "bbs"
        refine i_rdo ix2 ?_
        walk_at "bbs"
        refine i_inS (zs := p.letters) rfl ?_
        by_cases hzl : z ∈ p.letters
        · rw [if_pos rfl, decide_eq_true hzl]
          walk_at "bbs"
          refine .done ⟨rfl, ⟨_, rfl⟩, fun j x hj hx => ?_⟩
          by_cases hji : j = i
          · subst hji; rw [e1] at hx; cases hx; exact decide_eq_true hzl
          · exact hall j x (by omega) hx
        · rw [if_pos rfl, decide_eq_false hzl]
          walk_at "bbs"
          rw [placeL_bad hall (by omega) e1 (decide_eq_false hzl)] at q
          exact .done q
      · walk_at "bbs"
        refine i_isi (hT _) hT2 ?_
        walk_at "bbs"
        rw [placeL_bad hall (by omega) e1 (isLt_no ⟨T, hT, hT2⟩)] at q
        exact .done q
    · rintro env M2 ⟨rfl, ⟨x2, rfl⟩, hall⟩
      rw [rng_len] at hall
      refine .done ?_
      rw [placeL_end fun j x hj hx => hall j x (by have := (List.getElem?_eq_some_iff.mp hx).1; omega) hx] at q
      walk_at "bbs"
      by_cases hl2 : 60 < ts.length
      · rw [if_pos hl2] at q
        rw [decide_eq_true (by omega)]
        walk_at "bbs"
        exact .done q
      · rw [if_neg hl2] at q
        rw [decide_eq_false (by omega)]
        walk_at "bbs"
        exact .done q
theorem lw_need_letters (h : sp_need_letters K ds M Q E) : rd_need_letters K (wd E) (ends Q) (startD ["word", "letters", "at", "letter"] ds) M := by
  obtain ⟨u, l, rfl, p, ok, ht, rfl, q1, q2⟩ := h
  have hs := sizeLine_eq
  unfold rd_need_letters
  rcases ht with hn | ⟨ts, rfl, hl, hel⟩
  · obtain ⟨T, hT, hT2⟩ := id hn
    have q1 := q1 0 (place_no hn)
    walk_at "bbs"
    refine i_isi hT hT2 ?_
    walk_at "bbs"
    exact .done q1
  · walk_at "bbs"
    refine .done ?_
    walk_at "bbs"
    rw [show (60 : Int) = ((60 : Nat) : Int) from rfl, cut_to]
    refine ⟨_, _, rfl, rfl, ?_⟩
    refine ⟨fun i env M' => M' = M ∧ (∃ x2 x3 : Option D, env = [some (.tup ts), some (namesD p.letters), x2, x3]) ∧ ∀ j x, j < i → ts[j]? = some x → isLt p x = true, ⟨rfl, ⟨none, none, rfl⟩, fun j x hj => by omega⟩, fun _ _ _ _ => trivial, ?_, ?_⟩
    · rintro i d env M2 hd ⟨rfl, ⟨x2, x3, rfl⟩, hall⟩
      obtain ⟨e, he, rfl⟩ := enum_at49 hd
      have hi : i < 60 ∧ i < ts.length := by
        have := (List.getElem?_eq_some_iff.mp he).1
        rw [List.length_take] at this
        omega
      rw [List.getElem?_take_of_lt hi.1] at he
      refine i_gtup rfl ?_
      walk_at "bbs"
      rcases hel _ (List.mem_of_getElem? he) with ⟨z, rfl⟩ | ⟨T, hT, hT2⟩
      · walk_at "bbs"
        refine i_inS (zs := p.letters) rfl ?_
        by_cases hzl : z ∈ p.letters
        · rw [if_pos rfl, decide_eq_true hzl]
          walk_at "bbs"
          refine .done ⟨rfl, ⟨_, _, rfl⟩, fun j x hj hx => ?_⟩
          by_cases hji : j = i
          · subst hji; rw [he] at hx; cases hx; exact decide_eq_true hzl
          · exact hall j x (by omega) hx
        · rw [if_pos rfl, decide_eq_false hzl]
          walk_at "bbs"
          exact .done (q1 i (placeL_bad hall hi.1 he (decide_eq_false hzl)))
      · refine i_isi (hT _) hT2 ?_
        walk_at "bbs"
        exact .done (q1 i (placeL_bad hall hi.1 he (isLt_no ⟨T, hT, hT2⟩)))
    · rintro env M2 ⟨rfl, ⟨x2, x3, rfl⟩, hall⟩
      rw [enum_len49, List.length_take] at hall
      have hp := placeL_end (p := p) (ds := ts) fun j x hj hx => hall j x (by have := (List.getElem?_eq_some_iff.mp hx).1; omega) hx
      refine .done ?_
      walk_at "bbs"
      by_cases hl2 : 60 < ts.length
      · rw [if_pos hl2] at hp
        rw [decide_eq_true (by omega)]
        walk_at "bbs"
        exact .done (q1 60 hp)
      · rw [if_neg hl2] at hp
        rw [decide_eq_false (by omega)]
        walk_at "bbs"
        exact .done (q2 hp)
theorem nrmD_str (z : Str) : nrmD (.str z) = .str z := by simp only [nrmD]
theorem nrmDs_strs (w : List Str) : nrmDs (w.map .str) = w.map .str := by
  induction w with
  | nil => rw [List.map_nil, nrmDs]
  | cons z w ih => rw [List.map_cons, nrmDs, nrmD_str, ih]
theorem odd_str (z : Str) : ElOk (.str z) ∧ (∀ M', Thing M' (.str z)) ∧ ∀ b, D.str z ≠ .ref b := ⟨.inl ⟨z, rfl⟩, fun _ => .inl ⟨"str", rfl, by decide +kernel⟩, fun _ h => nomatch h⟩
theorem odd_tup (w : List Str) (h : w.length ≤ 500) : ElOk (.tup (w.map .str)) ∧ (∀ M', Thing M' (.tup (w.map .str))) ∧ ∀ b, D.tup (w.map .str) ≠ .ref b :=
  ⟨.inr ⟨"tuple", fun _ => rfl, by decide +kernel⟩, fun _ => .inr ⟨_, rfl, by rw [List.length_map]; exact h, fun x hx => by obtain ⟨z, _, rfl⟩ := List.mem_map.mp hx; exact .inl ⟨z, rfl⟩⟩, fun _ h => nomatch h⟩
theorem nrmD_non : nrmD .non = .non := by simp only [nrmD]
theorem nrmD_ref (a : Addr) : nrmD (.ref a) = .ref a := by simp only [nrmD]
theorem nrmD_lst (xs : List D) : nrmD (.lst xs) = .lst (nrmDs xs) := by rw [nrmD]
theorem nrmD_tup (w : List Str) : nrmD (.tup (w.map .str)) = .tup (w.map .str) := by rw [nrmD, nrmDs_strs]
mutual
theorem nrmD_id : ∀ d : D, nrmD (nrmD d) = nrmD d
  | .tup xs => by rw [nrmD, nrmD, nrmDs_id xs]
  | .ntup xs => by rw [nrmD, nrmD, nrmDs_id xs]
  | .htup xs => by rw [nrmD, nrmD, nrmDs_id xs]
  | .lst xs => by rw [nrmD, nrmD, nrmDs_id xs]
  | .non => by simp only [nrmD]
  | .bl _ => by simp only [nrmD]
  | .int _ => by simp only [nrmD]
  | .str _ => by simp only [nrmD]
  | .ty _ => by simp only [nrmD]
  | .ref _ => by simp only [nrmD]
  | .frz _ => by simp only [nrmD]
  | .dK _ => by simp only [nrmD]
  | .dT _ => by simp only [nrmD]
  | .ins _ _ => by simp only [nrmD]
  | .exc _ _ => by simp only [nrmD]
theorem nrmDs_id : ∀ ds : List D, nrmDs (nrmDs ds) = nrmDs ds
  | [] => by rw [nrmDs, nrmDs]
  | d :: ds => by rw [nrmDs, nrmDs, nrmD_id d, nrmDs_id ds]
end
theorem sum_small9 : ∀ {zs : List Str}, (∀ z ∈ zs, isNameB z = true) → (zs.map (·.length)).sum ≤ 6 * zs.length
  | [], _ => Nat.le_refl _
  | z :: zs, h => by
    have h1 := sum_small9 (zs := zs) fun y hy => h y (List.mem_cons_of_mem _ hy)
    have h2 := name_len (h z List.mem_cons_self)
    rw [List.map_cons, List.sum_cons, List.length_cons]
    omega
theorem lw__law_thing (h : sp__law_thing K ds M Q E) : rd__law_thing K (wd E) (ends Q) (startD ["_law_state", "_law_parts_here", "_law_size", "_law_row_here", "_law_way", "_law_odd", "_law_at", "_law_k"] ds) M := by
  obtain ⟨s, o, rfl, a, c, p, rfl, hm, ok, hl4, rfl, q⟩ := h
  have hs := sizeLine_eq
  have hl1 := ok.ls.2.2.1
  unfold rd__law_thing
  walk_at "bbs"
  refine i_deep ?_
  walk_at "bbs"
  refine ⟨by show 9 ≤ sizeLine; omega, ?_⟩
  walk_at "bbs"
  refine c_pickL hm rfl (by show 1 ≤ 9; omega) (by show 9 ≤ 1000; omega) fun dz hdz => ?_
  have hdz : ∃ n : Nat, dz = .int (n : Nat) ∧ n ≤ 63 := by
    simp only [List.mem_cons, List.not_mem_nil, or_false] at hdz
    rcases hdz with rfl | rfl | rfl | rfl | rfl | rfl | rfl | rfl | rfl
    · exact ⟨0, rfl, by omega⟩
    · exact ⟨1, rfl, by omega⟩
    · exact ⟨3, rfl, by omega⟩
    · exact ⟨5, rfl, by omega⟩
    · exact ⟨58, rfl, by omega⟩
    · exact ⟨59, rfl, by omega⟩
    · exact ⟨60, rfl, by omega⟩
    · exact ⟨61, rfl, by omega⟩
    · exact ⟨63, rfl, by omega⟩
  obtain ⟨n, rfl, hn⟩ := hdz
  simp only [nrmD]
  refine .done ?_
  walk_at "bbs"
  refine ⟨by omega, by omega, by rw [rng_len, sizeLine_eq]; omega, fun i acc M' => M' = M ∧ ∃ zz : List Str, acc = zz.map .str ∧ zz.length = i ∧ WordP p zz, ⟨rfl, [], rfl, rfl, fun _ h => by cases h⟩, fun _ _ _ _ => trivial, ?_, ?_⟩
  · rintro i d acc M2 hd ⟨rfl, zz, rfl, hl, hzz⟩
    walk_at "bbs"
    refine i_deep ?_
    walk_at "bbs"
    refine c_pickL hm (x := namesD p.letters) rfl (by rw [List.length_map]; omega) (by rw [List.length_map]; omega) fun dz hdz => ?_
    obtain ⟨z, hz, rfl⟩ := List.mem_map.mp hdz
    rw [nrmD_str]
    refine ⟨rfl, zz ++ [z], by rw [List.map_append]; rfl, by simp [hl], fun y hy => ?_⟩
    rcases List.mem_append.mp hy with hy | hy
    · exact hzz y hy
    · rw [List.mem_singleton.mp hy]; exact hz
  rintro acc M2 ⟨rfl, row, rfl, hrl, hrow⟩
  rw [rng_len, Int.toNat_natCast] at hrl
  subst hrl
  walk_at "bbs"
  refine .done ?_
  walk_at "bbs"
  refine c_drawP hm (by omega) (by omega) fun way w1 w2 => ?_
  refine .done ?_
  walk_at "bbs"
  refine i_deep ?_
  walk_at "bbs"
  refine ⟨by show 1 ≤ sizeLine; omega, ?_⟩
  walk_at "bbs"
  refine ⟨by show 1 ≤ sizeLine; omega, ?_⟩
  walk_at "bbs"
  have hl2 := ok.ss.2.2.1
  have h0s : 0 < p.signs.length := by omega
  have hs0 : isNameB p.signs[0] = true := ok.ss.1 _ (List.getElem_mem h0s)
  have hsl0 := name_len hs0
  refine i_rdo (d := .str p.signs[0]) (ix_tup (i := 0) (xs := p.signs.map D.str) (by rw [List.getElem?_map, List.getElem?_eq_getElem h0s]; rfl)) ?_
  walk_at "bbs"
  refine i_rdo (addD_str (by show _ + 1 ≤ _; omega)) ?_
  walk_at "bbs"
  refine ⟨by show 10 ≤ sizeLine; omega, ?_⟩
  walk_at "bbs"
  refine c_pickL hm rfl (by show 1 ≤ 10; omega) (by show 10 ≤ 1000; omega) fun od0 hod => ?_
  have hodd : ElOk (nrmD od0) ∧ (∀ M', Thing M' (nrmD od0)) ∧ ∀ b, nrmD od0 ≠ .ref b := by
    simp only [List.mem_cons, List.not_mem_nil, or_false] at hod
    rcases hod with rfl | rfl | rfl | rfl | rfl | rfl | rfl | rfl | rfl | rfl
    · simp only [nrmD]; exact ⟨.inr ⟨"NoneType", fun _ => rfl, by decide +kernel⟩, fun _ => .inl ⟨"NoneType", rfl, by decide +kernel⟩, fun _ h => nomatch h⟩
    · simp only [nrmD]; exact ⟨.inr ⟨"int", fun _ => rfl, by decide +kernel⟩, fun _ => .inl ⟨"int", rfl, by decide +kernel⟩, fun _ h => nomatch h⟩
    · simp only [nrmD]; exact ⟨.inr ⟨"bool", fun _ => rfl, by decide +kernel⟩, fun _ => .inl ⟨"bool", rfl, by decide +kernel⟩, fun _ h => nomatch h⟩
    · rw [nrmD_str]; exact odd_str _
    · rw [nrmD_str]; exact odd_str _
    · rw [nrmD_str]; exact odd_str _
    · simp only [nrmD, nrmDs]; exact odd_tup ["a"] (by show 1 ≤ 500; omega)
    · simp only [nrmD, nrmDs]; exact ⟨.inr ⟨"list", fun _ => rfl, by decide +kernel⟩, fun _ => .inl ⟨"list", rfl, by decide +kernel⟩, fun _ h => nomatch h⟩
    · have e : nrmD (namesD p.letters) = .tup (p.letters.map .str) := by
        show nrmD (.ntup (p.letters.map .str)) = _
        rw [nrmD, nrmDs_strs]
      rw [e]; exact odd_tup p.letters (by omega)
    · rw [nrmD_str]; exact odd_str _
  obtain ⟨od, hod2⟩ : ∃ od, od = nrmD od0 := ⟨_, rfl⟩
  have hod3 : nrmD od = od := by rw [hod2, nrmD_id]
  rw [← hod2] at hodd ⊢
  clear hod2
  have hod2 := hod3
  obtain ⟨hoe, hot, hor⟩ := hodd
  refine .done ?_
  walk_at "bbs"
  refine c_drawP hm (by omega) (by omega) fun at0 t1 t2 => ?_
  obtain ⟨k, rfl⟩ := Int.eq_ofNat_of_zero_le t1
  have fin : ∀ ds : List D, ds.length ≤ 500 → (∀ x ∈ ds, ElOk x) → Q (.tup ds) M2 := fun ds h1 h2 => q _ (fun _ => .inr ⟨ds, rfl, h1, h2⟩) fun _ h => nomatch h
  have hel : ∀ x ∈ row.map D.str, ElOk x := fun x hx => by obtain ⟨z, _, rfl⟩ := List.mem_map.mp hx; exact .inl ⟨z, rfl⟩
  refine .done ?_
  walk_at "bbs"
  by_cases e0 : way = 0
  · subst e0
    walk_at "bbs"
    exact .done (fin _ (by rw [List.length_map]; omega) hel)
  rw [decide_eq_false e0]
  walk_at "bbs"
  refine .done ?_
  walk_at "bbs"
  have fin3 : ∀ j : Nat, Q (.tup (((row.map D.str).take k ++ [od]) ++ (row.map D.str).drop j)) M2 := fun j => fin _ (by rw [List.length_append, List.length_append, List.length_take, List.length_drop, List.length_map, List.length_singleton]; omega) fun x hx => by
    rcases List.mem_append.mp hx with hx | hx
    · rcases List.mem_append.mp hx with hx | hx
      · exact hel x (List.mem_of_mem_take hx)
      · rw [List.mem_singleton.mp hx]; exact hoe
    · exact hel x (List.mem_of_mem_drop hx)
  by_cases e1 : way = 1
  · subst e1
    walk_at "bbs"
    refine ⟨by show 1 ≤ sizeLine; omega, ?_⟩
    refine i_rdo (addD_tup (by rw [cut_to, List.length_take, List.length_map]; show _ + 1 ≤ _; omega)) ?_
    walk_at "bbs"
    refine i_rdo (addD_tup (by rw [cut_to, cut_from, List.length_append, List.length_take, List.length_drop, List.length_map]; show _ + 1 + _ ≤ _; omega)) ?_
    rw [cut_to, cut_from]
    exact .done (fin3 k)
  rw [decide_eq_false e1]
  walk_at "bbs"
  refine .done ?_
  walk_at "bbs"
  by_cases e2 : way = 2
  · subst e2
    walk_at "bbs"
    refine ⟨by show 1 ≤ sizeLine; omega, ?_⟩
    refine i_rdo (addD_tup (by rw [cut_to, List.length_take, List.length_map]; show _ + 1 ≤ _; omega)) ?_
    walk_at "bbs"
    rw [show ((k : Nat) : Int) + 1 = ((k + 1 : Nat) : Int) by omega]
    refine i_rdo (addD_tup (by rw [cut_to, cut_from, List.length_append, List.length_take, List.length_drop, List.length_map]; show _ + 1 + _ ≤ _; omega)) ?_
    rw [cut_to, cut_from]
    exact .done (fin3 (k + 1))
  rw [decide_eq_false e2]
  walk_at "bbs"
  refine .done ?_
  walk_at "bbs"
  refine i_deep ?_
  walk_at "bbs"
  have e0 : (Str.ofString "").length = 0 := rfl
  refine ⟨by rw [e0]; have := sum_small9 fun z hz => ok.ls.1 z (hrow z hz); omega, ?_⟩
  walk_at "bbs"
  intro D0 hD0
  walk_at "bbs"
  refine ⟨by show 0 ≤ sizeLine; omega, ?_⟩
  walk_at "bbs"
  refine i_rdo (addD_tup (by rw [show (1 : Int) = ((1 : Nat) : Int) from rfl, cut_to, List.length_take, List.length_map]; omega)) ?_
  walk_at "bbs"
  refine ⟨by show 7 ≤ sizeLine; omega, ?_⟩
  walk_at "bbs"
  have hma : (mset M2 D0 (.dK [])) a = some (.gen c) := by rw [mset_ne (mem_ne hm hD0)]; exact hm
  refine c_pickL hma rfl (by show 1 ≤ 7; omega) (by show 7 ≤ 1000; omega) fun d hd => ?_
  have fin7 : ∀ d, (∀ M', Thing M' d) → (∀ b, d ≠ .ref b) → FzV Q d (mset M2 D0 (.dK [])) := fun d h1 h2 => .drop D0 mset_same rfl (by rw [mdel_mset hD0]; exact .done (q d h1 h2))
  have hl : ∀ xs : List D, (∀ M', Thing M' (.lst xs)) ∧ ∀ b, D.lst xs ≠ .ref b := fun xs => ⟨fun _ => .inl ⟨"list", rfl, by decide +kernel⟩, fun _ h => nomatch h⟩
  simp only [List.mem_cons, List.not_mem_nil, or_false] at hd
  rcases hd with rfl | rfl | rfl | rfl | rfl | rfl | rfl
  · rw [nrmD_lst]; exact fin7 _ (hl _).1 (hl _).2
  · rw [nrmD_str]; exact fin7 _ (odd_str _).2.1 (odd_str _).2.2
  · rw [hod2]; exact fin7 _ hot hor
  · rw [nrmD_ref]; exact .fixK mset_same (by rw [mdel_mset hD0]; exact .done (q _ (fun _ => .inl ⟨"dict", rfl, by decide +kernel⟩) fun _ h => nomatch h))
  · rw [nrmD_lst]; exact fin7 _ (hl _).1 (hl _).2
  · rw [nrmD_non]; exact fin7 _ (fun _ => .inl ⟨"NoneType", rfl, by decide +kernel⟩) fun _ h => nomatch h
  · rw [show (1 : Int) = ((1 : Nat) : Int) from rfl, cut_to, ← List.map_take, ← List.map_append, nrmD_tup]
    exact fin7 _ (odd_tup _ (by rw [List.length_append, List.length_take]; omega)).2.1 (odd_tup _ (by rw [List.length_append, List.length_take]; omega)).2.2
end
end BB
set_option maxHeartbeats 8000000
namespace BB
open L2 PySem PySem.Spec PyProof.Rows
local macro_rules | `(tactic| walk_at "bb") => `(tactic| first
  | (with_reducible refine i_c ?_) | (with_reducible refine i_n ?_) | (with_reducible refine i_op ?_) | (with_reducible refine i_cons ?_) | (with_reducible refine i_nil ?_) | (with_reducible refine i_cb ?_)
  | (with_reducible refine i_seq ?_) | (with_reducible refine i_set ?_) | (with_reducible refine i_ret ?_) | (with_reducible refine i_if ?_) | (with_reducible refine i_drop ?_) | (with_reducible refine i_par ?_) | (with_reducible refine i_setF ?_) | (with_reducible refine i_raise ?_) | (with_reducible refine i_raiseI ?_) | (with_reducible refine i_asg ?_)
  | (with_reducible refine i_test ?_) | (with_reducible refine i_chain ?_) | (with_reducible refine i_tru ?_) | (with_reducible refine i_and ?_) | (with_reducible refine i_or ?_) | (with_reducible refine i_not ?_)
  | (with_reducible refine i_andv ?_) | (with_reducible refine i_orv ?_) | (with_reducible refine i_notv ?_) | (with_reducible refine i_ifx ?_) | (with_reducible refine i_tup ?_) | (with_reducible refine i_lst ?_) | (with_reducible refine i_lstM ?_)
  | (with_reducible refine i_neg ?_) | (with_reducible refine i_call ?_) | (with_reducible refine i_callK ?_) | (with_reducible refine i_meth ?_) | (with_reducible refine i_fld ?_) | (with_reducible refine i_tupIx ?_) | (with_reducible refine i_app ?_)
  | (with_reducible refine i_join ?_) | (with_reducible refine i_sl ?_) | (with_reducible refine i_part ?_) | (with_reducible refine i_nopart ?_) | (with_reducible refine i_next ?_) | (with_reducible refine i_retN ?_)
  | (with_reducible refine i_gname ?_) | (with_reducible refine i_gcons ?_) | (with_reducible refine i_gnil ?_) | (with_reducible refine i_seqI ?_) | (with_reducible refine i_rng1 ?_) | (with_reducible refine i_enum ?_) | (with_reducible refine i_zip2 ?_)
  | (with_reducible refine i_keys ?_) | (with_reducible refine i_updT ?_) | (with_reducible refine i_popI ?_) | (with_reducible refine i_lcM ?_) | (with_reducible refine i_parD ?_) | (with_reducible refine i_tupH ?_) | (with_reducible refine i_dispT ?_) | (with_reducible refine i_dget ?_) | (with_reducible refine i_dget1 ?_) | (with_reducible refine i_dget2 ?_) | (with_reducible refine i_dput ?_) | (with_reducible refine i_while ?_) | (with_reducible refine i_newT ?_) | (with_reducible refine i_newK ?_) | (with_reducible refine i_dispK ?_)
  | (with_reducible refine i_yes ?_) | (with_reducible refine i_for ?_) | (with_reducible refine i_lc ?_)
  | ((with_reducible refine i_var (d := ?bbd) ?bbh ?bbq); (case bbh => rfl)) | ((with_reducible refine i_rdo (d := ?bbd) ?bbh ?bbq); (case bbh => rfl); (try dsimp only)) | ((with_reducible refine i_rd1 (d := ?bbd) ?bbh ?bbq); (case bbh => rfl); (try dsimp only))
  | (with_reducible refine i_itt ?_) | (with_reducible refine i_nf ?_) | (with_reducible refine i_nt ?_) | (with_reducible refine i_itf ?_)
  | ((with_reducible show rdIsi _ _ _); first | refine i_isi rfl kb_int_int ?_ | refine i_isi rfl kb_int_bool ?_ | refine i_isi rfl kb_str_str ?_ | refine i_isi rfl kb_tup_tup ?_)
  | (with_reducible refine ⟨_, rfl, ?_⟩)
  | ((with_reducible show wkD _ _ _); first | refine wk_tup ?_ | refine wk_lst ?_ | refine wk_str ?_)
  | ((with_reducible show rdEq _ _ _ _); refine i_eqI ?_) | ((with_reducible show rdNe _ _ _ _); refine i_neI ?_)
  | ((with_reducible show ite _ _ _); refine i_itt ?_) | ((with_reducible show ite _ _ _); refine i_itf ?_))
local macro_rules | `(tactic| walk_at "bbs") => `(tactic| repeat walk_at "bb")
section
variable {K : PySem.W.Frag} {ds : List D} {M : Mem} {Q : DKt} {E : DX} {w_ : World}
theorem fl_model {p : Pl} {f d r : Addr} : List.lookup (α := Str) "model" (askF K p f d r) = some (planD K p) := by kernel_rfl
theorem fl_by {p : Pl} {f d r : Addr} : List.lookup (α := Str) "answers_by" (askF K p f d r) = some (.ref f) := by kernel_rfl
theorem fl_told {p : Pl} {f d r : Addr} : List.lookup (α := Str) "last_told" (askF K p f d r) = some (.ref d) := by kernel_rfl
theorem fl_rows {p : Pl} {f d r : Addr} : List.lookup (α := Str) "rows" (askF K p f d r) = some (.ref r) := by kernel_rfl
theorem fl_no1 {p : Pl} {f d r : Addr} : List.lookup (α := Str) "signs_told" (askF K p f d r) = none := by kernel_rfl
theorem fl_no2 {p : Pl} {f d r : Addr} : List.lookup (α := Str) "known" (askF K p f d r) = none := by kernel_rfl
theorem fl_no3 {p : Pl} {f d r : Addr} : List.lookup (α := Str) "is_answer" (askF K p f d r) = none := by kernel_rfl
theorem no_signs47 {a b c : D} : List.lookup (α := Str) "signs" [("own_letters", a), ("own_signs", b), ("own_rooms", c)] = none := by kernel_rfl
theorem put_i1 {a : D} : putD "model" a ([] : List (Str × D)) = ([("model", a)] : List (Str × D)) := by kernel_rfl
theorem put_i2 {a b : D} : putD "answers_by" b ([("model", a)] : List (Str × D)) = ([("model", a), ("answers_by", b)] : List (Str × D)) := by kernel_rfl
theorem put_i3 {a b c : D} : putD "last_told" c ([("model", a), ("answers_by", b)] : List (Str × D)) = ([("model", a), ("answers_by", b), ("last_told", c)] : List (Str × D)) := by kernel_rfl
theorem put_i4 {a b c e : D} : putD "rows" e ([("model", a), ("answers_by", b), ("last_told", c)] : List (Str × D)) = ([("model", a), ("answers_by", b), ("last_told", c), ("rows", e)] : List (Str × D)) := by kernel_rfl
theorem lw_Asker___init__ (h : sp_Asker___init__ K w_ ds M Q E) : rd_Asker___init__ K w_ (wd E) (ends Q) (startD ["self", "plan", "box"] ds) M := by
  obtain ⟨o, u, b, rfl, p, a, f, ok, rfl, hM, rfl, rfl, q⟩ := h
  unfold rd_Asker___init__
  walk_at "bbs"
  refine ⟨a, _, rfl, hM, by decide, ?_⟩
  rw [put_i1]
  refine .done ?_
  walk_at "bbs"
  refine ⟨a, _, rfl, mset_same, by show 1 < 1000; omega, ?_⟩
  rw [put_i2, mset_mset]
  refine .done ?_
  walk_at "bbs"
  intro d hd
  have hda : d ≠ a := fun e => by rw [e, mset_same] at hd; cases hd
  have hd0 : M d = none := by rw [mset_ne hda] at hd; exact hd
  walk_at "bbs"
  refine ⟨a, _, rfl, by rw [mset_ne hda.symm]; exact mset_same, by show 2 < 1000; omega, ?_⟩
  rw [put_i3]
  refine .done ?_
  walk_at "bbs"
  refine ⟨Nat.zero_le _, fun r hr => ?_⟩
  have hra : r ≠ a := fun e => by rw [e, mset_same] at hr; cases hr
  rw [mset_ne hra] at hr
  have hrd : d ≠ r := fun e => by rw [← e, mset_same] at hr; cases hr
  rw [mset_ne hrd.symm, mset_ne hra] at hr
  walk_at "bbs"
  refine ⟨a, _, rfl, by rw [mset_ne hra.symm]; exact mset_same, by show 3 < 1000; omega, ?_⟩
  rw [put_i4]
  have e : mset (mset (mset (mset (mset M a (MO.ins (He.ga K "Asker") [("model", planD K p), ("answers_by", .ref f)])) d (dX w_ false [])) a (MO.ins (He.ga K "Asker") [("model", planD K p), ("answers_by", .ref f), ("last_told", .ref d)])) r (.lst [])) a (MO.ins (He.ga K "Asker") [("model", planD K p), ("answers_by", .ref f), ("last_told", .ref d), ("rows", .ref r)])
      = mset (mset (mset M d (dX w_ false [])) r (.lst [])) a (.ins (He.ga K "Asker") (askF K p f d r)) := funext fun b => by
    by_cases h1 : b = a
    · subst h1; rw [mset_same, mset_same]; rfl
    · rw [mset_ne h1, mset_ne h1]
      by_cases h2 : b = r
      · subst h2; rw [mset_same, mset_same]
      · rw [mset_ne h2, mset_ne h2, mset_ne h1]
        by_cases h3 : b = d
        · subst h3; rw [mset_same, mset_same]
        · rw [mset_ne h3, mset_ne h3, mset_ne h1]
  rw [e]
  exact .done (q d r hd0 hr hrd)
theorem c_need49 {p : Pl} {u : D} (ok : p.Ok) (ht : Thing M u) (q1 : ∀ n, placeD p u = some n → E (.ref (He.ga K "NoWord")) [("at", .int (n : Nat))] M) (q2 : placeD p u = none → Q .non M) : sp_need_letters K [u, namesD p.letters] M Q E := ⟨_, _, rfl, p, ok, ht, rfl, q1, q2⟩
theorem c_told49 {a : Addr} {p : Pl} {f d r : Addr} {kv : List (List Key × D)} {rows : List D} {w : List Str} (h : AskAt K w_ M a p f d r kv rows) (hk : KvOk kv) (hl : w.length ≤ 1000) (q : ∀ ss, ToldTo kv w ss → Q (.lst (ss.map .str)) M) : sp_Asker_signs_told K w_ [.ref a, wdT w] M Q E := ⟨_, _, rfl, a, p, f, d, r, kv, rows, w, rfl, h, hk, rfl, hl, q⟩
theorem c_knownA {a : Addr} {p : Pl} {f d r : Addr} {kv : List (List Key × D)} {rows : List D} {u : D} (h : AskAt K w_ M a p f d r kv rows) (hk : KvOk kv) (ht : Thing M u) (q1 : (∀ w, u ≠ wdT w) → Q .non M) (q : ∀ w, u = wdT w → ∀ ss, ToldTo kv w ss → (ss.length = w.length → Q (.tup (ss.map .str)) M) ∧ (ss.length < w.length → Q .non M)) : sp_Asker_known K w_ [.ref a, u] M Q E := ⟨_, _, rfl, a, p, f, d, r, kv, rows, rfl, h, hk, ht, q1, q⟩
theorem c_isans {a : Addr} {p : Pl} {f d r : Addr} {kv : List (List Key × D)} {rows : List D} {w gs ss : List Str} (h : AskAt K w_ M a p f d r kv rows) (hk : KvOk kv) (hl : w.length ≤ 1000) (g1 : gs.length = w.length) (g2 : ∀ s ∈ gs, s ∈ p.signs) (ht : ToldTo kv w ss) (g3 : ss = gs.take ss.length) (q : Q (.bl true) M) : sp_Asker_is_answer K w_ [.ref a, wdT w, .tup (gs.map .str)] M Q E := ⟨_, _, _, rfl, a, p, f, d, r, kv, rows, w, gs, ss, rfl, h, hk, rfl, hl, rfl, g1, g2, ht, g3, q⟩
theorem cutT1 {w : List Str} (n : Nat) : D.tup (cutD (w.map D.str) none (some (1 + (n : Int)))) = wdT (w.take (n + 1)) := by
  rw [show (1 + (n : Int)) = ((n + 1 : Nat) : Int) by omega, cut_to, ← List.map_take]; rfl
theorem cutT2 {w : List Str} (n : Nat) : D.tup (cutD (w.map D.str) none (some ((n : Int) + 1))) = wdT (w.take (n + 1)) := by
  rw [show ((n : Int) + 1) = ((n + 1 : Nat) : Int) by omega, cut_to, ← List.map_take]; rfl
theorem i_rng247 {dl : DA} {env : Env} {R : List D → (Mem → Prop) → Mem → Prop} (q : dl env M fun ds M1 => ∃ i j : Int, ds = [.int i, .int j] ∧ (-(2 ^ 62) ≤ i ∧ i < 2 ^ 62 ∧ -(2 ^ 62) ≤ j ∧ j < 2 ^ 62) ∧ R (rngD i (j - i).toNat) (fun _ => True) M1) : dRng2 dl env M R := q
theorem lw_Asker_signs_told (h : sp_Asker_signs_told K w_ ds M Q E) : rd_Asker_signs_told K w_ (wd E) (ends Q) (startD ["self", "word", "found", "at"] ds) M := by
  obtain ⟨o, u, rfl, a, p, f, d, r, kv, rows, w, rfl, h, hk, rfl, hl, q⟩ := h
  have hs := sizeLine_eq
  unfold rd_Asker_signs_told
  walk_at "bbs"
  refine ⟨Nat.zero_le _, fun g hg => ?_⟩
  have hob : ∀ {x}, (mset M g x) a = some (.ins (He.ga K "Asker") (askF K p f d r)) := fun {x} => by rw [mset_ne (mem_ne h.ob hg)]; exact h.ob
  have hdd : ∀ {x}, (mset M g x) d = some (dX w_ false kv) := fun {x} => by rw [mset_ne (mem_ne h.dd hg)]; exact h.dd
  refine .done ?_
  walk_at "bbs"
  refine i_rng247 ?_
  walk_at "bbs"
  refine ⟨_, _, rfl, ⟨by omega, by omega, by rw [List.length_map]; omega, by rw [List.length_map]; omega⟩, ?_⟩
  have hn : ((((w.map D.str).length : Nat) : Int) + 1 - 1).toNat = w.length := by rw [List.length_map]; omega
  rw [hn]
  refine ⟨fun i env M' => ∃ (ss : List Str) (x3 : Option D), env = [some (.ref a), some (wdT w), some (.ref g), x3] ∧ M' = mset M g (.lst (ss.map .str)) ∧ ss.length = i ∧ ∀ (j : Nat) (s : Str), ss[j]? = some s → valD kv (keyW (w.take (j + 1))) = some (.str s),
    ⟨[], none, rfl, rfl, rfl, fun j s h => by cases h⟩, fun _ _ _ _ => trivial, ?_, ?_⟩
  · rintro i d' env M2 hd ⟨ss, x3, rfl, rfl, hl2, hss⟩
    obtain ⟨hi, rfl⟩ := rng_at hd
    walk_at "bbs"
    rw [cutT1]
    refine ⟨_, insOf_ref hob, _, fl_told, ?_⟩
    refine i_xnotin hdd (wdT_key _) ?_
    cases hv : valD kv (keyW (w.take (i + 1))) with
    | none =>
      walk_at "bbs"
      refine .fixL mset_same ?_
      rw [mdel_mset hg]
      exact .done (q ss ⟨by omega, hss, .inr (by rw [hl2]; exact hv)⟩)
    | some x =>
      obtain ⟨s, rfl, hso⟩ := hk _ _ hv
      walk_at "bbs"
      refine .done ?_
      walk_at "bbs"
      refine ⟨g, _, rfl, mset_same, ?_⟩
      refine i_xget ?_
      walk_at "bbs"
      refine ⟨_, insOf_ref hob, _, fl_told, ?_⟩
      walk_at "bbs"
      rw [cutT1]
      refine ⟨d, false, kv, _, _, rfl, hdd, wdT_key _, hv, ?_⟩
      refine ⟨_, mset_same, by rw [List.length_map]; omega, ?_⟩
      refine .done ⟨ss ++ [s], _, rfl, by rw [mset_mset, List.map_append]; rfl, by rw [List.length_append, List.length_singleton, hl2], fun j s' hj => ?_⟩
      by_cases hjl : j < ss.length
      · rw [List.getElem?_append_left hjl] at hj
        exact hss j s' hj
      · rw [List.getElem?_append_right (by omega)] at hj
        have hj0 : j - ss.length = 0 := by
          refine Classical.byContradiction fun hn => ?_
          rw [List.getElem?_eq_none (by show 1 ≤ _; omega)] at hj
          cases hj
        rw [hj0] at hj
        cases hj
        rw [show j = i by omega]
        exact hv
  · rintro env M2 ⟨ss, x3, rfl, rfl, hl2, hss⟩
    rw [rng_len] at hl2
    refine .done ?_
    walk_at "bbs"
    refine .fixL mset_same ?_
    rw [mdel_mset hg]
    exact .done (q ss ⟨by omega, hss, .inl hl2⟩)
def isStr : D → Bool
  | .str _ => true
  | _ => false
theorem isStr_no {d : D} (h : NoStr d) : isStr d = false := by
  cases d with
  | str z =>
    obtain ⟨T, h1, h2⟩ := h
    have h1 : some "str" = some T := h1 fun _ => none
    cases h1
    exact absurd h2 (by decide +kernel)
  | _ => rfl
theorem strs_all : ∀ {ts : List D}, (ts.map isStr).all id = true → ∃ w : List Str, ts = w.map .str
  | [], _ => ⟨[], rfl⟩
  | d :: ts, h => by
    rw [List.map_cons, List.all_cons, Bool.and_eq_true] at h
    obtain ⟨w, rfl⟩ := strs_all h.2
    cases d with
    | str z => exact ⟨z :: w, rfl⟩
    | _ => exact absurd (show (false : Bool) = true from h.1) Bool.false_ne_true
theorem all_strs (w : List Str) : ((w.map D.str).map isStr).all id = true := by
  induction w with
  | nil => rfl
  | cons z w ih => rw [List.map_cons, List.map_cons, List.all_cons, ih]; rfl
theorem lw_Asker_known (h : sp_Asker_known K w_ ds M Q E) : rd_Asker_known K w_ (wd E) (ends Q) (startD ["self", "word", "signs", "letter"] ds) M := by
  obtain ⟨o, u, rfl, a, p, f, d, r, kv, rows, rfl, h, hk, ht, q1, q⟩ := h
  have hs := sizeLine_eq
  unfold rd_Asker_known
  rcases ht with hn | ⟨ts, rfl, hl, hel⟩
  · obtain ⟨T, hT, hT2⟩ := id hn
    have q1 := q1 fun w e => no_tup (ds := w.map .str) (by rw [← show u = .tup (w.map .str) from e]; exact hn)
    walk_at "bbs"
    refine i_isi hT hT2 ?_
    walk_at "bbs"
    exact .done q1
  · walk_at "bbs"
    refine ⟨by omega, fun i acc M' => M' = M ∧ acc = ((ts.take i).map isStr).map D.bl, ⟨rfl, rfl⟩, fun _ _ _ _ => trivial, ?_, ?_⟩
    · rintro i e acc M2 hd ⟨rfl, rfl⟩
      have hsucc : ∀ {b}, isStr e = b → ((ts.take i).map isStr).map D.bl ++ [D.bl b] = ((ts.take (i + 1)).map isStr).map D.bl := fun {b} hb => by
        rw [← take_succ_of hd, List.map_append, List.map_append, ← hb]; rfl
      rcases hel e (List.mem_of_getElem? hd) with ⟨z, rfl⟩ | ⟨T, hT, hT2⟩
      · walk_at "bbs"
        exact ⟨rfl, hsucc rfl⟩
      · walk_at "bbs"
        refine i_isi (hT M2) hT2 ?_
        exact ⟨rfl, hsucc (isStr_no ⟨T, hT, hT2⟩)⟩
    · rintro acc M2 ⟨rfl, rfl⟩
      rw [List.take_length]
      walk_at "bbs"
      refine i_all rfl ?_
      by_cases ha : (ts.map isStr).all id = true
      · rw [ha]
        obtain ⟨w, rfl⟩ := strs_all ha
        walk_at "bbs"
        refine .done ?_
        walk_at "bbs"
        refine ⟨_, insOf_ref h.ob, fl_no1, ?_⟩
        walk_at "bbs"
        refine c_told49 h hk (by rw [List.length_map] at hl; omega) fun ss ht => ?_
        obtain ⟨q1, q2⟩ := q w rfl ss ht
        refine .done ?_
        walk_at "bbs"
        have hle := ht.len
        rw [List.length_map, List.length_map]
        by_cases c1 : ss.length = w.length
        · rw [decide_eq_true (by omega)]
          walk_at "bbs"
          exact .done (q1 c1)
        · rw [decide_eq_false (by omega)]
          walk_at "bbs"
          exact .done (q2 (by omega))
      · rw [Bool.eq_false_iff.mpr ha]
        walk_at "bbs"
        refine .done (q1 fun w e => ha ?_)
        have e : ts = w.map .str := D.tup.inj e
        rw [e]
        exact all_strs w
theorem py_strs47 (ss : List Str) : pyOf M (.lst (ss.map .str)) = some (.list (ss.map PyData.str)) := by
  show toPy (.lst _) = _
  rw [toPy, toPys_strs]; rfl
theorem lw_Asker_is_answer (h : sp_Asker_is_answer K w_ ds M Q E) : rd_Asker_is_answer K w_ (wd E) (ends Q) (startD ["self", "word", "signs", "ahead", "sign"] ds) M := by
  obtain ⟨o, u, g, rfl, a, p, f, d, r, kv, rows, w, gs, ss, rfl, h, hk, rfl, hl, rfl, g1, g2, ht, g3, q⟩ := h
  have hs := sizeLine_eq
  have ok := h.ok
  have hsl := ht.len
  unfold rd_Asker_is_answer
  walk_at "bbs"
  rw [List.length_map, List.length_map, decide_eq_true (by omega)]
  walk_at "bbs"
  refine .done ?_
  walk_at "bbs"
  refine ⟨by rw [List.length_map]; omega, fun i acc M' => M' = M ∧ acc = (List.replicate i true).map D.bl, ⟨rfl, rfl⟩, fun _ _ _ _ => trivial, ?_, ?_⟩
  · rintro i d' acc M2 hd ⟨rfl, rfl⟩
    obtain ⟨z, hz, rfl⟩ := strs_at hd
    have hzs := g2 z (List.mem_of_getElem? hz)
    walk_at "bbs"
    refine ⟨_, insOf_ref h.ob, _, fl_model, ?_⟩
    refine ⟨_, rfl, no_signs47, ?_⟩
    walk_at "bbs"
    refine c_signs47 ?_
    refine i_inS (zs := p.signs) rfl ?_
    rw [if_neg Bool.false_ne_true, decide_eq_true hzs]
    exact ⟨rfl, rep_succ⟩
  · rintro acc M2 ⟨rfl, rfl⟩
    walk_at "bbs"
    refine i_all rfl ?_
    rw [all_rep]
    walk_at "bbs"
    refine .done ?_
    walk_at "bbs"
    refine ⟨_, insOf_ref h.ob, fl_no1, ?_⟩
    walk_at "bbs"
    refine c_told49 h hk hl fun ss2 ht2 => ?_
    have e2 : ss2 = ss := by
      have key : ∀ {x y : List Str}, ToldTo kv w x → ToldTo kv w y → x.length ≤ y.length := fun {x y} hx hy => by
        refine Nat.le_of_not_lt fun hlt => ?_
        rcases hy.stop with e | e
        · have := hx.len; omega
        · have e1 : x[y.length]? = some x[y.length] := List.getElem?_eq_getElem hlt
          rw [hx.at_ _ _ e1] at e; cases e
      have hlen : ss2.length = ss.length := Nat.le_antisymm (key ht2 ht) (key ht ht2)
      refine List.ext_getElem hlen fun i h1 h2 => ?_
      have a1 := ht2.at_ i _ (List.getElem?_eq_getElem h1)
      have a2 := ht.at_ i _ (List.getElem?_eq_getElem h2)
      rw [a1] at a2
      exact D.str.inj (Option.some.inj a2)
    subst e2
    refine .done ?_
    walk_at "bbs"
    rw [cut_to, List.length_map, ← List.map_take, ← g3]
    refine i_eqSame (py_strs47 ss2) (py_strs47 ss2) (shaped_list fun z hz => ?_) ?_
    · rw [g3] at hz
      exact strOk_name (ok.ss.1 z (g2 z (List.mem_of_mem_take hz)))
    · exact .done q
theorem mset_id47 {M : Mem} {d : Addr} {o : MO} (h : M d = some o) : mset M d o = M := funext fun b => by
  by_cases e : b = d
  · subst e; rw [mset_same, h]
  · rw [mset_ne e]
theorem enum_len47 {xs : List D} : (enumD xs).length = xs.length := by unfold enumD; rw [rowsD_len]
theorem wdT_inj {u v : List Str} (h : wdT u = wdT v) : u = v := (List.map_inj_right (fun a b e => D.str.inj e)).mp (D.tup.inj h)
theorem lw_Asker_ask (h : sp_Asker_ask K w_ ds M Q E) : rd_Asker_ask K w_ (wd E) (ends Q) (startD ["self", "word", "signs", "answer_for", "at", "sign"] ds) M := by
  obtain ⟨o, u, rfl, a, p, f, d, r, kv, rows, rfl, h, hk, hth, qe, q⟩ := h
  have hs := sizeLine_eq
  have ok := h.ok
  unfold rd_Asker_ask
  walk_at "bbs"
  refine ⟨_, insOf_ref h.ob, _, fl_model, ?_⟩
  refine ⟨_, rfl, no_letters, ?_⟩
  walk_at "bbs"
  refine c_letters ?_
  walk_at "bbs"
  refine c_need49 ok hth (fun n e => .done (qe n e)) fun hp => ?_
  obtain ⟨w, rfl, hw, hl⟩ := place_none hp
  replace q := q hp w rfl hw hl
  refine .done ?_
  walk_at "bbs"
  refine ⟨_, insOf_ref h.ob, fl_no2, ?_⟩
  walk_at "bbs"
  refine c_knownA h hk hth (fun z => absurd rfl (z w)) fun w1 e1 ss ht => ?_
  obtain rfl := wdT_inj e1
  obtain ⟨q1, q2⟩ := q ss ht
  refine ⟨fun e => ?_, fun e => ?_⟩
  · refine .done ?_
    walk_at "bbs"
    exact .done (q1 e)
  · refine .done ?_
    walk_at "bbs"
    refine .done ?_
    walk_at "bbs"
    refine ⟨_, insOf_ref h.ob, _, fl_by, ?_⟩
    refine .done ?_
    walk_at "bbs"
    obtain ⟨p', cl, c, hp, hf, cs, cds, M0, wf, hlc, hM0, hx0, hcall⟩ := q2 e
    refine ⟨f, p', cl, c, hp, rfl, hf, ?_⟩
    walk_at "bbs"
    refine ⟨hf, cs, cds, M0, wf, hlc, hM0, hx0, ?_⟩
    have hp2 := List.mem_singleton.mp hp
    subst hp2
    obtain ⟨hb, qa, crows, w', e1, e2, ok2, hqa, hcr, hw2, hl2, hq⟩ := hcall
    refine ⟨hb, qa, crows, w', e1, e2, ok2, hqa, hcr, hw2, hl2, ?_⟩
    obtain ⟨A1, kvl, rwl, gs, hg, hgl, hgs, hss, fin⟩ := hq
    rw [hg] at fin ⊢
    generalize addM cs cds (mset M0 qa (MO.lst (crows ++ [wdT w']))) = M1 at A1 fin ⊢
    refine .done ?_
    walk_at "bbs"
    refine ⟨_, insOf_ref A1.ob, fl_no3, ?_⟩
    walk_at "bbs"
    refine c_isans A1 hk (by omega) hgl hgs ht hss ?_
    walk_at "bbs"
    refine .done ?_
    have had : ∀ {x}, (mset M1 d x) a = some (.ins (He.ga K "Asker") (askF K p f d r)) := fun {x} => by rw [mset_ne (mem_ne2 A1.ob A1.dd (by rintro h; cases h))]; exact A1.ob
    have hrd : ∀ {x}, (mset M1 d x) r = some (.lst rows) := fun {x} => by rw [mset_ne (mem_ne2 A1.rr A1.dd (by rintro h; cases h))]; exact A1.rr
    walk_at "bbs"
    refine ⟨_, _, rfl, rfl, ?_⟩
    refine ⟨fun j env M' => ∃ (kv' : List (List Key × D)) (x4 x5 : Option D), env = [some (.ref a), some (wdT w), some (.tup (gs.map .str)), some (.ref f), x4, x5] ∧ M' = mset M1 d (dX w_ false kv') ∧ (∀ (i : Nat) (s : Str), i < j → gs[i]? = some s → valD kv' (keyW (w.take (i + 1))) = some (.str s)) ∧ (∀ k, (∀ i < j, k ≠ keyW (w.take (i + 1))) → valD kv' k = valD kv k) ∧ kv'.length ≤ kv.length + j,
      ⟨kv, _, _, rfl, (mset_id47 A1.dd).symm, (fun i s hi _ => by omega), fun k _ => rfl, Nat.le_refl _⟩, fun _ _ _ _ => trivial, ?_, ?_⟩
    · rintro j dd env M2 hd ⟨kv', x4, x5, rfl, rfl, h1, h2, h3⟩
      obtain ⟨z, hz, rfl⟩ := enum_at hd
      have hj : j < gs.length := (List.getElem?_eq_some_iff.mp hz).1
      refine i_gtup rfl ?_
      walk_at "bbs"
      refine i_xput ?_
      walk_at "bbs"
      refine ⟨_, insOf_ref had, _, fl_told, ?_⟩
      walk_at "bbs"
      rw [cutT2]
      refine ⟨d, false, kv', _, rfl, mset_same, wdT_key _, by omega, ?_⟩
      refine .done ⟨_, _, _, rfl, by rw [mset_mset], fun i s hi hsi => ?_, fun k hk => ?_, ?_⟩
      · rw [valD_put]
        by_cases hij : i = j
        · subst hij
          rw [if_pos rfl]
          rw [hz] at hsi
          cases hsi; rfl
        · rw [if_neg fun e => hij ?_]
          · exact h1 i s (by omega) hsi
          · have := congrArg List.length (keyW_inj e)
            rw [List.length_take, List.length_take] at this
            omega
      · rw [valD_put, if_neg (hk j (Nat.lt_succ_self j))]
        exact h2 k fun i hi => hk i (by omega)
      · have := putKD_len kv' (keyW (w.take (j + 1))) (D.str z)
        omega
    · rintro env M2 ⟨kv', x4, x5, rfl, rfl, h1, h2, h3⟩
      rw [enum_len47, List.length_map] at h1 h2 h3
      refine .done ?_
      walk_at "bbs"
      refine ⟨_, insOf_ref had, _, fl_rows, ?_⟩
      refine ⟨r, _, rfl, hrd, ?_⟩
      walk_at "bbs"
      refine ⟨_, hrd, by have := A1.rl; omega, ?_⟩
      refine .done ?_
      walk_at "bbs"
      have := fin kv' ⟨fun j s hj => h1 j s (List.getElem?_eq_some_iff.mp hj).1 hj, h2, h3⟩
      exact .done this
end
end BB
set_option maxHeartbeats 8000000
namespace BB
open L2 PySem PySem.Spec PyProof.Rows
local macro_rules | `(tactic| walk_at "bb") => `(tactic| first
  | (with_reducible refine i_c ?_) | (with_reducible refine i_n ?_) | (with_reducible refine i_op ?_) | (with_reducible refine i_cons ?_) | (with_reducible refine i_nil ?_) | (with_reducible refine i_cb ?_)
  | (with_reducible refine i_seq ?_) | (with_reducible refine i_set ?_) | (with_reducible refine i_ret ?_) | (with_reducible refine i_if ?_) | (with_reducible refine i_drop ?_) | (with_reducible refine i_par ?_) | (with_reducible refine i_setF ?_) | (with_reducible refine i_raise ?_) | (with_reducible refine i_raiseI ?_) | (with_reducible refine i_asg ?_)
  | (with_reducible refine i_test ?_) | (with_reducible refine i_chain ?_) | (with_reducible refine i_tru ?_) | (with_reducible refine i_and ?_) | (with_reducible refine i_or ?_) | (with_reducible refine i_not ?_)
  | (with_reducible refine i_andv ?_) | (with_reducible refine i_orv ?_) | (with_reducible refine i_notv ?_) | (with_reducible refine i_ifx ?_) | (with_reducible refine i_tup ?_) | (with_reducible refine i_lst ?_) | (with_reducible refine i_lstM ?_)
  | (with_reducible refine i_neg ?_) | (with_reducible refine i_call ?_) | (with_reducible refine i_callK ?_) | (with_reducible refine i_meth ?_) | (with_reducible refine i_fld ?_) | (with_reducible refine i_tupIx ?_) | (with_reducible refine i_app ?_)
  | (with_reducible refine i_join ?_) | (with_reducible refine i_sl ?_) | (with_reducible refine i_part ?_) | (with_reducible refine i_nopart ?_) | (with_reducible refine i_next ?_) | (with_reducible refine i_retN ?_)
  | (with_reducible refine i_gname ?_) | (with_reducible refine i_gcons ?_) | (with_reducible refine i_gnil ?_) | (with_reducible refine i_seqI ?_) | (with_reducible refine i_rng1 ?_) | (with_reducible refine i_enum ?_) | (with_reducible refine i_zip2 ?_)
  | (with_reducible refine i_keys ?_) | (with_reducible refine i_updT ?_) | (with_reducible refine i_popI ?_) | (with_reducible refine i_lcM ?_) | (with_reducible refine i_parD ?_) | (with_reducible refine i_tupH ?_) | (with_reducible refine i_dispT ?_) | (with_reducible refine i_dget ?_) | (with_reducible refine i_dget1 ?_) | (with_reducible refine i_dget2 ?_) | (with_reducible refine i_dput ?_) | (with_reducible refine i_while ?_) | (with_reducible refine i_newT ?_) | (with_reducible refine i_newK ?_) | (with_reducible refine i_dispK ?_)
  | (with_reducible refine i_yes ?_) | (with_reducible refine i_for ?_) | (with_reducible refine i_lc ?_)
  | ((with_reducible refine i_var (d := ?bbd) ?bbh ?bbq); (case bbh => rfl)) | ((with_reducible refine i_rdo (d := ?bbd) ?bbh ?bbq); (case bbh => rfl); (try dsimp only)) | ((with_reducible refine i_rd1 (d := ?bbd) ?bbh ?bbq); (case bbh => rfl); (try dsimp only))
  | (with_reducible refine i_itt ?_) | (with_reducible refine i_nf ?_) | (with_reducible refine i_nt ?_) | (with_reducible refine i_itf ?_)
  | ((with_reducible show rdIsi _ _ _); first | refine i_isi rfl kb_int_int ?_ | refine i_isi rfl kb_int_bool ?_ | refine i_isi rfl kb_str_str ?_ | refine i_isi rfl kb_tup_tup ?_)
  | (with_reducible refine ⟨_, rfl, ?_⟩)
  | ((with_reducible show wkD _ _ _); first | refine wk_tup ?_ | refine wk_lst ?_ | refine wk_str ?_)
  | ((with_reducible show rdEq _ _ _ _); refine i_eqI ?_) | ((with_reducible show rdNe _ _ _ _); refine i_neI ?_)
  | ((with_reducible show ite _ _ _); refine i_itt ?_) | ((with_reducible show ite _ _ _); refine i_itf ?_))
local macro_rules | `(tactic| walk_at "bbs") => `(tactic| repeat walk_at "bb")
section
variable {K : PySem.W.Frag} {ds : List D} {M : Mem} {Q : DKt} {E : DX} {w_ : World}
theorem flatX_len {n : Bool} : ∀ kv : List (List Key × D), (flatX n kv).length = 2 * kv.length
  | [] => rfl
  | x :: kv => by rw [flatX, List.length_cons, List.length_cons, flatX_len kv, List.length_cons]; omega
theorem dX_cel {w : World} {n : Bool} {kv : List (List Key × D)} {d : D} (h : celM d = dX w n kv) : False := by
  unfold celM dX at h
  injection h with h1 h2 h3
  have := congrArg List.length h3
  rw [flatX_len, List.length_singleton] at this
  omega
theorem dX_clo {w : World} {n : Bool} {kv : List (List Key × D)} {T : CT} {cl : List (Str × Addr)} {c : Addr} (h : cloM T cl c = dX w n kv) : False := by
  unfold cloM dX at h
  injection h with h1 h2 h3
  cases h2
theorem dX_ins {w : World} {n : Bool} {kv : List (List Key × D)} {C : Addr} {fs : List (Str × D)} (h : MO.ins C fs = dX w n kv) : False := by unfold dX at h; cases h
theorem dX_lst {w : World} {n : Bool} {kv : List (List Key × D)} {xs : List D} (h : MO.lst xs = dX w n kv) : False := by unfold dX at h; cases h
theorem dX_gen {w : World} {n : Bool} {kv : List (List Key × D)} {c : Addr} (h : MO.gen c = dX w n kv) : False := by unfold dX at h; cases h
theorem Seat.qd {h p : Pl} {A : Adr} {calls rows : List D} {kv : List (List Key × D)} (S : Seat K w_ M h p A calls kv rows) : A.q ≠ A.d := mem_ne2 S.hq S.ask.dd dX_lst
theorem Seat.rd {h p : Pl} {A : Adr} {calls rows : List D} {kv : List (List Key × D)} (S : Seat K w_ M h p A calls kv rows) : A.r ≠ A.d := mem_ne2 S.ask.rr S.ask.dd dX_lst
theorem Seat.ext {M' : Mem} {h p : Pl} {A : Adr} {calls rows : List D} {kv : List (List Key × D)} (S : Seat K w_ M h p A calls kv rows) (hs : ∀ b u, M b = some u → M' b = some u) : Seat K w_ M' h p A calls kv rows where
  hq := hs _ _ S.hq
  hf := by
    obtain ⟨cl, c, cs, h1, h2, h3, h4⟩ := S.hf
    exact ⟨cl, c, cs, hs _ _ h1, h2, h3, fun i c' d' g1 g2 => hs _ _ (h4 i c' d' g1 g2)⟩
  ask := ⟨hs _ _ S.ask.ob, hs _ _ S.ask.dd, hs _ _ S.ask.rr, S.ask.ok, S.ask.kl, S.ask.rl⟩
  qr := S.qr
def putQ (W : World) (M : Mem) (A : Adr) (xs ys : List D) (kv : List (List Key × D)) : Mem := mset (mset (mset M A.q (.lst xs)) A.d (dX W false kv)) A.r (.lst ys)
theorem putQ_ne {A : Adr} {xs ys : List D} {kv : List (List Key × D)} {b : Addr} (h1 : b ≠ A.q) (h2 : b ≠ A.d) (h3 : b ≠ A.r) : putQ w_ M A xs ys kv b = M b := by
  unfold putQ; rw [mset_ne h3, mset_ne h2, mset_ne h1]
theorem Seat.put {h p : Pl} {A : Adr} {calls rows xs ys : List D} {kv kv' : List (List Key × D)} (S : Seat K w_ M h p A calls kv rows) (hk : kv'.length ≤ 100000) (hr : ys.length ≤ 100000) : Seat K w_ (putQ w_ M A xs ys kv') h p A xs kv' ys where
  hq := by unfold putQ; rw [mset_ne S.qr, mset_ne S.qd, mset_same]
  hf := by
    obtain ⟨cl, c, cs, h1, h2, h3, h4⟩ := S.hf
    refine ⟨cl, c, cs, (putQ_ne (mem_ne2 h1 S.hq (fun h => nomatch h)) (mem_ne2 h1 S.ask.dd dX_clo) (mem_ne2 h1 S.ask.rr (fun h => nomatch h))).trans h1, h2, h3, fun i c' d' g1 g2 => ?_⟩
    have h5 := h4 i c' d' g1 g2
    exact (putQ_ne (mem_ne2 h5 S.hq (fun h => nomatch h)) (mem_ne2 h5 S.ask.dd dX_cel) (mem_ne2 h5 S.ask.rr (fun h => nomatch h))).trans h5
  ask := ⟨(putQ_ne (mem_ne2 S.ask.ob S.hq (fun h => nomatch h)) (mem_ne2 S.ask.ob S.ask.dd dX_ins) (mem_ne2 S.ask.ob S.ask.rr (fun h => nomatch h))).trans S.ask.ob, by unfold putQ; rw [mset_ne S.rd.symm, mset_same], by unfold putQ; rw [mset_same], S.ask.ok, hk, hr⟩
  qr := S.qr
theorem hid_word {p h : Pl} (H : Hid p h) {w : List Str} (hw : WordP p w) : WordP h w := fun z hz => by rw [H.ls]; exact hw z hz
theorem KvT.nil {h : Pl} : KvT h [] := ⟨fun k d h => by cases h⟩
theorem KvT.ok {h : Pl} {kv : List (List Key × D)} (okh : h.Ok) (R : KvT h kv) : KvOk kv := fun k d hd => by
  obtain ⟨w, s, k1, k2, k3, k4, k5, k6⟩ := R.no k d hd
  exact ⟨s, k6, strOk_name (okh.ss.1 s (tellS_in okh (by have := okh.lo; omega) k3 s (List.mem_of_getElem? k5)))⟩
theorem told_is49 {h : Pl} {kv : List (List Key × D)} {w ss : List Str} (R : KvT h kv) (T : ToldTo kv w ss) : ss = (h.tellS w 0).take ss.length := by
  refine List.ext_getElem? fun j => ?_
  by_cases hj : j < ss.length
  · rw [List.getElem?_take_of_lt hj]
    have e1 : ss[j]? = some ss[j] := List.getElem?_eq_getElem hj
    have hjw : j < w.length := Nat.lt_of_lt_of_le hj T.len
    obtain ⟨u, s, k1, k2, k3, _, k4, k5⟩ := R.no _ _ (T.at_ j _ e1)
    have hu := keyW_inj k1
    subst hu
    rw [take_idx hjw] at k4
    rw [e1, k4]
    exact congrArg some (D.str.inj k5)
  · rw [List.getElem?_eq_none (by omega), List.getElem?_eq_none (by rw [List.length_take]; omega)]
theorem told_full {h : Pl} {kv : List (List Key × D)} {w ss : List Str} (ok : h.Ok) (hf : h.fullB = true) (hw : WordP h w) (R : KvT h kv) (T : ToldTo kv w ss) (e : ss.length = w.length) : ss = h.tellS w 0 := by
  have hl := tellS_len ok hf (r := 0) (by have := ok.lo; omega) hw
  rw [told_is49 R T, e, ← hl, List.take_length]
theorem told_put {kv kv' : List (List Key × D)} {w gs ss : List Str} (P : PutTo kv w gs kv') (hl : gs.length = w.length) (T : ToldTo kv' w ss) : ss = gs := by
  have e : ss.length = w.length := by
    rcases T.stop with h1 | h1
    · exact h1
    · refine Classical.byContradiction fun hn => ?_
      have hlt : ss.length < w.length := by have := T.len; omega
      have e1 : gs[ss.length]? = some gs[ss.length] := List.getElem?_eq_getElem (by omega)
      rw [P.at_ _ _ e1] at h1
      cases h1
  refine List.ext_getElem (by omega) fun i g1 g2 => ?_
  have a1 := T.at_ i _ (List.getElem?_eq_getElem g1)
  have a2 := P.at_ i _ (List.getElem?_eq_getElem g2)
  rw [a1] at a2
  exact D.str.inj (Option.some.inj a2)
theorem KvT.put {h : Pl} {kv kv' : List (List Key × D)} {w : List Str} (ok : h.Ok) (hf : h.fullB = true) (hw : WordP h w) (hl60 : w.length ≤ 60) (R : KvT h kv) (P : PutTo kv w (h.tellS w 0) kv') : KvT h kv' := by
  have hl := tellS_len ok hf (r := 0) (by have := ok.lo; omega) hw
  constructor
  intro k d hd
  by_cases hk : ∃ j, j < (h.tellS w 0).length ∧ k = keyW (w.take (j + 1))
  · obtain ⟨j, hj, rfl⟩ := hk
    have e1 : (h.tellS w 0)[j]? = some (h.tellS w 0)[j] := List.getElem?_eq_getElem hj
    rw [P.at_ j _ e1] at hd
    refine ⟨w.take (j + 1), _, rfl, take_ne (by omega), fun z hz => hw z (List.mem_of_mem_take hz), by rw [List.length_take]; omega, by rw [take_idx (by omega)]; exact e1, ?_⟩
    cases hd; rfl
  · rw [P.old _ fun j hj e => hk ⟨j, hj, e⟩] at hd
    exact R.no k d hd
theorem told_bad {p h : Pl} {kv : List (List Key × D)} {w ss : List Str} {n : Nat} (H : Hid p h) (R : KvT h kv) (T : ToldTo kv w ss) (hp : placeD p (wdT w) = some n) : ss.length < w.length := by
  refine Classical.byContradiction fun hn => ?_
  have e : ss.length = w.length := by have := T.len; omega
  have at_ : ∀ j, j < w.length → WordP h (w.take (j + 1)) ∧ (w.take (j + 1)).length ≤ 60 := fun j hj => by
    obtain ⟨u, s, k1, k2, k3, k4, _⟩ := R.no _ _ (T.at_ j _ (List.getElem?_eq_getElem (by omega)))
    have hu := keyW_inj k1
    subst hu
    exact ⟨k3, k4⟩
  rcases place_some hp with ⟨z, hz, hzn⟩ | ⟨rfl, hl⟩
  · have hn2 : n < w.length := (List.getElem?_eq_some_iff.mp hz).1
    have h1 := (at_ n hn2).1 z (List.mem_of_getElem? (i := n) (by rw [List.getElem?_take_of_lt (Nat.lt_succ_self n)]; exact hz))
    rw [H.ls] at h1
    exact hzn h1
  · have h1 := (at_ 60 hl).2
    rw [List.length_take] at h1
    omega
theorem told_uniq49 {kv : List (List Key × D)} {w x y : List Str} (h1 : ToldTo kv w x) (h2 : ToldTo kv w y) : x = y := by
  have key : ∀ {x y : List Str}, ToldTo kv w x → ToldTo kv w y → x.length ≤ y.length := fun {x y} hx hy => by
    refine Nat.le_of_not_lt fun hlt => ?_
    rcases hy.stop with e | e
    · have := hx.len; omega
    · have e1 : x[y.length]? = some x[y.length] := List.getElem?_eq_getElem hlt
      rw [hx.at_ _ _ e1] at e; cases e
  have hlen : x.length = y.length := Nat.le_antisymm (key h1 h2) (key h2 h1)
  refine List.ext_getElem hlen fun i g1 g2 => ?_
  have a1 := h1.at_ i _ (List.getElem?_eq_getElem g1)
  have a2 := h2.at_ i _ (List.getElem?_eq_getElem g2)
  rw [a1] at a2
  exact D.str.inj (Option.some.inj a2)
theorem c_askS {h p : Pl} {A : Adr} {calls rows : List D} {kv : List (List Key × D)} {u : D} (S : Seat K w_ M h p A calls kv rows) (H : Hid p h) (R : KvT h kv) (ht : Thing M u) (b1 : calls.length ≤ 90000) (b2 : kv.length ≤ 90000) (b3 : rows.length ≤ 90000)
    (qe : ∀ n, placeD p u = some n → E (.ref (He.ga K "NoWord")) [("at", .int (n : Nat))] M)
    (q1 : placeD p u = none → ∀ w, u = wdT w → WordP p w → w.length ≤ 60 → (∀ ss, ToldTo kv w ss → ss = h.tellS w 0) → Q (.tup ((h.tellS w 0).map .str)) M) (q2 : placeD p u = none → ∀ w, u = wdT w → WordP p w → w.length ≤ 60 → ∀ kv', PutTo kv w (h.tellS w 0) kv' → Q (.tup ((h.tellS w 0).map .str)) (putQ w_ M A (calls ++ [wdT w]) (rows ++ [wdT w]) kv')) : sp_Asker_ask K w_ [.ref A.o, u] M Q E := by
  refine ⟨_, _, rfl, A.o, p, A.f, A.d, A.r, kv, rows, rfl, S.ask, R.ok H.ok, ht, qe, fun hp w hw1 hw hl ss ht => ?_⟩
  have hwh := hid_word H hw
  have hlen := tellS_len H.ok H.full (r := 0) (by have := H.ok.lo; omega) hwh
  refine ⟨fun e => ?_, fun e => ?_⟩
  · have e2 := told_full H.ok H.full hwh R ht e
    rw [e2]
    exact q1 hp w hw1 hw hl fun s2 t2 => by rw [told_uniq49 t2 ht, e2]
  · obtain ⟨cl, c, cs, h1, h2, h3, h4⟩ := S.hf
    have hcq : ∀ (i : Nat) (c' : Addr), cs[i]? = some c' → c' ≠ A.q := fun i c' g => by
      have hi : i < 2 := by rw [← h3]; exact (List.getElem?_eq_some_iff.mp g).1
      exact mem_ne2 (h4 i c' _ g (List.getElem?_eq_getElem (show i < [D.ref A.q, partsD h].length from hi))) S.hq (fun h => nomatch h)
    have hqn : A.q ∉ cs := fun z => by
      obtain ⟨i, hi, e⟩ := List.mem_iff_getElem.mp z
      exact hcq i _ (List.getElem?_eq_getElem hi) e
    refine ⟨(ct__law_maker_lam, spc__law_maker_lam K), cl, c, List.mem_singleton.mpr rfl, h1, cs, [.ref A.q, partsD h], without cs M, h2, h3, (addM_of (ds := [.ref A.q, partsD h]) h2.nd h3 h4 fun b hb => without_ne hb).symm, fun x hx => without_in hx, ?_⟩
    refine ⟨h, A.q, calls, w, rfl, rfl, H.ok, by rw [without_ne hqn]; exact S.hq, by omega, hwh, by omega, ?_⟩
    have em : addM cs [.ref A.q, partsD h] (mset (without cs M) A.q (.lst (calls ++ [wdT w]))) = mset M A.q (.lst (calls ++ [wdT w])) := by
      refine addM_of (ds := [.ref A.q, partsD h]) h2.nd h3 (fun i c' d' g1 g2 => ?_) fun b hb => ?_
      · rw [mset_ne (hcq i c' g1)]; exact h4 i c' d' g1 g2
      · by_cases e : b = A.q
        · subst e; rw [mset_same, mset_same]
        · rw [mset_ne e, mset_ne e, without_ne hb]
    show _ ∧ _
    rw [em]
    refine ⟨⟨by rw [mset_ne (mem_ne2 S.ask.ob S.hq (fun h => nomatch h))]; exact S.ask.ob, by rw [mset_ne S.qd.symm]; exact S.ask.dd, by rw [mset_ne S.qr.symm]; exact S.ask.rr, S.ask.ok, S.ask.kl, S.ask.rl⟩, b2, b3, h.tellS w 0, rfl, hlen, fun s hs => ?_, told_is49 R ht, fun kv' P => q2 hp w hw1 hw hl kv' P⟩
    rw [← H.ss]
    exact tellS_in H.ok (by have := H.ok.lo; omega) hwh s hs
def mk2 (M1 : Mem) (q f cc : Addr) (cl : List (Str × Addr)) (cs : List Addr) (h : Pl) : Mem := addM cs [.ref q, partsD h] (mset M1 f (cloM ct__law_maker_lam cl cc))
def mk3 (K : PySem.W.Frag) (M2 : Mem) (o dx : Addr) : Mem := mset (mset M2 dx (.own o)) o (.ins (He.ga K "Asker") [])
def mk4 (K : PySem.W.Frag) (W : World) (M3 : Mem) (p : Pl) (o f d r : Addr) : Mem := mset (mset (mset M3 d (dX W false [])) r (.lst [])) o (.ins (He.ga K "Asker") (askF K p f d r))
theorem seat_make {M1 : Mem} {q f o d r dx cc : Addr} {cl : List (Str × Addr)} {cs : List Addr} {h p : Pl} (okp : p.Ok) (td : Tidy M1) (hq : M1 q = some (.lst [])) (hf : M1 f = none) (wf : CloWf ct__law_maker_lam.fr cl cs) (hfn : f ∉ cs) (hcs : ∀ x ∈ cs, M1 x = none) (hcl : cs.length = 2)
    (ho : mk2 M1 q f cc cl cs h o = none) (hdx : mk2 M1 q f cc cl cs h dx = none) (hne : dx ≠ o) (hd : mk3 K (mk2 M1 q f cc cl cs h) o dx d = none) (hr : mk3 K (mk2 M1 q f cc cl cs h) o dx r = none) (hdr : d ≠ r) :
    Seat K w_ (mk4 K w_ (mk3 K (mk2 M1 q f cc cl cs h) o dx) p o f d r) h p ⟨q, f, o, d, r⟩ [] [] [] ∧ (∀ b u, M1 b = some u → mk4 K w_ (mk3 K (mk2 M1 q f cc cl cs h) o dx) p o f d r b = some u) ∧ Tidy (mk4 K w_ (mk3 K (mk2 M1 q f cc cl cs h) o dx) p o f d r) ∧ M1 d = none ∧ M1 r = none := by
  have e2 : ∀ b u, M1 b = some u → mk2 M1 q f cc cl cs h b = some u := fun b u e => by
    have n1 : b ∉ cs := fun z => by rw [hcs b z] at e; cases e
    have n2 : b ≠ f := fun z => by rw [z, hf] at e; cases e
    unfold mk2
    rw [addM_ne n1, mset_ne n2, e]
  have e3 : ∀ b u, mk2 M1 q f cc cl cs h b = some u → mk3 K (mk2 M1 q f cc cl cs h) o dx b = some u := fun b u e => by
    have n1 : b ≠ o := fun z => by rw [z, ho] at e; cases e
    have n2 : b ≠ dx := fun z => by rw [z, hdx] at e; cases e
    unfold mk3
    rw [mset_ne n1, mset_ne n2, e]
  have hoo : mk3 K (mk2 M1 q f cc cl cs h) o dx o = some (.ins (He.ga K "Asker") []) := mset_same
  have e4 : ∀ b u, b ≠ o → mk3 K (mk2 M1 q f cc cl cs h) o dx b = some u → mk4 K w_ (mk3 K (mk2 M1 q f cc cl cs h) o dx) p o f d r b = some u := fun b u n0 e => by
    have n1 : b ≠ d := fun z => by rw [z, hd] at e; cases e
    have n2 : b ≠ r := fun z => by rw [z, hr] at e; cases e
    unfold mk4
    rw [mset_ne n0, mset_ne n2, mset_ne n1, e]
  have e24 : ∀ b u, mk2 M1 q f cc cl cs h b = some u → mk4 K w_ (mk3 K (mk2 M1 q f cc cl cs h) o dx) p o f d r b = some u := fun b u e => e4 b u (fun z => by rw [z, ho] at e; cases e) (e3 b u e)
  have nod : d ≠ o := fun z => by rw [z, hoo] at hd; cases hd
  have nor : r ≠ o := fun z => by rw [z, hoo] at hr; cases hr
  have n1 : ∀ {b : Addr}, mk3 K (mk2 M1 q f cc cl cs h) o dx b = none → M1 b = none := fun {b} e => by
    cases e5 : M1 b with
    | none => rfl
    | some u => rw [e3 b u (e2 b u e5)] at e; cases e
  have hM1d := n1 hd
  have hM1r := n1 hr
  refine ⟨⟨e24 _ _ (e2 _ _ hq), ⟨cl, cc, cs, e24 _ _ (by unfold mk2; rw [addM_ne hfn, mset_same]), wf, hcl, fun i c' d' g1 g2 => e24 _ _ (addM_at wf.nd g1 g2)⟩, ⟨mset_same, ?_, ?_, okp, Nat.zero_le _, Nat.zero_le _⟩, fun z => ?_⟩, fun b u e => e24 b u (e2 b u e), fun b p' e => ?_, hM1d, hM1r⟩
  · unfold mk4; rw [mset_ne nod, mset_ne hdr, mset_same]
  · unfold mk4; rw [mset_ne nor, mset_same]
  · have z : q = r := z
    rw [z, hM1r] at hq; cases hq
  · have keep : ∀ u, M1 p' = some u → mk4 K w_ (mk3 K (mk2 M1 q f cc cl cs h) o dx) p o f d r p' ≠ none := fun u e => by rw [e24 _ _ (e2 _ _ e)]; exact fun z => nomatch z
    by_cases b1 : b = o
    · subst b1
      unfold mk4 at e; rw [mset_same] at e; cases e
    by_cases b2 : b = r
    · subst b2
      unfold mk4 at e; rw [mset_ne b1, mset_same] at e; cases e
    by_cases b3 : b = d
    · subst b3
      unfold mk4 at e; rw [mset_ne b1, mset_ne b2, mset_same] at e; cases e
    unfold mk4 at e
    rw [mset_ne b1, mset_ne b2, mset_ne b3] at e
    unfold mk3 at e
    rw [mset_ne b1] at e
    by_cases b4 : b = dx
    · subst b4
      rw [mset_same] at e
      cases e
      unfold mk4; rw [mset_same]; exact fun z => nomatch z
    rw [mset_ne b4] at e
    unfold mk2 at e
    by_cases b5 : b ∈ cs
    · obtain ⟨i, hi, rfl⟩ := List.mem_iff_getElem.mp b5
      rw [addM_at wf.nd (List.getElem?_eq_getElem hi) (List.getElem?_eq_getElem (show i < [D.ref q, partsD h].length by rw [hcl] at hi; exact hi))] at e
      cases e
    rw [addM_ne b5] at e
    by_cases b6 : b = f
    · subst b6; rw [mset_same] at e; cases e
    rw [mset_ne b6] at e
    have := td b p' e
    cases e5 : M1 p' with
    | none => exact absurd e5 this
    | some u => exact keep u e5
end
end BB
set_option maxHeartbeats 8000000
namespace BB
open L2 PySem PySem.Spec PyProof.Rows
local macro_rules | `(tactic| walk_at "bb") => `(tactic| first
  | (with_reducible refine i_c ?_) | (with_reducible refine i_n ?_) | (with_reducible refine i_op ?_) | (with_reducible refine i_cons ?_) | (with_reducible refine i_nil ?_) | (with_reducible refine i_cb ?_)
  | (with_reducible refine i_seq ?_) | (with_reducible refine i_set ?_) | (with_reducible refine i_ret ?_) | (with_reducible refine i_if ?_) | (with_reducible refine i_drop ?_) | (with_reducible refine i_par ?_) | (with_reducible refine i_setF ?_) | (with_reducible refine i_raise ?_) | (with_reducible refine i_raiseI ?_) | (with_reducible refine i_asg ?_)
  | (with_reducible refine i_test ?_) | (with_reducible refine i_chain ?_) | (with_reducible refine i_tru ?_) | (with_reducible refine i_and ?_) | (with_reducible refine i_or ?_) | (with_reducible refine i_not ?_)
  | (with_reducible refine i_andv ?_) | (with_reducible refine i_orv ?_) | (with_reducible refine i_notv ?_) | (with_reducible refine i_ifx ?_) | (with_reducible refine i_tup ?_) | (with_reducible refine i_lst ?_) | (with_reducible refine i_lstM ?_)
  | (with_reducible refine i_neg ?_) | (with_reducible refine i_call ?_) | (with_reducible refine i_callK ?_) | (with_reducible refine i_meth ?_) | (with_reducible refine i_fld ?_) | (with_reducible refine i_tupIx ?_) | (with_reducible refine i_app ?_)
  | (with_reducible refine i_join ?_) | (with_reducible refine i_sl ?_) | (with_reducible refine i_part ?_) | (with_reducible refine i_nopart ?_) | (with_reducible refine i_next ?_) | (with_reducible refine i_retN ?_)
  | (with_reducible refine i_gname ?_) | (with_reducible refine i_gcons ?_) | (with_reducible refine i_gnil ?_) | (with_reducible refine i_seqI ?_) | (with_reducible refine i_rng1 ?_) | (with_reducible refine i_enum ?_) | (with_reducible refine i_zip2 ?_)
  | (with_reducible refine i_keys ?_) | (with_reducible refine i_updT ?_) | (with_reducible refine i_popI ?_) | (with_reducible refine i_lcM ?_) | (with_reducible refine i_parD ?_) | (with_reducible refine i_tupH ?_) | (with_reducible refine i_dispT ?_) | (with_reducible refine i_dget ?_) | (with_reducible refine i_dget1 ?_) | (with_reducible refine i_dget2 ?_) | (with_reducible refine i_dput ?_) | (with_reducible refine i_while ?_) | (with_reducible refine i_newT ?_) | (with_reducible refine i_newK ?_) | (with_reducible refine i_dispK ?_)
  | (with_reducible refine i_yes ?_) | (with_reducible refine i_for ?_) | (with_reducible refine i_lc ?_)
  | ((with_reducible refine i_var (d := ?bbd) ?bbh ?bbq); (case bbh => rfl)) | ((with_reducible refine i_rdo (d := ?bbd) ?bbh ?bbq); (case bbh => rfl); (try dsimp only)) | ((with_reducible refine i_rd1 (d := ?bbd) ?bbh ?bbq); (case bbh => rfl); (try dsimp only))
  | (with_reducible refine i_itt ?_) | (with_reducible refine i_nf ?_) | (with_reducible refine i_nt ?_) | (with_reducible refine i_itf ?_)
  | ((with_reducible show rdIsi _ _ _); first | refine i_isi rfl kb_int_int ?_ | refine i_isi rfl kb_int_bool ?_ | refine i_isi rfl kb_str_str ?_ | refine i_isi rfl kb_tup_tup ?_)
  | (with_reducible refine ⟨_, rfl, ?_⟩)
  | ((with_reducible show wkD _ _ _); first | refine wk_tup ?_ | refine wk_lst ?_ | refine wk_str ?_)
  | ((with_reducible show rdEq _ _ _ _); refine i_eqI ?_) | ((with_reducible show rdNe _ _ _ _); refine i_neI ?_)
  | ((with_reducible show ite _ _ _); refine i_itt ?_) | ((with_reducible show ite _ _ _); refine i_itf ?_))
local macro_rules | `(tactic| walk_at "bbs") => `(tactic| repeat walk_at "bb")
section
variable {K : PySem.W.Frag} {ds : List D} {M : Mem} {Q : DKt} {E : DX} {w_ : World}
theorem spc_mono9 {cds ds : List D} {M : Mem} {Q Q' : DKt} {E E' : DX} (hQ : ∀ d M, Q d M → Q' d M) (h : spc__law_maker_lam K cds ds M Q E) : spc__law_maker_lam K cds ds M Q' E' := by
  obtain ⟨h, q, calls, w, e1, e2, ok, hq, hl, hw, hwl, hx⟩ := h
  exact ⟨h, q, calls, w, e1, e2, ok, hq, hl, hw, hwl, hQ _ _ hx⟩
theorem ask_mono9 {ds : List D} {M : Mem} {Q Q' : DKt} {E E' : DX} (hQ : ∀ d M, Q d M → Q' d M) (hE : ∀ e fs M, E e fs M → E' e fs M) (h : sp_Asker_ask K w_ ds M Q E) : sp_Asker_ask K w_ ds M Q' E' := by
  obtain ⟨o, u, rfl, a, p, f, d, r, kv, rows, rfl, h, hk, ht, qe, q⟩ := h
  refine ⟨_, _, rfl, a, p, f, d, r, kv, rows, rfl, h, hk, ht, fun n e => hE _ _ _ (qe n e), fun hp w e hw hl ss ht => ⟨fun e2 => hQ _ _ ((q hp w e hw hl ss ht).1 e2), fun e2 => ?_⟩⟩
  obtain ⟨p', cl, c, hp', hf, cs, cds, M0, wf, hlc, hM0, hx0, hcall⟩ := (q hp w e hw hl ss ht).2 e2
  refine ⟨p', cl, c, hp', hf, cs, cds, M0, wf, hlc, hM0, hx0, ?_⟩
  have hp2 := List.mem_singleton.mp hp'
  subst hp2
  dsimp only at hcall ⊢
  refine spc_mono9 (fun g M1' hq => ?_) hcall
  obtain ⟨A1, kvl, rwl, gs, e1, e2, e3, e4, e5⟩ := hq
  exact ⟨A1, kvl, rwl, gs, e1, e2, e3, e4, fun kv' P => hQ _ _ (e5 kv' P)⟩
theorem kitAny_none9 {C : Addr} : ∀ {cs : List Addr}, (∀ c ∈ cs, PySem.W.kitOne K (.ref C) (.ref c) = some false) → PySem.W.kitAny K (.ref C) (cs.map Value.ref) = some false
  | [], _ => rfl
  | c :: cs, h => by
    rw [List.map_cons, PySem.W.kitAny, h c List.mem_cons_self]
    exact kitAny_none9 fun d hd => h d (List.mem_cons_of_mem _ hd)
theorem fz_env9 {P : Env → Mem → Prop} {e e' : Env} (h : e = e') (q : FzS P e' M) : FzS P e M := h ▸ q
theorem i_xv9 {f : Str} {da : DE} {env : Env} (q : da env M fun x M1 => ∃ (C : Addr) (fs : List (Str × D)) (d : D), x = .exc (.ref C) fs ∧ ExcF K C f ∧ fs.lookup f = some d ∧ Q d M1) : dXv K f da env M Q := q
theorem at_look9 {d : D} : List.lookup (α := Str) "at" ([("at", d)] : List (Str × D)) = some d := by kernel_rfl
theorem fl_no6 {p : Pl} {f d r : Addr} : List.lookup (α := Str) "ask" (askF K p f d r) = none := by kernel_rfl
theorem seen_no9 {a : Addr} {c : Value} {fs : List (Str × D)} {u : D} (h : ∀ b, u ≠ .ref b) : seenX a c fs (some u) = some u := by
  unfold seenX
  split
  · rename_i e; exact absurd (Option.some.inj e) (h _)
  · rfl
theorem seen_same9 {a : Addr} {c : Value} {fs : List (Str × D)} : seenX a c fs (some (.ref a)) = some (.exc c fs) := if_pos rfl
theorem lw__law_refused (h : sp__law_refused K w_ ds M Q E) : rd__law_refused K w_ (wd E) (ends Q) (startD ["_law_one", "_law_thing_here", "_law_caught", "e"] ds) M := by
  obtain ⟨o, u, rfl, a, rfl, X, hnr, hask⟩ := h
  have hs := sizeLine_eq
  have hob : ∃ fs, M a = some (.ins (He.ga K "Asker") fs) ∧ List.lookup (α := Str) "ask" fs = none := by
    obtain ⟨o, u, e, a', p, f, d, r, kv, rows, e1, hA, _⟩ := hask
    cases e
    cases e1
    exact ⟨_, hA.ob, fl_no6⟩
  obtain ⟨fs, hob, hno⟩ := hob
  unfold rd__law_refused
  walk_at "bbs"
  refine .done ?_
  walk_at "bbs"
  unfold dTryKeep
  walk_at "bbs"
  refine ⟨_, insOf_ref hob, hno, ?_⟩
  walk_at "bbs"
  refine ask_mono9 (fun g M1 hq => ?_) (fun e fs M1 he => ?_) hask
  · refine .done ?_
    walk_at "bbs"
    exact .done hq
  · obtain ⟨rfl, n, rfl, q⟩ := he
    refine ⟨true, X.box, fun _ ax => ?_, fun h => by cases h⟩
    walk_at "bbs"
    refine fz_env9 (e' := [seenX ax (.ref (He.ga K "NoWord")) [("at", .int (n : Nat))] (some (.ref a)), some u, some (.exc (.ref (He.ga K "NoWord")) [("at", .int (n : Nat))]), none]) ?_ (.done ?_)
    · show [seenX ax (.ref (He.ga K "NoWord")) [("at", .int (n : Nat))] (some (.ref a)), seenX ax (.ref (He.ga K "NoWord")) [("at", .int (n : Nat))] (some u), seenX ax (.ref (He.ga K "NoWord")) [("at", .int (n : Nat))] (some (.ref ax)), none] = _
      rw [seen_no9 hnr, seen_same9]
    walk_at "bbs"
    refine .done ?_
    walk_at "bbs"
    refine ⟨by show 5 ≤ sizeLine; omega, ?_⟩
    walk_at "bbs"
    refine i_isiXT (cs := [He.ga K "BadBox", He.ga K "NoMany", He.ga K "NoPair", He.ga K "NoPlan", He.ga K "TooMany"]) X.xq (kitAny_none9 X.no) ?_
    walk_at "bbs"
    refine i_isiX X.xq X.me ?_
    walk_at "bbs"
    refine .done ?_
    walk_at "bbs"
    refine i_xv9 ?_
    walk_at "bbs"
    refine ⟨_, _, .int (n : Nat), rfl, ⟨X.xf, X.na⟩, at_look9, ?_⟩
    walk_at "bbs"
    refine i_isiY X.xq X.ve ?_
    walk_at "bbs"
    refine i_xv9 ?_
    walk_at "bbs"
    refine ⟨_, _, .int (n : Nat), rfl, ⟨X.xf, X.na⟩, at_look9, ?_⟩
    exact .done q
theorem c_refused9 {a : Addr} {u : D} (X : XNw K) (hnr : ∀ b, u ≠ .ref b) (h : sp_Asker_ask K w_ [.ref a, u] M (fun g M1 => Q .non M1) (fun e fs M1 => e = .ref (He.ga K "NoWord") ∧ ∃ n : Nat, fs = ([("at", .int (n : Nat))] : List (Str × D)) ∧ Q (.int (n : Nat)) M1)) : sp__law_refused K w_ [.ref a, u] M Q E := ⟨_, _, rfl, a, rfl, X, hnr, h⟩
theorem c_thing9 {a c : Addr} {p : Pl} (hm : M a = some (.gen c)) (ok : p.Ok) (hl : p.letters.length ≤ 4) (q : ∀ d, (∀ M', Thing M' d) → (∀ b, d ≠ .ref b) → Q d M) : sp__law_thing K [.ref a, partsD p] M Q E := ⟨_, _, rfl, a, c, p, rfl, hm, ok, hl, rfl, q⟩
theorem c_place9 {p : Pl} {u : D} (ok : p.Ok) (ht : Thing M u) (q : Q (optN (placeD p u)) M) : sp__law_place K [partsD p, u] M Q E := ⟨_, _, rfl, p, ok, rfl, ht, q⟩
theorem c_init9 {p : Pl} {a f : Addr} (ok : p.Ok) (hm : M a = some (.ins (He.ga K "Asker") [])) (q : ∀ d r, M d = none → M r = none → d ≠ r → Q .non (mset (mset (mset M d (dX w_ false [])) r (.lst [])) a (.ins (He.ga K "Asker") (askF K p f d r)))) : sp_Asker___init__ K w_ [.ref a, planD K p, .ref f] M Q E := ⟨_, _, _, rfl, p, a, f, ok, rfl, hm, rfl, rfl, q⟩
theorem q_place {p : Pl} (ok : p.Ok) : placeD p (wdT ["Q"]) = some 0 :=
  placeL_bad (ds := [.str "Q"]) (fun j x hj _ => by omega) (by omega) rfl (decide_eq_false fun h => absurd (ok.ls.1 _ h) (by decide +kernel))
theorem c_bad9 {h p : Pl} {A : Adr} {calls rows : List D} {kv : List (List Key × D)} {u : D} {n : Nat} (S : Seat K w_ M h p A calls kv rows) (H : Hid p h) (R : KvT h kv) (ht : Thing M u) (hp : placeD p u = some n) (q : Q .non M) : sp_Asker_known K w_ [.ref A.o, u] M Q E :=
  c_knownA S.ask (R.ok H.ok) ht (fun _ => q) fun w e ss ts => by
    subst e
    have := told_bad H R ts hp
    exact ⟨fun z => by omega, fun _ => q⟩
theorem lw_law (h : sp_law K ds M Q E) : rd_law K w_ (wd E) (ends Q) (startD ["_law_script", "_law_state", "_law_parts_here", "_law_calls", "_law_hidden_here", "_law_one", "_law_turn", "_law_thing_here", "_law_due", "_law_many_calls", "_law_odd"] ds) M := by
  obtain ⟨d, rfl, xs, rfl, hxl, h0, htab, X, q⟩ := h
  have hs := sizeLine_eq
  unfold rd_law
  walk_at "bbs"
  refine ⟨_, rfl, xs, rfl, hxl, fun a c ha hc hac => ?_⟩
  have g0 : (mset (mset M c (.own a)) a (.gen c)) a = some (.gen c) := mset_same
  have tb0 : (mset (mset M c (.own a)) a (.gen c)) (tabF K "_law_maker") = some (.tab ct__law_maker_lam.qual) := by
    rw [mset_ne (mem_ne htab ha), mset_ne (mem_ne htab hc)]; exact htab
  have td0 : Tidy (mset (mset M c (.own a)) a (.gen c)) := fun d p e => by
    by_cases b1 : d = a
    · subst b1; rw [mset_same] at e; cases e
    rw [mset_ne b1] at e
    by_cases b2 : d = c
    · subst b2; rw [mset_same] at e; cases e; rw [mset_same]; exact fun z => nomatch z
    rw [mset_ne b2] at e
    by_cases b3 : d = tabF K "_law_maker"
    · rw [b3, htab] at e; cases e
    · rw [h0 d b3] at e; cases e
  generalize mset (mset M c (.own a)) a (.gen c) = M0 at g0 tb0 td0 ⊢
  refine .done ?_
  walk_at "bbs"
  refine c_drawP g0 (by omega) (by omega) fun r1 a1 a2 => ?_
  walk_at "bbs"
  refine ⟨by show 2 ≤ sizeLine; omega, ?_⟩
  walk_at "bbs"
  refine c_drawP g0 (by omega) (by omega) fun r2 b1 b2 => ?_
  refine i_rdo (d := .int (4 * r2)) ?_ ?_
  · rcases (by omega : r2 = 0 ∨ r2 = 1) with rfl | rfl <;> rfl
  walk_at "bbs"
  refine c_parts47 g0 (by omega) (by omega) (by omega) (by omega) (by omega) (by omega) fun p ok hn hlp hsp hf0 => ?_
  refine .done ?_
  walk_at "bbs"
  refine ⟨Nat.zero_le _, fun q1 hq1 => ?_⟩
  refine .done ?_
  have g5 : (mset M0 q1 (.lst [])) a = some (.gen c) := by rw [mset_ne (mem_ne g0 hq1)]; exact g0
  have td5 : Tidy (mset M0 q1 (.lst [])) := fun d p e => by
    have hp : M0 p ≠ none → (mset M0 q1 (.lst [])) p ≠ none := fun g => by
      by_cases z : p = q1
      · subst z; rw [mset_same]; exact fun z => nomatch z
      · rw [mset_ne z]; exact g
    by_cases z : d = q1
    · subst z; rw [mset_same] at e; cases e
    · rw [mset_ne z] at e; exact hp (td0 d p e)
  have tb5 : (mset M0 q1 (.lst [])) (tabF K "_law_maker") = some (.tab ct__law_maker_lam.qual) := by rw [mset_ne (mem_ne tb0 hq1)]; exact tb0
  have hq5 : (mset M0 q1 (.lst [])) q1 = some (.lst []) := mset_same
  generalize mset M0 q1 (.lst []) = M5 at g5 td5 tb5 hq5 ⊢
  walk_at "bbs"
  refine c_hidden g5 ok (by omega) (by omega) fun h H hh => ?_
  refine .done ?_
  walk_at "bbs"
  refine i_make ?_
  walk_at "bbs"
  refine i_make ?_
  walk_at "bbs"
  intro p3 dx3 hp3 hdx3 hne3
  refine c_init ok mset_same ?_
  refine ⟨rfl, made td5 hp3 hdx3 hne3 ?_⟩
  walk_at "bbs"
  refine c_maker tb5 fun f cl cc cs hf wf hfn hcs hcl => ?_
  walk_at "bbs"
  intro o dx ho hdx hne
  show sp_Asker___init__ K w_ [.ref o, planD K p, .ref f] _ _ _
  refine c_init9 ok mset_same fun d r hd hr hdr => ⟨rfl, .done ?_⟩
  refine .done ?_
  have S7 := seat_make (K := K) (w_ := w_) (h := h) ok td5 hq5 hf wf hfn hcs hcl ho hdx hne hd hr hdr
  unfold mk4 mk3 mk2 at S7
  generalize mset (mset (mset (mset (mset (addM cs [.ref q1, partsD h] (mset M5 f (cloM ct__law_maker_lam cl cc))) dx (.own o)) o (.ins (He.ga K "Asker") [])) d (dX w_ false [])) r (.lst [])) o (.ins (He.ga K "Asker") (askF K p f d r)) = M7 at S7 ⊢
  obtain ⟨S, ext7, _, _, _⟩ := S7
  have g7 := ext7 _ _ g5
  obtain ⟨A, hA⟩ : ∃ A : Adr, A = ⟨q1, f, o, d, r⟩ := ⟨_, rfl⟩
  rw [← hA] at S
  have eq1 : q1 = A.q := by rw [hA]
  have eo : o = A.o := by rw [hA]
  rw [eq1, eo]
  walk_at "bbs"
  refine ⟨_, _, rfl, ?_⟩
  obtain ⟨m, hm, hm2⟩ : ∃ m : Nat, (10 + (if (20 : Int) < ((List.map D.int xs).length : Nat) then (20 : Int) else ((List.map D.int xs).length : Nat))) = (m : Nat) ∧ m ≤ 30 := by
    refine ⟨10 + min 20 (List.map D.int xs).length, ?_, by omega⟩
    split <;> omega
  walk_at "bbs"
  rw [hm]
  refine ⟨by omega, by omega, ?_⟩
  rw [Int.toNat_natCast]
  have hll : p.letters.length ≤ 4 := by omega
  refine ⟨fun i env M' => (∃ y6 y7 y8 y9 y10 : Option D, env = [some (.frz (xs.map .int)), some (.ref a), some (partsD p), some (.ref A.q), some (partsD h), some (.ref A.o), y6, y7, y8, y9, y10]) ∧ M' a = some (.gen c) ∧ ∃ (calls rows : List D) (kv : List (List Key × D)), Seat K w_ M' h p A calls kv rows ∧ KvT h kv ∧ calls.length ≤ i ∧ rows.length ≤ i ∧ kv.length ≤ 60 * i,
    ⟨⟨_, _, _, _, _, rfl⟩, g7, [], [], [], S, KvT.nil, Nat.le_refl _, Nat.le_refl _, Nat.zero_le _⟩, fun _ _ _ _ => trivial, ?_, ?_⟩
  · clear S g7 ext7
    rintro i dd env M2 hdd ⟨⟨y6, y7, y8, y9, y10, rfl⟩, g, calls, rows, kv, S, R, l1, l2, l3⟩
    obtain ⟨hi, rfl⟩ := rng_at hdd
    walk_at "bbs"
    refine c_thing9 g ok hll fun u hu hnr => ?_
    refine .done ?_
    walk_at "bbs"
    refine c_place9 ok (hu _) ?_
    walk_at "bbs"
    have elen : ∀ {M' : Mem} {cs : List D}, M' A.q = some (.lst cs) → lenD M' (nrm (.ref A.q)) = some (.int (cs.length : Nat)) := fun {M' cs} e => by
      show (seqOf M' (.ref A.q)).map (fun xs => D.int xs.length) = _
      rw [seqOf_ref e]; rfl
    refine i_rd1 (elen S.hq) ?_
    walk_at "bbs"
    refine .done ?_
    cases hp : placeD p u with
    | some n =>
      have hp2 : optN (some n) = .int (n : Nat) := rfl
      rw [hp2]
      walk_at "bbs"
      refine ⟨_, insOf_ref S.ask.ob, fl_no2, ?_⟩
      walk_at "bbs"
      refine c_bad9 S H R (hu _) hp ?_
      walk_at "bbs"
      refine .done ?_
      walk_at "bbs"
      refine c_refused9 X hnr (c_askS S H R (hu _) (by omega) (by omega) (by omega) (fun k hk => ?_) (fun z => by rw [hp] at z; cases z) fun z => by rw [hp] at z; cases z)
      rw [hp] at hk
      cases hk
      refine ⟨rfl, n, rfl, ?_⟩
      walk_at "bbs"
      rw [decide_eq_true rfl]
      walk_at "bbs"
      refine i_rd1 (elen S.hq) ?_
      walk_at "bbs"
      rw [decide_eq_true rfl]
      walk_at "bbs"
      refine .done ?_
      walk_at "bbs"
      exact .done ⟨⟨_, _, _, _, _, rfl⟩, g, calls, rows, kv, S, R, by omega, by omega, by omega⟩
    | none =>
      have hp2 : optN none = .non := rfl
      rw [hp2]
      walk_at "bbs"
      refine .done ?_
      walk_at "bbs"
      obtain ⟨w, rfl, hw, hl⟩ := place_none hp
      have hwh := hid_word H hw
      have hlen := tellS_len H.ok H.full (r := 0) (by have := H.ok.lo; omega) hwh
      have hna : ∀ {b u}, M2 b = some u → (∀ c, MO.gen c ≠ u) → a ≠ b := fun {b u} e g2 => mem_ne2 g e (g2 _)
      refine c_refused9 X hnr (ask_mono9 (Q := fun _ M' => M' a = some (.gen c) ∧ ∃ (calls rows : List D) (kv : List (List Key × D)), Seat K w_ M' h p A calls kv rows ∧ KvT h kv ∧ (∀ ss, ToldTo kv w ss → ss = h.tellS w 0) ∧ calls.length ≤ i + 1 ∧ rows.length ≤ i + 1 ∧ kv.length ≤ 60 * (i + 1)) (E := fun _ _ _ => False) (fun _ M' hq => ?_) (fun _ _ _ z => z.elim)
        (c_askS S H R (hu _) (by omega) (by omega) (by omega) (fun k hk => by rw [hp] at hk; cases hk) (fun _ w1 e1 hw1 hl1 hk => ?_) fun _ w1 e1 hw1 hl1 kv' P => ?_))
      · clear S R g
        obtain ⟨g, calls, rows, kv, S, R, hk, l1, l2, l3⟩ := hq
        walk_at "bbs"
        refine i_neSame (p := .none) rfl rfl (by decide +kernel) ?_
        walk_at "bbs"
        refine .done ?_
        walk_at "bbs"
        refine ⟨_, insOf_ref S.ask.ob, fl_no2, ?_⟩
        walk_at "bbs"
        refine c_knownA S.ask (R.ok H.ok) (hu _) (fun z => absurd rfl (z w)) fun w1 e1 ss ts => ?_
        obtain rfl := wdT_inj e1
        rw [hk ss ts]
        refine ⟨fun _ => ?_, fun z => by omega⟩
        walk_at "bbs"
        refine c_along49 H.ok hwh (by omega) ?_
        walk_at "bbs"
        refine i_neSame (py47 _) (py47 _) (sh47 fun z hz => strOk_name (H.ok.ss.1 z (tellS_in H.ok (by have := H.ok.lo; omega) hwh z hz))) ?_
        walk_at "bbs"
        exact .done ⟨⟨_, _, _, _, _, rfl⟩, g, calls, rows, kv, S, R, by omega, by omega, by omega⟩
      · obtain rfl := wdT_inj e1
        exact ⟨g, calls, rows, kv, S, R, hk, by omega, by omega, by omega⟩
      · obtain rfl := wdT_inj e1
        have hk3 : kv'.length ≤ kv.length + 60 := by have := P.len; omega
        have hr3 : (rows ++ [wdT w]).length ≤ i + 1 := by rw [List.length_append, List.length_singleton]; omega
        have hc3 : (calls ++ [wdT w]).length ≤ i + 1 := by rw [List.length_append, List.length_singleton]; omega
        exact ⟨(putQ_ne (hna S.hq fun _ h => nomatch h) (hna S.ask.dd fun _ h => dX_gen h) (hna S.ask.rr fun _ h => nomatch h)).trans g, _, _, kv', S.put (by omega) (by omega), R.put H.ok H.full hwh hl P, fun ss ts => told_put P hlen ts, hc3, hr3, by omega⟩
  · rintro env M2 ⟨⟨y6, y7, y8, y9, y10, rfl⟩, g, calls, rows, kv, S, R, l1, l2, l3⟩
    refine .done ?_
    walk_at "bbs"
    refine ⟨by show 0 ≤ sizeLine; omega, ?_⟩
    walk_at "bbs"
    intro D0 hD0
    have S2 := S.ext (M' := mset M2 D0 (.dK [])) fun b u e => by rw [mset_ne (mem_ne e hD0)]; exact e
    have hdk : (mset M2 D0 (.dK [])) D0 = some (.dK []) := mset_same
    generalize mset M2 D0 (.dK []) = M3 at S2 hdk ⊢
    walk_at "bbs"
    refine ⟨by show 1 ≤ sizeLine; omega, ?_⟩
    walk_at "bbs"
    refine ⟨by show 1 ≤ sizeLine; omega, ?_⟩
    walk_at "bbs"
    refine ⟨by show 1 ≤ sizeLine; omega, ?_⟩
    walk_at "bbs"
    refine ⟨by show 1 ≤ sizeLine; omega, ?_⟩
    refine ⟨by show 8 ≤ sizeLine; omega, ?_⟩
    walk_at "bbs"
    refine ⟨by show 8 ≤ sizeLine; omega, fun i acc M' => M' = M3 ∧ acc = [], ⟨rfl, rfl⟩, fun _ _ _ _ => trivial, ?_, ?_⟩
    · rintro i e acc M4 he ⟨rfl, rfl⟩
      have hth : (Thing M4 e ∧ (∃ n, placeD p e = some n)) ∧ True := by
        have hm := List.mem_of_getElem? he
        simp only [List.mem_cons, List.not_mem_nil, or_false] at hm
        rcases hm with rfl | rfl | rfl | rfl | rfl | rfl | rfl | rfl
        · exact ⟨⟨.inl ⟨"NoneType", rfl, by decide +kernel⟩, 0, rfl⟩, trivial⟩
        · exact ⟨⟨.inl ⟨"int", rfl, by decide +kernel⟩, 0, rfl⟩, trivial⟩
        · exact ⟨⟨.inl ⟨"list", rfl, by decide +kernel⟩, 0, rfl⟩, trivial⟩
        · refine ⟨⟨.inl ⟨"dict", ?_, by decide +kernel⟩, 0, rfl⟩, trivial⟩
          show (match M4 D0 with | .some (.lst _) => some "list" | some (.dK _) => some "dict" | some (.dT _) => some "dict" | _ => none) = _
          rw [hdk]
        · exact ⟨⟨.inl ⟨"str", rfl, by decide +kernel⟩, 0, rfl⟩, trivial⟩
        · exact ⟨⟨(odd_tup ["Q"] (by show 1 ≤ 500; omega)).2.1 M4, 0, q_place ok⟩, trivial⟩
        · exact ⟨⟨.inr ⟨[.non], rfl, by show 1 ≤ 500; omega, fun x hx => by rw [List.mem_singleton.mp hx]; exact .inr ⟨"NoneType", fun _ => rfl, by decide +kernel⟩⟩, 0, placeL_bad (ds := [.non]) (fun j x hj _ => by omega) (by omega) rfl rfl⟩, trivial⟩
        · exact ⟨⟨.inl ⟨"list", rfl, by decide +kernel⟩, 0, rfl⟩, trivial⟩
      obtain ⟨⟨ht, n, hp⟩, _⟩ := hth
      walk_at "bbs"
      refine ⟨_, insOf_ref S2.ask.ob, fl_no2, ?_⟩
      walk_at "bbs"
      refine c_bad9 S2 H R ht hp ?_
      walk_at "bbs"
      exact ⟨rfl, rfl⟩
    · rintro acc M4 ⟨rfl, rfl⟩
      walk_at "bbs"
      refine ⟨by show 0 ≤ sizeLine; omega, ?_⟩
      refine i_eqSame (p := .list []) rfl rfl (by decide +kernel) ?_
      exact .done (q _)
end
end BB
set_option maxHeartbeats 4000000
namespace BB
open L2 PySem PySem.Spec PyProof.Rows
local macro_rules | `(tactic| walk_at "bb") => `(tactic| first
  | (with_reducible refine i_c ?_) | (with_reducible refine i_n ?_) | (with_reducible refine i_op ?_) | (with_reducible refine i_cons ?_) | (with_reducible refine i_nil ?_) | (with_reducible refine i_cb ?_)
  | (with_reducible refine i_seq ?_) | (with_reducible refine i_set ?_) | (with_reducible refine i_ret ?_) | (with_reducible refine i_if ?_) | (with_reducible refine i_drop ?_) | (with_reducible refine i_par ?_) | (with_reducible refine i_setF ?_) | (with_reducible refine i_raise ?_) | (with_reducible refine i_raiseI ?_) | (with_reducible refine i_asg ?_)
  | (with_reducible refine i_test ?_) | (with_reducible refine i_chain ?_) | (with_reducible refine i_tru ?_) | (with_reducible refine i_and ?_) | (with_reducible refine i_or ?_) | (with_reducible refine i_not ?_)
  | (with_reducible refine i_andv ?_) | (with_reducible refine i_orv ?_) | (with_reducible refine i_notv ?_) | (with_reducible refine i_ifx ?_) | (with_reducible refine i_tup ?_) | (with_reducible refine i_lst ?_) | (with_reducible refine i_lstM ?_)
  | (with_reducible refine i_neg ?_) | (with_reducible refine i_call ?_) | (with_reducible refine i_callK ?_) | (with_reducible refine i_meth ?_) | (with_reducible refine i_fld ?_) | (with_reducible refine i_tupIx ?_) | (with_reducible refine i_app ?_)
  | (with_reducible refine i_join ?_) | (with_reducible refine i_sl ?_) | (with_reducible refine i_part ?_) | (with_reducible refine i_nopart ?_) | (with_reducible refine i_next ?_) | (with_reducible refine i_retN ?_)
  | (with_reducible refine i_gname ?_) | (with_reducible refine i_gcons ?_) | (with_reducible refine i_gnil ?_) | (with_reducible refine i_seqI ?_) | (with_reducible refine i_rng1 ?_) | (with_reducible refine i_enum ?_) | (with_reducible refine i_zip2 ?_)
  | (with_reducible refine i_yes ?_) | (with_reducible refine i_for ?_) | (with_reducible refine i_lc ?_)
  | ((with_reducible refine i_var (d := ?bbd) ?bbh ?bbq); (case bbh => rfl)) | ((with_reducible refine i_rdo (d := ?bbd) ?bbh ?bbq); (case bbh => rfl); (try dsimp only)) | ((with_reducible refine i_rd1 (d := ?bbd) ?bbh ?bbq); (case bbh => rfl); (try dsimp only))
  | (with_reducible refine i_itt ?_) | (with_reducible refine i_nf ?_) | (with_reducible refine i_nt ?_) | (with_reducible refine i_itf ?_)
  | ((with_reducible show rdIsi _ _ _); first | refine i_isi rfl kb_int_int ?_ | refine i_isi rfl kb_int_bool ?_ | refine i_isi rfl kb_str_str ?_ | refine i_isi rfl kb_tup_tup ?_)
  | (with_reducible refine ⟨_, rfl, ?_⟩)
  | ((with_reducible show wkD _ _ _); first | refine wk_tup ?_ | refine wk_lst ?_ | refine wk_str ?_)
  | ((with_reducible show rdEq _ _ _ _); refine i_eqI ?_) | ((with_reducible show rdNe _ _ _ _); refine i_neI ?_)
  | ((with_reducible show ite _ _ _); refine i_itt ?_) | ((with_reducible show ite _ _ _); refine i_itf ?_))
local macro_rules | `(tactic| walk_at "bbs") => `(tactic| repeat walk_at "bb")
section
def Good (cells : List Int) (p x : Int) : Prop := cells ≠ [] ∧ cells.length ≤ 64 ∧ (∀ z ∈ cells, 0 ≤ z) ∧ 0 ≤ p ∧ 0 ≤ x ∧ x < 2147483647
variable {K : PySem.W.Frag} {F I H : Hp} {M : Mem} {a c : Addr}
def openM (M : Mem) (a c : Addr) (cells : List Int) (p x : Int) : Mem := mset (mset M c (.lst (cells.map .int))) a (.lst [.ref c, .int p, .int x])
theorem openM_a {cells : List Int} {p x : Int} : openM M a c cells p x a = some (.lst [.ref c, .int p, .int x]) := mset_same
theorem openM_c {cells : List Int} {p x : Int} (h : c ≠ a) : openM M a c cells p x c = some (.lst (cells.map .int)) := by unfold openM; rw [mset_ne h, mset_same]
theorem openM_ne {cells : List Int} {p x : Int} {b : Addr} (h1 : b ≠ a) (h2 : b ≠ c) : openM M a c cells p x b = M b := by unfold openM; rw [mset_ne h1, mset_ne h2]
theorem At.explode (A : At K F I M H) (ha : M a = some (.gen c)) : ∃ cells p x, Good cells p x ∧ c ≠ a ∧ M c = some (.own a) ∧ At K F I (openM M a c cells p x) H := by
  obtain ⟨hIa, hca, hMc, cells, p, x, h1, h2, g1, g2, g3, g4, g5, g6⟩ := A.mem _ _ ha
  obtain ⟨hIc, _⟩ := A.mem _ _ hMc
  refine ⟨cells, p, x, ⟨g1, g2, g3, g4, g5, g6⟩, hca, hMc, A.ex, fun b u e => ?_, fun b u e => ?_, A.nt⟩
  · by_cases hb : b = a
    · subst hb
      rw [openM_a] at e
      cases e
      exact ⟨hIa, _, h1, .cons (.ref c) (.cons (.int p) (.cons (.int x) .nil))⟩
    · by_cases hbc : b = c
      · subst hbc
        rw [openM_c hca] at e
        cases e
        exact ⟨hIc, _, h2, Rps.ofInts cells⟩
      · rw [openM_ne hb hbc] at e
        obtain ⟨q1, q2⟩ := A.mem _ _ e
        refine ⟨q1, q2.mono (Ext.refl I) (fun _ _ _ hv => hv) (fun b' hb' => ?_)⟩
        rw [openM_ne (fun z => by subst z; rw [ha] at hb'; cases hb') (fun z => by subst z; rw [hMc] at hb'; cases hb'; exact hb rfl)]
        exact hb'
  · obtain ⟨q1, q2, q3⟩ := A.fr _ _ e
    exact ⟨q1, q2, by rw [openM_ne (fun z => by subst z; rw [ha] at q3; cases q3) (fun z => by subst z; rw [hMc] at q3; cases q3)]; exact q3⟩
theorem At.implode {cells : List Int} {p x : Int} (A : At K F I (openM M a c cells p x) H) (ha : M a = some (.gen c)) (hMc : M c = some (.own a)) (hca : c ≠ a) (g : Good cells p x) : At K F I M H := by
  obtain ⟨hIa, va, h1, r1⟩ := A.mem _ _ openM_a
  obtain ⟨hIc, vc, h2, r2⟩ := A.mem _ _ (openM_c hca)
  have e2 := r2.ints
  obtain ⟨v1, s1, rfl, k1, r1⟩ := r1.cons_inv
  obtain ⟨v2, v3, rfl, k2, k3⟩ := r1.two_inv
  have e3 := k1.ref_inv
  have e4 := k2.int_inv
  have e5 := k3.int_inv
  subst e2 e3 e4 e5
  refine ⟨A.ex, fun b u e => ?_, fun b u e => ?_, A.nt⟩
  · by_cases hb : b = a
    · subst hb
      rw [ha] at e
      cases e
      exact ⟨hIa, hca, hMc, cells, p, x, h1, h2, g⟩
    · by_cases hbc : b = c
      · subst hbc
        rw [hMc] at e
        cases e
        exact ⟨hIc, _, h2, .inr ⟨_, rfl⟩⟩
      · obtain ⟨q1, q2⟩ := A.mem b u (by rw [openM_ne hb hbc]; exact e)
        refine ⟨q1, q2.mono (Ext.refl I) (fun _ _ _ hv => hv) (fun b' hb' => ?_)⟩
        by_cases z1 : b' = a
        · subst z1; rw [openM_a] at hb'; cases hb'
        · by_cases z2 : b' = c
          · subst z2; rw [openM_c hca] at hb'; cases hb'
          · rw [openM_ne z1 z2] at hb'; exact hb'
  · obtain ⟨q1, q2, q3⟩ := A.fr _ _ e
    refine ⟨q1, q2, ?_⟩
    have z1 : b ≠ a := fun z => by subst z; rw [openM_a] at q3; cases q3
    have z2 : b ≠ c := fun z => by subst z; rw [openM_c hca] at q3; cases q3
    rw [openM_ne z1 z2] at q3
    exact q3
end
theorem i_gsub {da db : DE} {d : D} {env : Env} {M : Mem} {P : Env → Mem → Prop} (q : da env M fun o M1 => db env M1 fun i M2 => ∃ p xs k j, o = .ref p ∧ i = .int k ∧ M2 p = some (.lst xs) ∧ ixN xs.length k = some j ∧ P env (mset M2 p (.lst (xs.set j d)))) : gdSub da db d env M P := q
def spX_draw : SpD := fun ds M1 Q E => ∃ a c M cells p x m, ds = [.ref a, .int m] ∧ c ≠ a ∧ M1 = openM M a c cells p x ∧ Good cells p x ∧ 0 < m ∧ m < 1073741824 ∧
  ∀ cells' p' x' r, Good cells' p' x' → 0 ≤ r → r < m → Q (.int r) (openM M a c cells' p' x')
def rdX_draw : DS :=
  (dSeq (dSet 2 (dOp (rdO ixD) (dN (dVar 0)) (dC (.int 0))))
  (dSeq (dSet 3 (dOp (rdO modD) (dN (dOp (rdO ixD) (dN (dVar 0)) (dC (.int 1)))) (dN (dCB (rd1 lenD) (dCons (dN (dVar 2)) (dNil))))))
  (dSeq (dSet 4 (dOp (rdO ixD) (dN (dVar 2)) (dVar 3)))
  (dSeq (dIfS (dTest (dOp (rdO (intD fun i j => decide (i ≥ j))) (dN (dVar 4)) (dN (dC (.int 1000000000000000000))))) (dSeq (dAsg (dOp (rdO divD) (dN (dVar 4)) (dN (dVar 1))) (gdSub (dVar 2) (dVar 3)))
  (dRet (dOp (rdO modD) (dN (dVar 4)) (dN (dVar 1))))) dNext)
  (dSeq (dAsg (dOp (rdO addD) (dN (dOp (rdO ixD) (dN (dVar 0)) (dC (.int 1)))) (dN (dC (.int 1)))) (gdSub (dVar 0) (dC (.int 1))))
  (dSeq (dAsg (dOp (rdO modD) (dN (dOp (rdO addD) (dN (dOp (rdO addD) (dN (dOp (rdO mulE) (dN (dOp (rdO ixD) (dN (dVar 0)) (dC (.int 2)))) (dN (dC (.int 48271))))) (dN (dVar 4)))) (dN (dC (.int 12345))))) (dN (dC (.int 2147483647)))) (gdSub (dVar 0) (dC (.int 2))))
  (dRet (dOp (rdO modD) (dN (dOp (rdO divD) (dN (dOp (rdO modD) (dN (dOp (rdO mulE) (dN (dOp (rdO ixD) (dN (dVar 0)) (dC (.int 2)))) (dN (dOp (rdO ixD) (dN (dVar 0)) (dC (.int 2)))))) (dN (dC (.int 2147483629))))) (dN (dC (.int 16))))) (dN (dVar 1))))))))))
section
variable {K : PySem.W.Frag} {ds : List D} {M : Mem} {Q : DKt} {E : DX}
theorem ixN_nat {n j : Nat} (h : j < n) : ixN n (j : Int) = some j := by
  unfold ixN
  rw [if_pos (by omega), if_pos (by omega), Int.toNat_natCast]
theorem openM_re {a c : Addr} {cells : List Int} {p x p' x' : Int} : mset (openM M a c cells p x) a (.lst [.ref c, .int p', .int x']) = openM M a c cells p' x' := by unfold openM; rw [mset_mset]
theorem mulE_int {i j : Int} (h : (-(2 ^ 64) < i ∧ i < 2 ^ 64) ∨ (-(2 ^ 64) < j ∧ j < 2 ^ 64)) : mulE M (.int i) (.int j) = some (.int (i * j)) := if_pos h
theorem lwX_draw (h : spX_draw ds M Q E) : rdX_draw (ends Q) (startD ["_law_state", "_law_many", "_law_cells", "_law_at", "_law_cell"] ds) M := by
  obtain ⟨a, c, M0, cells, p, x, m, rfl, hca, rfl, ⟨g1, g2, g3, g4, g5, g6⟩, h0, h1, q⟩ := h
  have hs := sizeLine_eq
  have hlen : 0 < cells.length := List.length_pos_iff.mpr g1
  unfold rdX_draw
  walk_at "bbs"
  refine i_ixRef openM_a (ix_lst (i := 0) rfl) ?_
  refine .done ?_
  walk_at "bbs"
  refine i_ixRef openM_a (ix_lst (i := 1) rfl) ?_
  walk_at "bbs"
  refine i_rd1 (d := .int cells.length) (by show (seqOf _ _).map _ = _; rw [show nrm (D.ref c) = D.ref c from rfl, seqOf_ref (openM_c hca)]; simp) ?_
  refine i_rdo (modD_int (by omega)) ?_
  refine .done ?_
  obtain ⟨j, hj⟩ : ∃ j : Nat, p % (cells.length : Int) = (j : Int) := ⟨(p % (cells.length : Int)).toNat, by have := Int.emod_nonneg p (show (cells.length : Int) ≠ 0 by omega); omega⟩
  have hjl : j < cells.length := by have := Int.emod_lt_of_pos p (show (0 : Int) < cells.length by omega); omega
  rw [hj]
  walk_at "bbs"
  refine i_ixRef (openM_c hca) (ix_lst (i := j) (d := .int cells[j]) (by simp [hjl])) ?_
  have hcj : 0 ≤ cells[j] := g3 _ (List.getElem_mem hjl)
  refine .done ?_
  walk_at "bbs"
  by_cases hbig : cells[j] ≥ 1000000000000000000
  · rw [decide_eq_true hbig]
    walk_at "bbs"
    refine i_rdo (divD_int ⟨h0, h1⟩) ?_
    refine i_gsub ?_
    walk_at "bbs"
    refine ⟨c, _, (j : Int), j, rfl, rfl, openM_c hca, by rw [List.length_map]; exact ixN_nat hjl, ?_⟩
    refine .done ?_
    walk_at "bbs"
    refine i_rdo (modD_int h0) ?_
    refine .done ?_
    have key := q (cells.set j (cells[j] / m)) p x (cells[j] % m) ⟨fun e => g1 (List.eq_nil_of_length_eq_zero (by have h3 := congrArg List.length e; rw [List.length_set] at h3; exact h3)), by rw [List.length_set]; exact g2, fun z hz => ?_, g4, g5, g6⟩ (Int.emod_nonneg _ (by omega)) (Int.emod_lt_of_pos _ h0)
    · unfold openM at key ⊢
      rw [mset_comm hca.symm, mset_mset, ← List.map_set]
      exact key
    · rcases List.mem_or_eq_of_mem_set hz with hz | hz
      · exact g3 z hz
      · rw [hz]; exact Int.ediv_nonneg hcj (by omega)
  · rw [decide_eq_false hbig]
    walk_at "bbs"
    refine .done ?_
    walk_at "bbs"
    refine i_ixRef openM_a (ix_lst (i := 1) rfl) ?_
    walk_at "bbs"
    refine i_gsub ?_
    walk_at "bbs"
    refine ⟨a, _, 1, 1, rfl, rfl, openM_a, rfl, ?_⟩
    have r1 : mset (openM M0 a c cells p x) a (.lst (List.set [D.ref c, .int p, .int x] 1 (.int (p + 1)))) = openM M0 a c cells (p + 1) x := openM_re
    rw [r1]
    refine .done ?_
    walk_at "bbs"
    refine i_ixRef openM_a (ix_lst (i := 2) rfl) ?_
    walk_at "bbs"
    refine i_rdoN (mulE_int (.inl ⟨by omega, by omega⟩)) ?_
    walk_at "bbs"
    obtain ⟨x2, hx2⟩ : ∃ x2 : Int, x2 = (x * 48271 + cells[j] + 12345) % 2147483647 := ⟨_, rfl⟩
    have k1 : 0 ≤ x2 := by rw [hx2]; exact Int.emod_nonneg _ (by omega)
    have k2 : x2 < 2147483647 := by rw [hx2]; exact Int.emod_lt_of_pos _ (by omega)
    rw [← hx2]
    refine i_gsub ?_
    walk_at "bbs"
    refine ⟨a, _, 2, 2, rfl, rfl, openM_a, rfl, ?_⟩
    have r2 : mset (openM M0 a c cells (p + 1) x) a (.lst (List.set [D.ref c, .int (p + 1), .int x] 2 (.int x2))) = openM M0 a c cells (p + 1) x2 := openM_re
    rw [r2]
    refine .done ?_
    walk_at "bbs"
    refine i_ixRef openM_a (ix_lst (i := 2) rfl) ?_
    walk_at "bbs"
    refine i_ixRef openM_a (ix_lst (i := 2) rfl) ?_
    refine i_rdoN (mulE_int (.inl ⟨by omega, by omega⟩)) ?_
    walk_at "bbs"
    refine i_rdo (modD_int h0) ?_
    exact .done (q cells (p + 1) x2 _ ⟨g1, g2, g3, by omega, k1, k2⟩ (Int.emod_nonneg _ (by omega)) (Int.emod_lt_of_pos _ h0))
def spX_begun : SpD := spN1 fun d M Q E => ∃ xs : List Int, d = .frz (xs.map .int) ∧ xs.length ≤ 63 ∧ ∀ a c cells, M a = none → M c = none → c ≠ a → Good cells 0 1 → Q (.ref a) (openM M a c cells 0 1)
end
end BB
set_option maxHeartbeats 4000000
namespace BB
open L2 PySem PySem.Spec PyProof.Rows
local macro_rules | `(tactic| walk_at "bb") => `(tactic| first
  | (with_reducible refine i_c ?_) | (with_reducible refine i_n ?_) | (with_reducible refine i_op ?_) | (with_reducible refine i_cons ?_) | (with_reducible refine i_nil ?_) | (with_reducible refine i_cb ?_)
  | (with_reducible refine i_seq ?_) | (with_reducible refine i_set ?_) | (with_reducible refine i_ret ?_) | (with_reducible refine i_if ?_) | (with_reducible refine i_drop ?_) | (with_reducible refine i_par ?_) | (with_reducible refine i_setF ?_) | (with_reducible refine i_raise ?_) | (with_reducible refine i_raiseI ?_) | (with_reducible refine i_asg ?_)
  | (with_reducible refine i_test ?_) | (with_reducible refine i_chain ?_) | (with_reducible refine i_tru ?_) | (with_reducible refine i_and ?_) | (with_reducible refine i_or ?_) | (with_reducible refine i_not ?_)
  | (with_reducible refine i_andv ?_) | (with_reducible refine i_orv ?_) | (with_reducible refine i_notv ?_) | (with_reducible refine i_ifx ?_) | (with_reducible refine i_tup ?_) | (with_reducible refine i_lst ?_) | (with_reducible refine i_lstM ?_)
  | (with_reducible refine i_neg ?_) | (with_reducible refine i_call ?_) | (with_reducible refine i_callK ?_) | (with_reducible refine i_meth ?_) | (with_reducible refine i_fld ?_) | (with_reducible refine i_tupIx ?_) | (with_reducible refine i_app ?_)
  | (with_reducible refine i_join ?_) | (with_reducible refine i_sl ?_) | (with_reducible refine i_part ?_) | (with_reducible refine i_nopart ?_) | (with_reducible refine i_next ?_) | (with_reducible refine i_retN ?_)
  | (with_reducible refine i_gname ?_) | (with_reducible refine i_gcons ?_) | (with_reducible refine i_gnil ?_) | (with_reducible refine i_seqI ?_) | (with_reducible refine i_rng1 ?_) | (with_reducible refine i_enum ?_) | (with_reducible refine i_zip2 ?_)
  | (with_reducible refine i_keys ?_) | (with_reducible refine i_updT ?_) | (with_reducible refine i_popI ?_) | (with_reducible refine i_lcM ?_) | (with_reducible refine i_parD ?_) | (with_reducible refine i_tupH ?_) | (with_reducible refine i_dispT ?_) | (with_reducible refine i_dget ?_) | (with_reducible refine i_dget1 ?_) | (with_reducible refine i_dget2 ?_) | (with_reducible refine i_dput ?_) | (with_reducible refine i_while ?_) | (with_reducible refine i_newT ?_) | (with_reducible refine i_newK ?_) | (with_reducible refine i_dispK ?_)
  | (with_reducible refine i_yes ?_) | (with_reducible refine i_for ?_) | (with_reducible refine i_lc ?_)
  | ((with_reducible refine i_var (d := ?bbd) ?bbh ?bbq); (case bbh => rfl)) | ((with_reducible refine i_rdo (d := ?bbd) ?bbh ?bbq); (case bbh => rfl); (try dsimp only)) | ((with_reducible refine i_rd1 (d := ?bbd) ?bbh ?bbq); (case bbh => rfl); (try dsimp only))
  | (with_reducible refine i_itt ?_) | (with_reducible refine i_nf ?_) | (with_reducible refine i_nt ?_) | (with_reducible refine i_itf ?_)
  | ((with_reducible show rdIsi _ _ _); first | refine i_isi rfl kb_int_int ?_ | refine i_isi rfl kb_int_bool ?_ | refine i_isi rfl kb_str_str ?_ | refine i_isi rfl kb_tup_tup ?_)
  | (with_reducible refine ⟨_, rfl, ?_⟩)
  | ((with_reducible show wkD _ _ _); first | refine wk_tup ?_ | refine wk_lst ?_ | refine wk_str ?_)
  | ((with_reducible show rdEq _ _ _ _); refine i_eqI ?_) | ((with_reducible show rdNe _ _ _ _); refine i_neI ?_)
  | ((with_reducible show ite _ _ _); refine i_itt ?_) | ((with_reducible show ite _ _ _); refine i_itf ?_))
local macro_rules | `(tactic| walk_at "bbs") => `(tactic| repeat walk_at "bb")
section
variable {K : PySem.W.Frag} {ds : List D} {M : Mem} {Q : DKt} {E : DX}
def rdX_state : DS :=
  (dRet (dLstM (dCons (dOrX (dLcM (dSeqI (dN (dSl (dN (dVar 0)) dNoPart (dPart (dC (.int 63)))))) (gdName 1) dYes (dCB (rd1 absD) (dCons (dN (dVar 1)) (dNil))) [1]) (dLstM (dCons (dC (.int 7)) (dNil)))) (dCons (dC (.int 0)) (dCons (dC (.int 1)) (dNil))))))
theorem cut_short {xs : List D} (h : xs.length ≤ 63) : cutD xs none (some (63 : Int)) = xs := by
  unfold cutD HT.sIx
  rw [List.drop_zero]
  refine List.take_of_length_le ?_
  show xs.length ≤ _
  simp only [HT.sIx]
  split <;> omega
theorem i_orX57 {da db : DE} {env : Env} (q : da env M fun x M1 => ∃ c, dTruth M1 x = some c ∧ if c = true then Q x M1 else db env M1 Q) : dOrX da db env M Q := q
theorem lwX_state (h : spX_begun ds M Q E) : rdX_state (ends Q) (startD ["_law_script", "_law_cell"] ds) M := by
  obtain ⟨d, rfl, xs, rfl, hl, q⟩ := h
  have hs := sizeLine_eq
  unfold rdX_state
  walk_at "bbs"
  refine i_orX57 ?_
  walk_at "bbs"
  rw [cut_short (xs := xs.map D.int) (by rw [List.length_map]; exact hl)]
  refine ⟨by rw [List.length_map]; omega, fun i acc M' => M' = M ∧ acc = (xs.take i).map (fun z => D.int (if z < 0 then -z else z)), ⟨rfl, rfl⟩, fun _ _ _ _ => trivial, ?_, ?_⟩
  · rintro i d acc M2 hd ⟨rfl, rfl⟩
    rw [List.getElem?_map] at hd
    cases hz : xs[i]? with
    | none => rw [hz] at hd; cases hd
    | some z =>
      rw [hz] at hd
      cases hd
      walk_at "bbs"
      exact ⟨rfl, take_map_succ (fun z => D.int (if z < 0 then -z else z)) hz⟩
  · rintro acc M2 ⟨rfl, rfl⟩ c hc
    rw [List.length_map, List.take_length]
    refine ⟨_, by show (match mset M2 c _ c with | some (.lst xs) => some !xs.isEmpty | _ => none) = _; rw [mset_same], ?_⟩
    by_cases h : xs = []
    · subst h
      rw [if_neg (by decide)]
      walk_at "bbs"
      refine ⟨by show 1 ≤ sizeLine; omega, fun c2 hc2 => ?_⟩
      have hcc : c ≠ c2 := fun e => by subst e; rw [mset_same] at hc2; cases hc2
      have hc0 : M2 c2 = none := by rw [mset_ne hcc.symm] at hc2; exact hc2
      walk_at "bbs"
      refine ⟨by show 3 ≤ sizeLine; omega, fun a ha => ?_⟩
      have hca : c2 ≠ a := fun e => by rw [e, mset_same] at ha; cases ha
      have hcb : c ≠ a := fun e => by rw [e, mset_ne hca.symm, ← e, mset_same] at ha; cases ha
      have ha0 : M2 a = none := by rw [mset_ne hca.symm, mset_ne hcb.symm] at ha; exact ha
      refine .drop c (by rw [mset_ne hcb, mset_ne hcc, mset_same]) rfl ?_
      rw [mset_comm hcc, mset_comm hcb, mdel_mset (by rw [mset_ne hcb, mset_ne hcc]; exact hc)]
      refine .done ?_
      exact q a c2 [7] ha0 hc0 hca ⟨by simp, by show 1 ≤ 64; omega, fun z hz => by rw [List.mem_singleton.mp hz]; omega, by omega, by omega, by omega⟩
    · have h2 : (!((xs.map fun z => D.int (if z < 0 then -z else z)).isEmpty)) = true := by
        cases xs with
        | nil => exact absurd rfl h
        | cons _ _ => rfl
      rw [if_pos h2]
      walk_at "bbs"
      refine ⟨by show 3 ≤ sizeLine; omega, fun a ha => ?_⟩
      have hca : c ≠ a := fun e => by rw [e, mset_same] at ha; cases ha
      have ha0 : M2 a = none := by rw [mset_ne hca.symm] at ha; exact ha
      refine .done ?_
      have key := q a c (xs.map (fun z => if z < 0 then -z else z)) ha0 hc hca ⟨fun e => h (List.map_eq_nil_iff.mp e), by rw [List.length_map]; omega, ?_, by omega, by omega, by omega⟩
      · unfold openM at key
        rw [List.map_map] at key
        exact key
      · intro z hz
        obtain ⟨y, _, rfl⟩ := List.mem_map.mp hz
        split <;> omega
end
end BB
set_option maxHeartbeats 4000000
namespace BB
open L2 PySem PySem.Spec PyProof.Rows
structure Fx (K : PySem.W.Frag) (mg : Str → Option Value) : Prop where
  d__law_begin : ∃ fd, FunD K "_law_begin" "_law_begin" (defArgs (top 27)) (defBody (top 27)) (defScope (top 27)) [] [] (He.ga K "_law_begin") fd
  d__law_draw : ∃ fd, FunD K "_law_draw" "_law_draw" (defArgs (top 28)) (defBody (top 28)) (defScope (top 28)) [] [] (He.ga K "_law_draw") fd
  d__law_pick : ∃ fd, FunD K "_law_pick" "_law_pick" (defArgs (top 29)) (defBody (top 29)) (defScope (top 29)) [] [] (He.ga K "_law_pick") fd
  d__law_names : ∃ fd, FunD K "_law_names" "_law_names" (defArgs (top 30)) (defBody (top 30)) (defScope (top 30)) [] [] (He.ga K "_law_names") fd
  d__law_parts : ∃ fd, FunD K "_law_parts" "_law_parts" (defArgs (top 31)) (defBody (top 31)) (defScope (top 31)) [] [] (He.ga K "_law_parts") fd
  d__law_hidden : ∃ fd, FunD K "_law_hidden" "_law_hidden" (defArgs (top 34)) (defBody (top 34)) (defScope (top 34)) [] [] (He.ga K "_law_hidden") fd
  d_Asker___init__ : ∃ fd, FunD K "__init__" "Asker.__init__" (defArgs (mth (top 25) 0)) (defBody (mth (top 25) 0)) (defScope (mth (top 25) 0)) [] [] (He.ma K (He.ga K "Asker") "__init__") fd
  d__law_maker : ∃ fd, FunD K "_law_maker" "_law_maker" (defArgs (top 35)) (defBody (top 35)) (defScope (top 35)) [] [] (He.ga K "_law_maker") fd
  d_is_name : ∃ fd, FunD K "is_name" "is_name" (defArgs (top 16)) (defBody (top 16)) (defScope (top 16)) [] [] (He.ga K "is_name") fd
  d_are_names : ∃ fd, FunD K "are_names" "are_names" (defArgs (top 18)) (defBody (top 18)) (defScope (top 18)) [] [] (He.ga K "are_names") fd
  d_is_count : ∃ fd, FunD K "is_count" "is_count" (defArgs (top 17)) (defBody (top 17)) (defScope (top 17)) [] [] (He.ga K "is_count") fd
  d_is_door : ∃ fd, FunD K "is_door" "is_door" (defArgs (top 19)) (defBody (top 19)) (defScope (top 19)) [] [] (He.ga K "is_door") fd
  d_are_rooms : ∃ fd, FunD K "are_rooms" "are_rooms" (defArgs (top 20)) (defBody (top 20)) (defScope (top 20)) [] [] (He.ga K "are_rooms") fd
  d_Plan___init__ : ∃ fd, FunD K "__init__" "Plan.__init__" (defArgs (mth (top 21) 0)) (defBody (mth (top 21) 0)) (defScope (mth (top 21) 0)) [] [] (He.ma K (He.ga K "Plan") "__init__") fd
  d__law_thing : ∃ fd, FunD K "_law_thing" "_law_thing" (defArgs (top 39)) (defBody (top 39)) (defScope (top 39)) [] [] (He.ga K "_law_thing") fd
  d__law_place : ∃ fd, FunD K "_law_place" "_law_place" (defArgs (top 38)) (defBody (top 38)) (defScope (top 38)) [] [] (He.ga K "_law_place") fd
  d_Asker_signs_told : ∃ fd, FunD K "signs_told" "Asker.signs_told" (defArgs (mth (top 25) 3)) (defBody (mth (top 25) 3)) (defScope (mth (top 25) 3)) [] [] (He.ma K (He.ga K "Asker") "signs_told") fd
  d_Asker_known : ∃ fd, FunD K "known" "Asker.known" (defArgs (mth (top 25) 4)) (defBody (mth (top 25) 4)) (defScope (mth (top 25) 4)) [] [] (He.ma K (He.ga K "Asker") "known") fd
  d_NoWord___init__ : ∃ fd, FunD K "__init__" "NoWord.__init__" (defArgs (mth (top 4) 0)) (defBody (mth (top 4) 0)) (defScope (mth (top 4) 0)) [] [] (He.ma K (He.ga K "NoWord") "__init__") fd
  d_need_letters : ∃ fd, FunD K "need_letters" "need_letters" (defArgs (top 24)) (defBody (top 24)) (defScope (top 24)) [] [] (He.ga K "need_letters") fd
  d_Plan_letters : ∃ fd, FunD K "letters" "Plan.letters" (defArgs (mth (top 21) 3)) (defBody (mth (top 21) 3)) (defScope (mth (top 21) 3)) [] [] (He.ma K (He.ga K "Plan") "letters") fd
  d__law_along : ∃ fd, FunD K "_law_along" "_law_along" (defArgs (top 32)) (defBody (top 32)) (defScope (top 32)) [] [] (He.ga K "_law_along") fd
  d__law_noted : ∃ fd, FunD K "_law_noted" "_law_noted" (defArgs (top 36)) (defBody (top 36)) (defScope (top 36)) [] [] (He.ga K "_law_noted") fd
  d_Plan_signs : ∃ fd, FunD K "signs" "Plan.signs" (defArgs (mth (top 21) 4)) (defBody (mth (top 21) 4)) (defScope (mth (top 21) 4)) [] [] (He.ma K (He.ga K "Plan") "signs") fd
  d_Asker_is_answer : ∃ fd, FunD K "is_answer" "Asker.is_answer" (defArgs (mth (top 25) 5)) (defBody (mth (top 25) 5)) (defScope (mth (top 25) 5)) [] [] (He.ma K (He.ga K "Asker") "is_answer") fd
  d_BadBox___init__ : ∃ fd, FunD K "__init__" "BadBox.__init__" (defArgs (mth (top 7) 0)) (defBody (mth (top 7) 0)) (defScope (mth (top 7) 0)) [] [] (He.ma K (He.ga K "BadBox") "__init__") fd
  d_Asker_ask : ∃ fd, FunD K "ask" "Asker.ask" (defArgs (mth (top 25) 6)) (defBody (mth (top 25) 6)) (defScope (mth (top 25) 6)) [] [] (He.ma K (He.ga K "Asker") "ask") fd
  d__law_refused : ∃ fd, FunD K "_law_refused" "_law_refused" (defArgs (top 40)) (defBody (top 40)) (defScope (top 40)) [] [] (He.ga K "_law_refused") fd
  d_law : ∃ fd, FunD K "law" "law" (defArgs (top 41)) (defBody (top 41)) (defScope (top 41)) [] [] (He.ga K "law") fd
  b_ValueError : mg "ValueError" = none
  b_abs : mg "abs" = none
  b_all : mg "all" = none
  b_bool : mg "bool" = none
  b_enumerate : mg "enumerate" = none
  b_int : mg "int" = none
  b_isinstance : mg "isinstance" = none
  b_len : mg "len" = none
  b_list : mg "list" = none
  b_min : mg "min" = none
  b_range : mg "range" = none
  b_sorted : mg "sorted" = none
  b_str : mg "str" = none
  b_tuple : mg "tuple" = none
  b_zip : mg "zip" = none
  cl_Asker : Cls K (He.ga K "Asker")
  cl_Plan : Cls K (He.ga K "Plan")
  e_NoPlan : (He.Fa.exc "NoPlan").ok K = true
  exm_NoWord_BoxError : PySem.W.exmOne K (.ref (He.ga K "NoWord")) (.ref (He.ga K "BoxError")) = some true
  g_Asker : mg "Asker" = some (.ref (He.ga K "Asker"))
  g_BadBox : mg "BadBox" = some (.ref (He.ga K "BadBox"))
  g_BoxError : mg "BoxError" = some (.ref (He.ga K "BoxError"))
  g_NoMany : mg "NoMany" = some (.ref (He.ga K "NoMany"))
  g_NoPair : mg "NoPair" = some (.ref (He.ga K "NoPair"))
  g_NoPlan : mg "NoPlan" = some (.ref (He.ga K "NoPlan"))
  g_NoWord : mg "NoWord" = some (.ref (He.ga K "NoWord"))
  g_Plan : mg "Plan" = some (.ref (He.ga K "Plan"))
  g_TooMany : mg "TooMany" = some (.ref (He.ga K "TooMany"))
  g__law_along : mg "_law_along" = some (.ref (He.ga K "_law_along"))
  g__law_begin : mg "_law_begin" = some (.ref (He.ga K "_law_begin"))
  g__law_draw : mg "_law_draw" = some (.ref (He.ga K "_law_draw"))
  g__law_hidden : mg "_law_hidden" = some (.ref (He.ga K "_law_hidden"))
  g__law_maker : mg "_law_maker" = some (.ref (He.ga K "_law_maker"))
  g__law_names : mg "_law_names" = some (.ref (He.ga K "_law_names"))
  g__law_noted : mg "_law_noted" = some (.ref (He.ga K "_law_noted"))
  g__law_parts : mg "_law_parts" = some (.ref (He.ga K "_law_parts"))
  g__law_pick : mg "_law_pick" = some (.ref (He.ga K "_law_pick"))
  g__law_place : mg "_law_place" = some (.ref (He.ga K "_law_place"))
  g__law_refused : mg "_law_refused" = some (.ref (He.ga K "_law_refused"))
  g__law_thing : mg "_law_thing" = some (.ref (He.ga K "_law_thing"))
  g_are_names : mg "are_names" = some (.ref (He.ga K "are_names"))
  g_are_rooms : mg "are_rooms" = some (.ref (He.ga K "are_rooms"))
  g_is_count : mg "is_count" = some (.ref (He.ga K "is_count"))
  g_is_door : mg "is_door" = some (.ref (He.ga K "is_door"))
  g_is_name : mg "is_name" = some (.ref (He.ga K "is_name"))
  g_law : mg "law" = some (.ref (He.ga K "law"))
  g_need_letters : mg "need_letters" = some (.ref (He.ga K "need_letters"))
  i_LEAST_SIGNS : ∃ t, mg "LEAST_SIGNS" = some (.int 2 t)
  i_LONGEST_ASKED : ∃ t, mg "LONGEST_ASKED" = some (.int 60 t)
  i_MOST_LETTERS : ∃ t, mg "MOST_LETTERS" = some (.int 4 t)
  i_MOST_NAME : ∃ t, mg "MOST_NAME" = some (.int 6 t)
  i_MOST_ROOMS : ∃ t, mg "MOST_ROOMS" = some (.int 36 t)
  i_MOST_SIGNS : ∃ t, mg "MOST_SIGNS" = some (.int 4 t)
  in_BadBox : PySem.W.findIn K (.ref (He.ga K "BadBox")) "__init__" = some (some (.ref (He.ma K (He.ga K "BadBox") "__init__")))
  in_NoWord : PySem.W.findIn K (.ref (He.ga K "NoWord")) "__init__" = some (some (.ref (He.ma K (He.ga K "NoWord") "__init__")))
  it_BadBox : PySem.W.typeIn K (.ref (He.ma K (He.ga K "BadBox") "__init__")) = some (.type "function")
  it_NoWord : PySem.W.typeIn K (.ref (He.ma K (He.ga K "NoWord") "__init__")) = some (.type "function")
  kit_NoWord_BadBox : PySem.W.kitOne K (.ref (He.ga K "NoWord")) (.ref (He.ga K "BadBox")) = some false
  kit_NoWord_NoMany : PySem.W.kitOne K (.ref (He.ga K "NoWord")) (.ref (He.ga K "NoMany")) = some false
  kit_NoWord_NoPair : PySem.W.kitOne K (.ref (He.ga K "NoWord")) (.ref (He.ga K "NoPair")) = some false
  kit_NoWord_NoPlan : PySem.W.kitOne K (.ref (He.ga K "NoWord")) (.ref (He.ga K "NoPlan")) = some false
  kit_NoWord_NoWord : PySem.W.kitOne K (.ref (He.ga K "NoWord")) (.ref (He.ga K "NoWord")) = some true
  kit_NoWord_TooMany : PySem.W.kitOne K (.ref (He.ga K "NoWord")) (.ref (He.ga K "TooMany")) = some false
  kitB_NoWord_ValueError : PySem.W.kitOne K (.ref (He.ga K "NoWord")) (.type "ValueError") = some true
  m_Asker_ask : Meth K (He.ga K "Asker") "ask" (He.ma K (He.ga K "Asker") "ask")
  m_Asker_is_answer : Meth K (He.ga K "Asker") "is_answer" (He.ma K (He.ga K "Asker") "is_answer")
  m_Asker_known : Meth K (He.ga K "Asker") "known" (He.ma K (He.ga K "Asker") "known")
  m_Asker_signs_told : Meth K (He.ga K "Asker") "signs_told" (He.ma K (He.ga K "Asker") "signs_told")
  m_Plan_letters : Meth K (He.ga K "Plan") "letters" (He.ma K (He.ga K "Plan") "letters")
  m_Plan_signs : Meth K (He.ga K "Plan") "signs" (He.ma K (He.ga K "Plan") "signs")
  mk_Asker : Mk K (He.ga K "Asker") (He.ma K (He.ga K "Asker") "__init__")
  mk_Plan : Mk K (He.ga K "Plan") (He.ma K (He.ga K "Plan") "__init__")
  na_Asker_answers_by : NoAttr K (He.ga K "Asker") "answers_by"
  na_Asker_last_told : NoAttr K (He.ga K "Asker") "last_told"
  na_Asker_model : NoAttr K (He.ga K "Asker") "model"
  na_Asker_rows : NoAttr K (He.ga K "Asker") "rows"
  na_BadBox_word : NoAttr K (He.ga K "BadBox") "word"
  na_NoWord_at : NoAttr K (He.ga K "NoWord") "at"
  na_Plan_own_letters : NoAttr K (He.ga K "Plan") "own_letters"
  na_Plan_own_rooms : NoAttr K (He.ga K "Plan") "own_rooms"
  na_Plan_own_signs : NoAttr K (He.ga K "Plan") "own_signs"
  ox_BadBox : OexC K (He.ga K "BadBox")
  ox_NoWord : OexC K (He.ga K "NoWord")
  s_SMALL : ∃ t, mg "SMALL" = some (.str "abcdefghijklmnopqrstuvwxyz" t)
  xf_NoWord : XfC K (He.ga K "NoWord")
  xq_NoWord : ExcQ K (He.ga K "NoWord")
theorem sc__law_begin : FnScope ["_law_script", "_law_cell"] ["_law_script"] (defScope (top 27)) := ⟨rfl, rfl, rfl, by decide +kernel, rfl, by decide +kernel, by decide +kernel⟩
theorem sc__law_draw : FnScope ["_law_state", "_law_size", "_law_cells", "_law_at", "_law_cell"] ["_law_state", "_law_size"] (defScope (top 28)) := ⟨rfl, rfl, rfl, by decide +kernel, rfl, by decide +kernel, by decide +kernel⟩
theorem sc__law_pick : FnScope ["_law_state", "_law_some"] ["_law_state", "_law_some"] (defScope (top 29)) := ⟨rfl, rfl, rfl, by decide +kernel, rfl, by decide +kernel, by decide +kernel⟩
theorem sc__law_names : FnScope ["_law_state", "_law_size", "_law_own", "_law_gained", "_law_name", "_law_small", "_law_others", "_law_k", "_law_sign", "_law_one"] ["_law_state", "_law_size"] (defScope (top 30)) := ⟨rfl, rfl, rfl, by decide +kernel, rfl, by decide +kernel, by decide +kernel⟩
theorem sc__law_parts : FnScope ["_law_state", "_law_most", "_law_letters_many", "_law_open_in", "_law_names_here", "_law_ends", "_law_size", "_law_halls", "_law_k", "_law_doors", "_law_j", "_law_door"] ["_law_state", "_law_most", "_law_letters_many", "_law_open_in"] (defScope (top 31)) := ⟨rfl, rfl, rfl, by decide +kernel, rfl, by decide +kernel, by decide +kernel⟩
theorem sc__law_hidden : FnScope ["_law_state", "_law_parts_here", "_law_most", "_law_names_here", "_law_ends", "_law_halls", "_law_size", "_law_gained", "_law_k", "_law_doors", "_law_j", "_law_door", "_law_to"] ["_law_state", "_law_parts_here", "_law_most"] (defScope (top 34)) := ⟨rfl, rfl, rfl, by decide +kernel, rfl, by decide +kernel, by decide +kernel⟩
theorem sc_Asker___init__ : FnScope ["self", "plan", "box"] ["self", "plan", "box"] (defScope (mth (top 25) 0)) := ⟨rfl, rfl, rfl, by decide +kernel, rfl, by decide +kernel, by decide +kernel⟩
theorem sc__law_maker : FnScope ["_law_hidden_here", "_law_calls"] ["_law_hidden_here", "_law_calls"] (defScope (top 35)) := ⟨rfl, rfl, rfl, by decide +kernel, rfl, by decide +kernel, by decide +kernel⟩
theorem sc_is_name : FnScope ["thing", "sign"] ["thing"] (defScope (top 16)) := ⟨rfl, rfl, rfl, by decide +kernel, rfl, by decide +kernel, by decide +kernel⟩
theorem sc_are_names : FnScope ["thing", "least", "most", "one", "other"] ["thing", "least", "most"] (defScope (top 18)) := ⟨rfl, rfl, rfl, by decide +kernel, rfl, by decide +kernel, by decide +kernel⟩
theorem sc_is_count : FnScope ["thing"] ["thing"] (defScope (top 17)) := ⟨rfl, rfl, rfl, by decide +kernel, rfl, by decide +kernel, by decide +kernel⟩
theorem sc_is_door : FnScope ["thing", "signs", "many"] ["thing", "signs", "many"] (defScope (top 19)) := ⟨rfl, rfl, rfl, by decide +kernel, rfl, by decide +kernel, by decide +kernel⟩
theorem sc_are_rooms : FnScope ["thing", "letters", "signs", "doors", "door"] ["thing", "letters", "signs"] (defScope (top 20)) := ⟨rfl, rfl, rfl, by decide +kernel, rfl, by decide +kernel, by decide +kernel⟩
theorem sc_Plan___init__ : FnScope ["self", "letters", "signs", "rooms"] ["self", "letters", "signs", "rooms"] (defScope (mth (top 21) 0)) := ⟨rfl, rfl, rfl, by decide +kernel, rfl, by decide +kernel, by decide +kernel⟩
theorem sc__law_thing : FnScope ["_law_state", "_law_parts_here", "_law_size", "_law_row_here", "_law_way", "_law_odd", "_law_at", "_law_k"] ["_law_state", "_law_parts_here"] (defScope (top 39)) := ⟨rfl, rfl, rfl, by decide +kernel, rfl, by decide +kernel, by decide +kernel⟩
theorem sc__law_place : FnScope ["_law_parts_here", "_law_thing_here", "_law_at"] ["_law_parts_here", "_law_thing_here"] (defScope (top 38)) := ⟨rfl, rfl, rfl, by decide +kernel, rfl, by decide +kernel, by decide +kernel⟩
theorem sc_Asker_signs_told : FnScope ["self", "word", "found", "at"] ["self", "word"] (defScope (mth (top 25) 3)) := ⟨rfl, rfl, rfl, by decide +kernel, rfl, by decide +kernel, by decide +kernel⟩
theorem sc_Asker_known : FnScope ["self", "word", "signs", "letter"] ["self", "word"] (defScope (mth (top 25) 4)) := ⟨rfl, rfl, rfl, by decide +kernel, rfl, by decide +kernel, by decide +kernel⟩
theorem sc_NoWord___init__ : FnScope ["self", "at"] ["self", "at"] (defScope (mth (top 4) 0)) := ⟨rfl, rfl, rfl, by decide +kernel, rfl, by decide +kernel, by decide +kernel⟩
theorem sc_need_letters : FnScope ["word", "letters", "at", "letter"] ["word", "letters"] (defScope (top 24)) := ⟨rfl, rfl, rfl, by decide +kernel, rfl, by decide +kernel, by decide +kernel⟩
theorem sc_Plan_letters : FnScope ["self"] ["self"] (defScope (mth (top 21) 3)) := ⟨rfl, rfl, rfl, by decide +kernel, rfl, by decide +kernel, by decide +kernel⟩
theorem sc__law_along : FnScope ["_law_parts_here", "_law_row_here", "_law_names_here", "_law_ends", "_law_halls", "_law_here", "_law_gained", "_law_letter", "_law_door"] ["_law_parts_here", "_law_row_here"] (defScope (top 32)) := ⟨rfl, rfl, rfl, by decide +kernel, rfl, by decide +kernel, by decide +kernel⟩
theorem sc__law_noted : FnScope ["_law_hidden_here", "_law_calls", "_law_row_here"] ["_law_hidden_here", "_law_calls", "_law_row_here"] (defScope (top 36)) := ⟨rfl, rfl, rfl, by decide +kernel, rfl, by decide +kernel, by decide +kernel⟩
theorem sc__law_maker_lam : NdefX.NScope ["_law_row_here", "_law_calls", "_law_hidden_here"] ["_law_row_here"] ct__law_maker_lam.fr ct__law_maker_lam.scope := NdefX.nscope_by (by decide +kernel)
theorem sc_Plan_signs : FnScope ["self"] ["self"] (defScope (mth (top 21) 4)) := ⟨rfl, rfl, rfl, by decide +kernel, rfl, by decide +kernel, by decide +kernel⟩
theorem sc_Asker_is_answer : FnScope ["self", "word", "signs", "ahead", "sign"] ["self", "word", "signs"] (defScope (mth (top 25) 5)) := ⟨rfl, rfl, rfl, by decide +kernel, rfl, by decide +kernel, by decide +kernel⟩
theorem sc_BadBox___init__ : FnScope ["self", "word"] ["self", "word"] (defScope (mth (top 7) 0)) := ⟨rfl, rfl, rfl, by decide +kernel, rfl, by decide +kernel, by decide +kernel⟩
theorem sc_Asker_ask : FnScope ["self", "word", "signs", "answer_for", "at", "sign"] ["self", "word"] (defScope (mth (top 25) 6)) := ⟨rfl, rfl, rfl, by decide +kernel, rfl, by decide +kernel, by decide +kernel⟩
theorem sc__law_refused : FnScope ["_law_one", "_law_thing_here", "_law_caught", "e"] ["_law_one", "_law_thing_here"] (defScope (top 40)) := ⟨rfl, rfl, rfl, by decide +kernel, rfl, by decide +kernel, by decide +kernel⟩
theorem sc_law : FnScope ["_law_script", "_law_state", "_law_parts_here", "_law_calls", "_law_hidden_here", "_law_one", "_law_turn", "_law_thing_here", "_law_due", "_law_many_calls", "_law_odd"] ["_law_script"] (defScope (top 41)) := ⟨rfl, rfl, rfl, by decide +kernel, rfl, by decide +kernel, by decide +kernel⟩
section
variable {base : Heap} {mg : Str → Option Value} {K : PySem.W.Frag} {P : Program} {w : World}
def Ok__law_begin (P : Program) (w : World) (K : PySem.W.Frag) (mg : Str → Option Value) (base : Heap) : Prop := ∃ fd, FnOk P w K mg base (L2.CX P w) 1 (He.ga K "_law_begin") fd ["_law_script"] (liftSp K (sp__law_begin K)) ∧ Binds K fd ["_law_script"] []
def Ok__law_draw (P : Program) (w : World) (K : PySem.W.Frag) (mg : Str → Option Value) (base : Heap) : Prop := ∃ fd, FnOk P w K mg base (L2.CX P w) 1 (He.ga K "_law_draw") fd ["_law_state", "_law_size"] (liftSp K (sp__law_draw K)) ∧ Binds K fd ["_law_state", "_law_size"] []
structure Rw (P : Program) (w : World) (K : PySem.W.Frag) (mg : Str → Option Value) (base : Heap) : Prop where
  _law_begin : Ok__law_begin P w K mg base
  _law_draw : Ok__law_draw P w K mg base
  tb__law_maker : LamX.TabB base mg (codF K "_law_maker") (tabF K "_law_maker")
theorem ok__law_begin (Z : Fx K mg) (L : Lw K) (R : Rw P w K mg base) : Ok__law_begin P w K mg base := R._law_begin
theorem ok__law_draw (Z : Fx K mg) (L : Lw K) (R : Rw P w K mg base) : Ok__law_draw P w K mg base := R._law_draw
def Ok__law_pick (P : Program) (w : World) (K : PySem.W.Frag) (mg : Str → Option Value) (base : Heap) : Prop := ∃ fd, FnOk P w K mg base (L2.CX P w) 2 (He.ga K "_law_pick") fd ["_law_state", "_law_some"] (liftSp K (sp__law_pick K)) ∧ Binds K fd ["_law_state", "_law_some"] []
theorem ok__law_pick (Z : Fx K mg) (L : Lw K) (R : Rw P w K mg base) : Ok__law_pick P w K mg base := by
  obtain ⟨fd, F⟩ := Z.d__law_pick
  obtain ⟨fd__law_draw, F__law_draw, B__law_draw⟩ := ok__law_draw (P := P) (w := w) (base := base) Z L R
  have kp__law_draw : PySem.W.keepIn K (.ref (He.ga K "_law_draw")) = true := Z.d__law_draw.choose_spec.kp
  refine ⟨fd, fn_mkD F sc__law_pick len2 (fun X Δ M ds Q E cx xo hW h => ?_), F.bindsN fun _ _ _ _ _ _ us hl => match us, hl with | [_, _], _ => rfl⟩
  obtain ⟨cdv, A, outer, s, H, Ev, eX, hr⟩ := cx
  subst eX
  have hu := hu_of hr
  have hu65 := hu65_of hr
  have hu1 := hu1_of hr
  refine ⟨_, rd__law_pick K Δ.Wd, (pdss_one (pds_ret (pd_ix (pd_nrm (pd_var (pv 1))) (pd_call F__law_draw (hr.mono (by decide)) rfl Z.g__law_draw kp__law_draw B__law_draw xo (pda_cons (pd_var (pv 0)) (pda_cons (pd_callB call_lenA snd_len rfl Z.b_len (by decide +kernel) (pda_cons (pd_nrm (pd_var (pv 1))) (pda_nil))) (pda_nil))))))), ?_⟩
  rw [hW]
  exact L._law_pick h
def Ok__law_names (P : Program) (w : World) (K : PySem.W.Frag) (mg : Str → Option Value) (base : Heap) : Prop := ∃ fd, FnOk P w K mg base (L2.CX P w) 3 (He.ga K "_law_names") fd ["_law_state", "_law_size"] (liftSp K (sp__law_names K)) ∧ Binds K fd ["_law_state", "_law_size"] []
theorem ok__law_names (Z : Fx K mg) (L : Lw K) (R : Rw P w K mg base) : Ok__law_names P w K mg base := by
  obtain ⟨fd, F⟩ := Z.d__law_names
  obtain ⟨fd__law_pick, F__law_pick, B__law_pick⟩ := ok__law_pick (P := P) (w := w) (base := base) Z L R
  have kp__law_pick : PySem.W.keepIn K (.ref (He.ga K "_law_pick")) = true := Z.d__law_pick.choose_spec.kp
  obtain ⟨fd__law_draw, F__law_draw, B__law_draw⟩ := ok__law_draw (P := P) (w := w) (base := base) Z L R
  have kp__law_draw : PySem.W.keepIn K (.ref (He.ga K "_law_draw")) = true := Z.d__law_draw.choose_spec.kp
  refine ⟨fd, fn_mkD F sc__law_names len2 (fun X Δ M ds Q E cx xo hW h => ?_), F.bindsN fun _ _ _ _ _ _ us hl => match us, hl with | [_, _], _ => rfl⟩
  obtain ⟨cdv, A, outer, s, H, Ev, eX, hr⟩ := cx
  subst eX
  have hu := hu_of hr
  have hu65 := hu65_of hr
  have hu1 := hu1_of hr
  refine ⟨_, rd__law_names K Δ.Wd, (pdss_cons (pds_set (i := 2) sc__law_names.nd rfl (Or.inl rfl) (pd_lst (pda_cons (pd_str) (pda_cons (pd_str) (pda_cons (pd_str) (pda_cons (pd_str) (pda_cons (pd_str) (pda_cons (pd_str) (pda_cons (pd_str) (pda_cons (pd_str) (pda_cons (pd_str) (pda_cons (pd_str) (pda_cons (pd_str) (pda_cons (pd_str) (pda_cons (pd_str) (pda_cons (pd_str) (pda_nil)))))))))))))))))
  (pdss_cons (pds_set (i := 3) sc__law_names.nd rfl (Or.inr rfl) (pd_lstM (pda_nil)))
  (pdss_cons (pds_while (passes_of rfl) (pdt_cmp op_ltA snd_lt (pd_nrm (pd_callB call_lenA snd_len rfl Z.b_len (by decide +kernel) (pda_cons (pd_nrm (pd_var (pv 3))) (pda_nil)))) (pd_nrm (pd_var (pv 1))) (by rfl)) (pdss_cons (pds_set (i := 4) sc__law_names.nd rfl (Or.inr rfl) (pd_call F__law_pick (hr.mono (by decide)) rfl Z.g__law_pick kp__law_pick B__law_pick xo (pda_cons (pd_var (pv 0)) (pda_cons (pd_var (pv 2)) (pda_nil)))))
  (pdss_cons (pds_if (pdt_cmp (op_eqD hu) snd_eq (pd_nrm (pd_call F__law_draw (hr.mono (by decide)) rfl Z.g__law_draw kp__law_draw B__law_draw xo (pda_cons (pd_var (pv 0)) (pda_cons (pd_int) (pda_nil))))) (pd_nrm (pd_int)) (by rfl)) (pdss_cons (pds_set (i := 5) sc__law_names.nd rfl (Or.inr rfl) (pd_str))
  (pdss_one (pds_set (i := 4) sc__law_names.nd rfl (Or.inr rfl) (pd_join (pd_str) (pd_nrm (pd_lcX rfl sc__law_names.nd (pdi_rng1 rfl Z.b_range (pda_cons (pd_nrm (pd_op op_addA snd_add (pd_nrm (pd_int)) (pd_nrm (pd_call F__law_draw (hr.mono (by decide)) rfl Z.g__law_draw kp__law_draw B__law_draw xo (pda_cons (pd_var (pv 0)) (pda_cons (pd_int) (pda_nil))))))) (pda_nil))) (own := [("_law_k", 7)]) (blkB_ok (by kernel_rfl)) (fun _ _ _ _ _ _ => ⟨_, (pdgw_name (pg_name sc__law_names.nd (i := 7) rfl (Or.inl rfl)) (by decide))⟩) (fun _ _ _ _ _ _ => ⟨_, pdts_nil⟩) (fun _ _ _ _ _ _ => ⟨_, (pd_call F__law_pick (hr.mono (by decide)) rfl Z.g__law_pick kp__law_pick B__law_pick xok_blk (pda_cons (pd_var (pv 0)) (pda_cons (pd_var (pv 5)) (pda_nil))))⟩))))))) pdss_nil)
  (pdss_cons (pds_set (i := 6) sc__law_names.nd rfl (Or.inl rfl) (pd_op op_addA snd_add (pd_nrm (pd_lst (pda_cons (pd_var (pv 4)) (pda_nil)))) (pd_nrm (pd_lcX rfl sc__law_names.nd (pdi_seq (pd_nrm (pd_str))) (own := [("_law_sign", 8)]) (blkB_ok (by kernel_rfl)) (fun _ _ _ _ _ _ => ⟨_, (pdgw_name (pg_name sc__law_names.nd (i := 8) rfl (Or.inl rfl)) (by decide))⟩) (fun _ _ _ _ _ _ => ⟨_, pdts_nil⟩) (fun _ _ _ _ _ _ => ⟨_, (pd_op op_addA snd_add (pd_nrm (pd_slice (pd_nrm (pd_var (pv 4))) pdo_none (pdo_some (pd_int)))) (pd_nrm (pd_var (pv 8))))⟩)))))
  (pdss_one (pds_expr (pd_app (pd_var (pv 3)) (pd_ix (pd_nrm (pd_lcX rfl sc__law_names.nd (pdi_seq (pd_nrm (pd_var (pv 6)))) (own := [("_law_one", 9)]) (blkB_ok (by kernel_rfl)) (fun _ _ _ _ _ _ => ⟨_, (pdgw_name (pg_name sc__law_names.nd (i := 9) rfl (Or.inl rfl)) (by decide))⟩) (fun _ _ _ _ _ _ => ⟨_, (pdts_one (pdt_cmp op_notInA (snd_in (neg := true)) (pd_nrm (pd_var (pv 9))) (pd_nrm (pd_var (pv 3))) (by rfl)))⟩) (fun _ _ _ _ _ _ => ⟨_, (pd_var (pv 9))⟩))) (pd_int)))))))))
  (pdss_one (pds_ret (pd_callTy call_tupN snd_tupN rfl Z.b_tuple (by decide +kernel) (pda_cons (pd_nrm (pd_callB cr_sortedS snd_sortS rfl Z.b_sorted (by decide +kernel) (pda_cons (pd_nrm (pd_var (pv 3))) (pda_nil)))) (pda_nil)))))))), ?_⟩
  rw [hW]
  exact L._law_names h
def Ok__law_parts (P : Program) (w : World) (K : PySem.W.Frag) (mg : Str → Option Value) (base : Heap) : Prop := ∃ fd, FnOk P w K mg base (L2.CX P w) 4 (He.ga K "_law_parts") fd ["_law_state", "_law_most", "_law_letters_many", "_law_open_in"] (liftSp K (sp__law_parts K)) ∧ Binds K fd ["_law_state", "_law_most", "_law_letters_many", "_law_open_in"] []
theorem ok__law_parts (Z : Fx K mg) (L : Lw K) (R : Rw P w K mg base) : Ok__law_parts P w K mg base := by
  obtain ⟨fd, F⟩ := Z.d__law_parts
  obtain ⟨fd__law_names, F__law_names, B__law_names⟩ := ok__law_names (P := P) (w := w) (base := base) Z L R
  have kp__law_names : PySem.W.keepIn K (.ref (He.ga K "_law_names")) = true := Z.d__law_names.choose_spec.kp
  obtain ⟨fd__law_draw, F__law_draw, B__law_draw⟩ := ok__law_draw (P := P) (w := w) (base := base) Z L R
  have kp__law_draw : PySem.W.keepIn K (.ref (He.ga K "_law_draw")) = true := Z.d__law_draw.choose_spec.kp
  obtain ⟨fd__law_pick, F__law_pick, B__law_pick⟩ := ok__law_pick (P := P) (w := w) (base := base) Z L R
  have kp__law_pick : PySem.W.keepIn K (.ref (He.ga K "_law_pick")) = true := Z.d__law_pick.choose_spec.kp
  refine ⟨fd, fn_mkD F sc__law_parts len4 (fun X Δ M ds Q E cx xo hW h => ?_), F.bindsN fun _ _ _ _ _ _ us hl => match us, hl with | [_, _, _, _], _ => rfl⟩
  obtain ⟨cdv, A, outer, s, H, Ev, eX, hr⟩ := cx
  subst eX
  have hu := hu_of hr
  have hu65 := hu65_of hr
  have hu1 := hu1_of hr
  refine ⟨_, rd__law_parts K Δ.Wd, (pdss_cons (pds_par (i := 4) (j := 5) rfl sc__law_parts.nd rfl rfl (by decide) rfl rfl (pd_call F__law_names (hr.mono (by decide)) rfl Z.g__law_names kp__law_names B__law_names xo (pda_cons (pd_var (pv 0)) (pda_cons (pd_var (pv 2)) (pda_nil)))) (pd_call F__law_names (hr.mono (by decide)) rfl Z.g__law_names kp__law_names B__law_names xo (pda_cons (pd_var (pv 0)) (pda_cons (pd_op op_addA snd_add (pd_nrm (pd_int)) (pd_nrm (pd_op op_fdiv snd_div (pd_nrm (pd_call F__law_draw (hr.mono (by decide)) rfl Z.g__law_draw kp__law_draw B__law_draw xo (pda_cons (pd_var (pv 0)) (pda_cons (pd_int) (pda_nil))))) (pd_nrm (pd_int))))) (pda_nil)))))
  (pdss_cons (pds_set (i := 6) sc__law_parts.nd rfl (Or.inl rfl) (pd_op op_addA snd_add (pd_nrm (pd_int)) (pd_nrm (pd_call F__law_draw (hr.mono (by decide)) rfl Z.g__law_draw kp__law_draw B__law_draw xo (pda_cons (pd_var (pv 0)) (pda_cons (pd_var (pv 1)) (pda_nil)))))))
  (pdss_cons (pds_set (i := 7) sc__law_parts.nd rfl (Or.inl rfl) (pd_lstM (pda_nil)))
  (pdss_cons (pds_for (passes_of rfl) rfl (pdi_rng1 rfl Z.b_range (pda_cons (pd_nrm (pd_var (pv 6))) (pda_nil))) (pdg_name (pg_name sc__law_parts.nd (i := 8) rfl (Or.inl rfl))) (pdss_cons (pds_set (i := 9) sc__law_parts.nd rfl (Or.inl rfl) (pd_lstM (pda_nil)))
  (pdss_cons (pds_for (passes_of rfl) rfl (pdi_rng1 rfl Z.b_range (pda_cons (pd_nrm (pd_var (pv 2))) (pda_nil))) (pdg_name (pg_name sc__law_parts.nd (i := 10) rfl (Or.inl rfl))) (pdss_cons (pds_set (i := 11) sc__law_parts.nd rfl (Or.inl rfl) (pd_tup (pda_cons (pd_ix (pd_nrm (pd_var (pv 5))) (pd_op op_mod snd_mod (pd_nrm (pd_call F__law_draw (hr.mono (by decide)) rfl Z.g__law_draw kp__law_draw B__law_draw xo (pda_cons (pd_var (pv 0)) (pda_cons (pd_int) (pda_nil))))) (pd_nrm (pd_callB call_lenA snd_len rfl Z.b_len (by decide +kernel) (pda_cons (pd_nrm (pd_var (pv 5))) (pda_nil)))))) (pda_cons (pd_call F__law_pick (hr.mono (by decide)) rfl Z.g__law_pick kp__law_pick B__law_pick xo (pda_cons (pd_var (pv 0)) (pda_cons (pd_lst (pda_cons (pd_op op_mod snd_mod (pd_nrm (pd_op op_addA snd_add (pd_nrm (pd_var (pv 8))) (pd_nrm (pd_int)))) (pd_nrm (pd_var (pv 6)))) (pda_cons (pd_call F__law_draw (hr.mono (by decide)) rfl Z.g__law_draw kp__law_draw B__law_draw xo (pda_cons (pd_var (pv 0)) (pda_cons (pd_var (pv 6)) (pda_nil)))) (pda_nil)))) (pda_nil)))) (pda_nil)))))
  (pdss_one (pds_expr (pd_app (pd_var (pv 9)) (pd_ifExp (pdt_w (pdw_and (pdt_cmp op_gt snd_int (pd_nrm (pd_var (pv 3))) (pd_nrm (pd_int)) (by rfl)) (pdw_and1 (pdt_cmp (op_eqD hu) snd_eq (pd_nrm (pd_call F__law_draw (hr.mono (by decide)) rfl Z.g__law_draw kp__law_draw B__law_draw xo (pda_cons (pd_var (pv 0)) (pda_cons (pd_var (pv 3)) (pda_nil))))) (pd_nrm (pd_int)) (by rfl))))) (pd_non) (pd_var (pv 11))))))))
  (pdss_one (pds_expr (pd_app (pd_var (pv 7)) (pd_callTy call_tuple_of snd_tup rfl Z.b_tuple (by decide +kernel) (pda_cons (pd_nrm (pd_var (pv 9))) (pda_nil)))))))))
  (pdss_one (pds_ret (pd_tup (pda_cons (pd_var (pv 4)) (pda_cons (pd_var (pv 5)) (pda_cons (pd_callTy call_tuple_of snd_tup rfl Z.b_tuple (by decide +kernel) (pda_cons (pd_nrm (pd_var (pv 7))) (pda_nil))) (pda_nil))))))))))), ?_⟩
  rw [hW]
  exact L._law_parts h
def Ok__law_hidden (P : Program) (w : World) (K : PySem.W.Frag) (mg : Str → Option Value) (base : Heap) : Prop := ∃ fd, FnOk P w K mg base (L2.CX P w) 3 (He.ga K "_law_hidden") fd ["_law_state", "_law_parts_here", "_law_most"] (liftSp K (sp__law_hidden K)) ∧ Binds K fd ["_law_state", "_law_parts_here", "_law_most"] []
theorem ok__law_hidden (Z : Fx K mg) (L : Lw K) (R : Rw P w K mg base) : Ok__law_hidden P w K mg base := by
  obtain ⟨fd, F⟩ := Z.d__law_hidden
  obtain ⟨fd__law_draw, F__law_draw, B__law_draw⟩ := ok__law_draw (P := P) (w := w) (base := base) Z L R
  have kp__law_draw : PySem.W.keepIn K (.ref (He.ga K "_law_draw")) = true := Z.d__law_draw.choose_spec.kp
  obtain ⟨fd__law_pick, F__law_pick, B__law_pick⟩ := ok__law_pick (P := P) (w := w) (base := base) Z L R
  have kp__law_pick : PySem.W.keepIn K (.ref (He.ga K "_law_pick")) = true := Z.d__law_pick.choose_spec.kp
  refine ⟨fd, fn_mkD F sc__law_hidden len3 (fun X Δ M ds Q E cx xo hW h => ?_), F.bindsN fun _ _ _ _ _ _ us hl => match us, hl with | [_, _, _], _ => rfl⟩
  obtain ⟨cdv, A, outer, s, H, Ev, eX, hr⟩ := cx
  subst eX
  have hu := hu_of hr
  have hu65 := hu65_of hr
  have hu1 := hu1_of hr
  refine ⟨_, rd__law_hidden K Δ.Wd, (pdss_cons (pds_asg (pd_nrm (pd_var (pv 1))) (pdg_tup rfl (pdgs_cons (pdg_name (pg_name sc__law_hidden.nd (i := 3) rfl (Or.inl rfl))) (pdgs_cons (pdg_name (pg_name sc__law_hidden.nd (i := 4) rfl (Or.inl rfl))) (pdgs_cons (pdg_name (pg_name sc__law_hidden.nd (i := 5) rfl (Or.inl rfl))) (pdgs_nil))))))
  (pdss_cons (pds_set (i := 6) sc__law_hidden.nd rfl (Or.inl rfl) (pd_op op_addA snd_add (pd_nrm (pd_int)) (pd_nrm (pd_call F__law_draw (hr.mono (by decide)) rfl Z.g__law_draw kp__law_draw B__law_draw xo (pda_cons (pd_var (pv 0)) (pda_cons (pd_var (pv 2)) (pda_nil)))))))
  (pdss_cons (pds_if (pdt_cmp (op_eqD hu) snd_eq (pd_nrm (pd_call F__law_draw (hr.mono (by decide)) rfl Z.g__law_draw kp__law_draw B__law_draw xo (pda_cons (pd_var (pv 0)) (pda_cons (pd_int) (pda_nil))))) (pd_nrm (pd_int)) (by rfl)) (pdss_one (pds_set (i := 6) sc__law_hidden.nd rfl (Or.inl rfl) (pd_callB (call_min2 rfl) snd_min rfl Z.b_min (by decide +kernel) (pda_cons (pd_nrm (pd_var (pv 6))) (pda_cons (pd_nrm (pd_callB call_lenA snd_len rfl Z.b_len (by decide +kernel) (pda_cons (pd_nrm (pd_var (pv 5))) (pda_nil)))) (pda_nil)))))) pdss_nil)
  (pdss_cons (pds_set (i := 7) sc__law_hidden.nd rfl (Or.inl rfl) (pd_lstM (pda_nil)))
  (pdss_cons (pds_for (passes_of rfl) rfl (pdi_rng1 rfl Z.b_range (pda_cons (pd_nrm (pd_var (pv 6))) (pda_nil))) (pdg_name (pg_name sc__law_hidden.nd (i := 8) rfl (Or.inl rfl))) (pdss_cons (pds_set (i := 9) sc__law_hidden.nd rfl (Or.inl rfl) (pd_lstM (pda_nil)))
  (pdss_cons (pds_for (passes_of rfl) rfl (pdi_rng1 rfl Z.b_range (pda_cons (pd_nrm (pd_callB call_lenA snd_len rfl Z.b_len (by decide +kernel) (pda_cons (pd_nrm (pd_var (pv 3))) (pda_nil)))) (pda_nil))) (pdg_name (pg_name sc__law_hidden.nd (i := 10) rfl (Or.inl rfl))) (pdss_cons (pds_set (i := 11) sc__law_hidden.nd rfl (Or.inl rfl) (pd_ix (pd_nrm (pd_ix (pd_nrm (pd_var (pv 5))) (pd_op op_mod snd_mod (pd_nrm (pd_var (pv 8))) (pd_nrm (pd_callB call_lenA snd_len rfl Z.b_len (by decide +kernel) (pda_cons (pd_nrm (pd_var (pv 5))) (pda_nil))))))) (pd_var (pv 10))))
  (pdss_cons (pds_if (pdt_w (pdw_or (pdt_cmp op_isN snd_is (pd_nrm (pd_var (pv 11))) (pd_nrm (pd_non)) (by rfl)) (pdw_or1 (pdt_cmp (op_eqD hu) snd_eq (pd_nrm (pd_call F__law_draw (hr.mono (by decide)) rfl Z.g__law_draw kp__law_draw B__law_draw xo (pda_cons (pd_var (pv 0)) (pda_cons (pd_int) (pda_nil))))) (pd_nrm (pd_int)) (by rfl))))) (pdss_one (pds_set (i := 11) sc__law_hidden.nd rfl (Or.inl rfl) (pd_tup (pda_cons (pd_call F__law_pick (hr.mono (by decide)) rfl Z.g__law_pick kp__law_pick B__law_pick xo (pda_cons (pd_var (pv 0)) (pda_cons (pd_var (pv 4)) (pda_nil)))) (pda_cons (pd_call F__law_draw (hr.mono (by decide)) rfl Z.g__law_draw kp__law_draw B__law_draw xo (pda_cons (pd_var (pv 0)) (pda_cons (pd_var (pv 6)) (pda_nil)))) (pda_nil)))))) pdss_nil)
  (pdss_cons (pds_set (i := 12) sc__law_hidden.nd rfl (Or.inl rfl) (pd_op op_mod snd_mod (pd_nrm (pd_ix (pd_nrm (pd_var (pv 11))) (pd_int))) (pd_nrm (pd_var (pv 6)))))
  (pdss_cons (pds_if (pdt_w (pdw_and (pdt_cmp op_gt snd_int (pd_nrm (pd_var (pv 6))) (pd_nrm (pd_callB call_lenA snd_len rfl Z.b_len (by decide +kernel) (pda_cons (pd_nrm (pd_var (pv 5))) (pda_nil)))) (by rfl)) (pdw_and (pdt_cmp op_ltA snd_lt (pd_nrm (pd_op op_addA snd_add (pd_nrm (pd_var (pv 12))) (pd_nrm (pd_callB call_lenA snd_len rfl Z.b_len (by decide +kernel) (pda_cons (pd_nrm (pd_var (pv 5))) (pda_nil)))))) (pd_nrm (pd_var (pv 6))) (by rfl)) (pdw_and1 (pdt_cmp (op_eqD hu) snd_eq (pd_nrm (pd_call F__law_draw (hr.mono (by decide)) rfl Z.g__law_draw kp__law_draw B__law_draw xo (pda_cons (pd_var (pv 0)) (pda_cons (pd_int) (pda_nil))))) (pd_nrm (pd_int)) (by rfl)))))) (pdss_one (pds_set (i := 12) sc__law_hidden.nd rfl (Or.inl rfl) (pd_op op_addA snd_add (pd_nrm (pd_var (pv 12))) (pd_nrm (pd_callB call_lenA snd_len rfl Z.b_len (by decide +kernel) (pda_cons (pd_nrm (pd_var (pv 5))) (pda_nil))))))) pdss_nil)
  (pdss_one (pds_expr (pd_app (pd_var (pv 9)) (pd_tup (pda_cons (pd_ix (pd_nrm (pd_var (pv 11))) (pd_int)) (pda_cons (pd_var (pv 12)) (pda_nil))))))))))))
  (pdss_one (pds_expr (pd_app (pd_var (pv 7)) (pd_callTy call_tuple_of snd_tup rfl Z.b_tuple (by decide +kernel) (pda_cons (pd_nrm (pd_var (pv 9))) (pda_nil)))))))))
  (pdss_one (pds_ret (pd_tup (pda_cons (pd_var (pv 3)) (pda_cons (pd_var (pv 4)) (pda_cons (pd_callTy call_tuple_of snd_tup rfl Z.b_tuple (by decide +kernel) (pda_cons (pd_nrm (pd_var (pv 7))) (pda_nil))) (pda_nil)))))))))))), ?_⟩
  rw [hW]
  exact L._law_hidden h
def Ok_Asker___init__ (P : Program) (w : World) (K : PySem.W.Frag) (mg : Str → Option Value) (base : Heap) : Prop := ∃ fd, FnOk P w K mg base (L2.CX P w) 1 (He.ma K (He.ga K "Asker") "__init__") fd ["self", "plan", "box"] (liftSp K (sp_Asker___init__ K w)) ∧ Binds K fd ["self", "plan", "box"] []
theorem ok_Asker___init__ (Z : Fx K mg) (L : Lw K) (R : Rw P w K mg base) : Ok_Asker___init__ P w K mg base := by
  obtain ⟨fd, F⟩ := Z.d_Asker___init__
  refine ⟨fd, fn_mkD F sc_Asker___init__ len3 (fun X Δ M ds Q E cx xo hW h => ?_), F.bindsN fun _ _ _ _ _ _ us hl => match us, hl with | [_, _, _], _ => rfl⟩
  obtain ⟨cdv, A, outer, s, H, Ev, eX, hr⟩ := cx
  subst eX
  have hu := hu_of hr
  have hu65 := hu65_of hr
  have hu1 := hu1_of hr
  refine ⟨_, rd_Asker___init__ K w Δ.Wd, (pdss_cons (pds_fld (pd_var (pv 0)) (pd_var (pv 1)) Z.cl_Asker Z.na_Asker_model)
  (pdss_cons (pds_fld (pd_var (pv 0)) (pd_var (pv 2)) Z.cl_Asker Z.na_Asker_answers_by)
  (pdss_cons (pds_fld (pd_var (pv 0)) pd_xnew Z.cl_Asker Z.na_Asker_last_told)
  (pdss_one (pds_fld (pd_var (pv 0)) (pd_lstM (pda_nil)) Z.cl_Asker Z.na_Asker_rows))))), ?_⟩
  rw [hW]
  exact L.Asker___init__ h
def Ok__law_maker (P : Program) (w : World) (K : PySem.W.Frag) (mg : Str → Option Value) (base : Heap) : Prop := ∃ fd, FnOk P w K mg base (L2.CX P w) 1 (He.ga K "_law_maker") fd ["_law_hidden_here", "_law_calls"] (liftSp K (sp__law_maker K)) ∧ Binds K fd ["_law_hidden_here", "_law_calls"] []
theorem ok__law_maker (Z : Fx K mg) (L : Lw K) (R : Rw P w K mg base) : Ok__law_maker P w K mg base := by
  obtain ⟨fd, F⟩ := Z.d__law_maker
  exact ⟨fd, fn_mkLam (lp := lamArgs ((defBody (top 35)).getD 0 (.Pass ⟨0, 0, 0, 0⟩))) (lb := lamBody ((defBody (top 35)).getD 0 (.Pass ⟨0, 0, 0, 0⟩))) (lsc := lamScope ((defBody (top 35)).getD 0 (.Pass ⟨0, 0, 0, 0⟩))) (lpos := ⟨219, 11, 219, 88⟩) (rpos := ⟨219, 4, 219, 88⟩) (body := defBody (top 35)) (by kernel_rfl) F sc__law_maker len2 R.tb__law_maker (fun _ _ _ => rfl) (fun _ => rfl) (capB_by (by decide +kernel)) fun ds M Q E h => L._law_maker h, F.bindsN fun _ _ _ _ _ _ us hl => match us, hl with | [_, _], _ => rfl⟩
def Ok_is_name (P : Program) (w : World) (K : PySem.W.Frag) (mg : Str → Option Value) (base : Heap) : Prop := ∃ fd, FnOk P w K mg base (L2.CX P w) 1 (He.ga K "is_name") fd ["thing"] (liftSp K (sp_is_name K)) ∧ Binds K fd ["thing"] []
theorem ok_is_name (Z : Fx K mg) (L : Lw K) (R : Rw P w K mg base) : Ok_is_name P w K mg base := by
  obtain ⟨fd, F⟩ := Z.d_is_name
  refine ⟨fd, fn_mkD F sc_is_name len1 (fun X Δ M ds Q E cx xo hW h => ?_), F.bindsN fun _ _ _ _ _ _ us hl => match us, hl with | [_], _ => rfl⟩
  obtain ⟨cdv, A, outer, s, H, Ev, eX, hr⟩ := cx
  subst eX
  have hu := hu_of hr
  have hu65 := hu65_of hr
  have hu1 := hu1_of hr
  refine ⟨_, rd_is_name K Δ.Wd, (pdss_one (pds_ret (pd_and (pd_callB call_isi snd_isi rfl Z.b_isinstance (by decide +kernel) (pda_cons (pd_var (pv 0)) (pda_cons (pd_bltn rfl Z.b_str (by decide +kernel)) (pda_nil)))) (pd_and (pd_chain op_le snd_int op_le snd_int (pd_nrm (pd_int)) (pd_nrm (pd_callB call_lenA snd_len rfl Z.b_len (by decide +kernel) (pda_cons (pd_nrm (pd_var (pv 0))) (pda_nil)))) (pd_nrm (pd_globI rfl Z.i_MOST_NAME.choose_spec))) (pd_one (pd_callB (cr_all rfl) snd_all rfl Z.b_all (by decide +kernel) (pda_cons (pd_nrm (pd_lcX rfl sc_is_name.nd (pdi_seq (pd_nrm (pd_var (pv 0)))) (own := [("sign", 1)]) (blkB_ok (by kernel_rfl)) (fun _ _ _ _ _ _ => ⟨_, (pdgw_name (pg_name sc_is_name.nd (i := 1) rfl (Or.inl rfl)) (by decide))⟩) (fun _ _ _ _ _ _ => ⟨_, pdts_nil⟩) (fun _ _ _ _ _ _ => ⟨_, (pd_cmp op_inA (snd_in (neg := false)) (pd_nrm (pd_var (pv 1))) (pd_nrm (pd_globS rfl Z.s_SMALL.choose_spec)) (by rfl))⟩))) (pda_nil)))))))), ?_⟩
  rw [hW]
  exact L.is_name h
def Ok_are_names (P : Program) (w : World) (K : PySem.W.Frag) (mg : Str → Option Value) (base : Heap) : Prop := ∃ fd, FnOk P w K mg base (L2.CX P w) 2 (He.ga K "are_names") fd ["thing", "least", "most"] (liftSp K (sp_are_names K)) ∧ Binds K fd ["thing", "least", "most"] []
theorem ok_are_names (Z : Fx K mg) (L : Lw K) (R : Rw P w K mg base) : Ok_are_names P w K mg base := by
  obtain ⟨fd, F⟩ := Z.d_are_names
  obtain ⟨fd_is_name, F_is_name, B_is_name⟩ := ok_is_name (P := P) (w := w) (base := base) Z L R
  have kp_is_name : PySem.W.keepIn K (.ref (He.ga K "is_name")) = true := Z.d_is_name.choose_spec.kp
  refine ⟨fd, fn_mkD F sc_are_names len3 (fun X Δ M ds Q E cx xo hW h => ?_), F.bindsN fun _ _ _ _ _ _ us hl => match us, hl with | [_, _, _], _ => rfl⟩
  obtain ⟨cdv, A, outer, s, H, Ev, eX, hr⟩ := cx
  subst eX
  have hu := hu_of hr
  have hu65 := hu65_of hr
  have hu1 := hu1_of hr
  refine ⟨_, rd_are_names K Δ.Wd, (pdss_cons (pds_if (pdt_w (pdw_or (pdt_not (pdt_tru (pd_nrm (pd_callB call_isi snd_isi rfl Z.b_isinstance (by decide +kernel) (pda_cons (pd_var (pv 0)) (pda_cons (pd_bltn rfl Z.b_tuple (by decide +kernel)) (pda_nil))))))) (pdw_or (pdt_not (pdt_chain op_le snd_int op_le snd_int (pd_nrm (pd_var (pv 1))) (pd_nrm (pd_callB call_lenA snd_len rfl Z.b_len (by decide +kernel) (pda_cons (pd_nrm (pd_var (pv 0))) (pda_nil)))) (pd_nrm (pd_var (pv 2))))) (pdw_or1 (pdt_not (pdt_tru (pd_nrm (pd_callB (cr_all rfl) snd_all rfl Z.b_all (by decide +kernel) (pda_cons (pd_nrm (pd_lcX rfl sc_are_names.nd (pdi_seq (pd_nrm (pd_var (pv 0)))) (own := [("one", 3)]) (blkB_ok (by kernel_rfl)) (fun _ _ _ _ _ _ => ⟨_, (pdgw_name (pg_name sc_are_names.nd (i := 3) rfl (Or.inl rfl)) (by decide))⟩) (fun _ _ _ _ _ _ => ⟨_, pdts_nil⟩) (fun _ _ _ _ _ _ => ⟨_, (pd_call F_is_name (hr.mono (by decide)) rfl Z.g_is_name kp_is_name B_is_name xok_blk (pda_cons (pd_var (pv 3)) (pda_nil)))⟩))) (pda_nil)))))))))) (pdss_one (pds_ret (pd_bl))) pdss_nil)
  (pdss_one (pds_ret (pd_callB (cr_all rfl) snd_all rfl Z.b_all (by decide +kernel) (pda_cons (pd_nrm (pd_lcX rfl sc_are_names.nd (pdi_zip2 rfl Z.b_zip (pda_cons (pd_nrm (pd_var (pv 0))) (pda_cons (pd_nrm (pd_slice (pd_nrm (pd_var (pv 0))) (pdo_some (pd_int)) pdo_none)) (pda_nil)))) (own := [("one", 3), ("other", 4)]) (blkB_ok (by kernel_rfl)) (fun _ _ _ _ _ _ => ⟨_, (pdgw_tup rfl (pdgws_cons (pdgw_name (pg_name sc_are_names.nd (i := 3) rfl (Or.inl rfl)) (by decide)) (pdgws_cons (pdgw_name (pg_name sc_are_names.nd (i := 4) rfl (Or.inl rfl)) (by decide)) (pdgws_nil))))⟩) (fun _ _ _ _ _ _ => ⟨_, pdts_nil⟩) (fun _ _ _ _ _ _ => ⟨_, (pd_cmp op_ltA snd_lt (pd_nrm (pd_var (pv 3))) (pd_nrm (pd_var (pv 4))) (by rfl))⟩))) (pda_nil)))))), ?_⟩
  rw [hW]
  exact L.are_names h
def Ok_is_count (P : Program) (w : World) (K : PySem.W.Frag) (mg : Str → Option Value) (base : Heap) : Prop := ∃ fd, FnOk P w K mg base (L2.CX P w) 1 (He.ga K "is_count") fd ["thing"] (liftSp K (sp_is_count K)) ∧ Binds K fd ["thing"] []
theorem ok_is_count (Z : Fx K mg) (L : Lw K) (R : Rw P w K mg base) : Ok_is_count P w K mg base := by
  obtain ⟨fd, F⟩ := Z.d_is_count
  refine ⟨fd, fn_mkD F sc_is_count len1 (fun X Δ M ds Q E cx xo hW h => ?_), F.bindsN fun _ _ _ _ _ _ us hl => match us, hl with | [_], _ => rfl⟩
  obtain ⟨cdv, A, outer, s, H, Ev, eX, hr⟩ := cx
  subst eX
  have hu := hu_of hr
  have hu65 := hu65_of hr
  have hu1 := hu1_of hr
  refine ⟨_, rd_is_count K Δ.Wd, (pdss_one (pds_ret (pd_and (pd_callB call_isi snd_isi rfl Z.b_isinstance (by decide +kernel) (pda_cons (pd_var (pv 0)) (pda_cons (pd_bltn rfl Z.b_int (by decide +kernel)) (pda_nil)))) (pd_and (pd_not (pd_nrm (pd_callB call_isi snd_isi rfl Z.b_isinstance (by decide +kernel) (pda_cons (pd_var (pv 0)) (pda_cons (pd_bltn rfl Z.b_bool (by decide +kernel)) (pda_nil)))))) (pd_one (pd_cmp op_ge snd_int (pd_nrm (pd_var (pv 0))) (pd_nrm (pd_int)) (by rfl))))))), ?_⟩
  rw [hW]
  exact L.is_count h
def Ok_is_door (P : Program) (w : World) (K : PySem.W.Frag) (mg : Str → Option Value) (base : Heap) : Prop := ∃ fd, FnOk P w K mg base (L2.CX P w) 2 (He.ga K "is_door") fd ["thing", "signs", "many"] (liftSp K (sp_is_door K)) ∧ Binds K fd ["thing", "signs", "many"] []
theorem ok_is_door (Z : Fx K mg) (L : Lw K) (R : Rw P w K mg base) : Ok_is_door P w K mg base := by
  obtain ⟨fd, F⟩ := Z.d_is_door
  obtain ⟨fd_is_count, F_is_count, B_is_count⟩ := ok_is_count (P := P) (w := w) (base := base) Z L R
  have kp_is_count : PySem.W.keepIn K (.ref (He.ga K "is_count")) = true := Z.d_is_count.choose_spec.kp
  refine ⟨fd, fn_mkD F sc_is_door len3 (fun X Δ M ds Q E cx xo hW h => ?_), F.bindsN fun _ _ _ _ _ _ us hl => match us, hl with | [_, _, _], _ => rfl⟩
  obtain ⟨cdv, A, outer, s, H, Ev, eX, hr⟩ := cx
  subst eX
  have hu := hu_of hr
  have hu65 := hu65_of hr
  have hu1 := hu1_of hr
  refine ⟨_, rd_is_door K Δ.Wd, (pdss_cons (pds_if (pdt_cmp op_isN snd_is (pd_nrm (pd_var (pv 0))) (pd_nrm (pd_non)) (by rfl)) (pdss_one (pds_ret (pd_bl))) pdss_nil)
  (pdss_cons (pds_if (pdt_w (pdw_or (pdt_not (pdt_tru (pd_nrm (pd_callB call_isi snd_isi rfl Z.b_isinstance (by decide +kernel) (pda_cons (pd_var (pv 0)) (pda_cons (pd_bltn rfl Z.b_tuple (by decide +kernel)) (pda_nil))))))) (pdw_or (pdt_cmp (op_neD hu) snd_ne (pd_nrm (pd_callB call_lenA snd_len rfl Z.b_len (by decide +kernel) (pda_cons (pd_nrm (pd_var (pv 0))) (pda_nil)))) (pd_nrm (pd_int)) (by rfl)) (pdw_or (pdt_not (pdt_tru (pd_nrm (pd_callB call_isi snd_isi rfl Z.b_isinstance (by decide +kernel) (pda_cons (pd_ix (pd_nrm (pd_var (pv 0))) (pd_int)) (pda_cons (pd_bltn rfl Z.b_str (by decide +kernel)) (pda_nil))))))) (pdw_or1 (pdt_cmp op_notInA (snd_in (neg := true)) (pd_nrm (pd_ix (pd_nrm (pd_var (pv 0))) (pd_int))) (pd_nrm (pd_var (pv 1))) (by rfl))))))) (pdss_one (pds_ret (pd_bl))) pdss_nil)
  (pdss_one (pds_ret (pd_and (pd_call F_is_count (hr.mono (by decide)) rfl Z.g_is_count kp_is_count B_is_count xo (pda_cons (pd_ix (pd_nrm (pd_var (pv 0))) (pd_int)) (pda_nil))) (pd_one (pd_cmp op_ltA snd_lt (pd_nrm (pd_ix (pd_nrm (pd_var (pv 0))) (pd_int))) (pd_nrm (pd_var (pv 2))) (by rfl)))))))), ?_⟩
  rw [hW]
  exact L.is_door h
def Ok_are_rooms (P : Program) (w : World) (K : PySem.W.Frag) (mg : Str → Option Value) (base : Heap) : Prop := ∃ fd, FnOk P w K mg base (L2.CX P w) 3 (He.ga K "are_rooms") fd ["thing", "letters", "signs"] (liftSp K (sp_are_rooms K)) ∧ Binds K fd ["thing", "letters", "signs"] []
theorem ok_are_rooms (Z : Fx K mg) (L : Lw K) (R : Rw P w K mg base) : Ok_are_rooms P w K mg base := by
  obtain ⟨fd, F⟩ := Z.d_are_rooms
  obtain ⟨fd_is_door, F_is_door, B_is_door⟩ := ok_is_door (P := P) (w := w) (base := base) Z L R
  have kp_is_door : PySem.W.keepIn K (.ref (He.ga K "is_door")) = true := Z.d_is_door.choose_spec.kp
  refine ⟨fd, fn_mkD F sc_are_rooms len3 (fun X Δ M ds Q E cx xo hW h => ?_), F.bindsN fun _ _ _ _ _ _ us hl => match us, hl with | [_, _, _], _ => rfl⟩
  obtain ⟨cdv, A, outer, s, H, Ev, eX, hr⟩ := cx
  subst eX
  have hu := hu_of hr
  have hu65 := hu65_of hr
  have hu1 := hu1_of hr
  refine ⟨_, rd_are_rooms K Δ.Wd, (pdss_cons (pds_if (pdt_w (pdw_or (pdt_not (pdt_tru (pd_nrm (pd_callB call_isi snd_isi rfl Z.b_isinstance (by decide +kernel) (pda_cons (pd_var (pv 0)) (pda_cons (pd_bltn rfl Z.b_tuple (by decide +kernel)) (pda_nil))))))) (pdw_or1 (pdt_not (pdt_chain op_le snd_int op_le snd_int (pd_nrm (pd_int)) (pd_nrm (pd_callB call_lenA snd_len rfl Z.b_len (by decide +kernel) (pda_cons (pd_nrm (pd_var (pv 0))) (pda_nil)))) (pd_nrm (pd_globI rfl Z.i_MOST_ROOMS.choose_spec))))))) (pdss_one (pds_ret (pd_bl))) pdss_nil)
  (pdss_cons (pds_for (passes_of rfl) rfl (pdi_seq (pd_nrm (pd_var (pv 0)))) (pdg_name (pg_name sc_are_rooms.nd (i := 3) rfl (Or.inl rfl))) (pdss_cons (pds_if (pdt_w (pdw_or (pdt_not (pdt_tru (pd_nrm (pd_callB call_isi snd_isi rfl Z.b_isinstance (by decide +kernel) (pda_cons (pd_var (pv 3)) (pda_cons (pd_bltn rfl Z.b_tuple (by decide +kernel)) (pda_nil))))))) (pdw_or1 (pdt_cmp (op_neD hu) snd_ne (pd_nrm (pd_callB call_lenA snd_len rfl Z.b_len (by decide +kernel) (pda_cons (pd_nrm (pd_var (pv 3))) (pda_nil)))) (pd_nrm (pd_callB call_lenA snd_len rfl Z.b_len (by decide +kernel) (pda_cons (pd_nrm (pd_var (pv 1))) (pda_nil)))) (by rfl))))) (pdss_one (pds_ret (pd_bl))) pdss_nil)
  (pdss_one (pds_if (pdt_not (pdt_tru (pd_nrm (pd_callB (cr_all rfl) snd_all rfl Z.b_all (by decide +kernel) (pda_cons (pd_nrm (pd_lcX rfl sc_are_rooms.nd (pdi_seq (pd_nrm (pd_var (pv 3)))) (own := [("door", 4)]) (blkB_ok (by kernel_rfl)) (fun _ _ _ _ _ _ => ⟨_, (pdgw_name (pg_name sc_are_rooms.nd (i := 4) rfl (Or.inl rfl)) (by decide))⟩) (fun _ _ _ _ _ _ => ⟨_, pdts_nil⟩) (fun _ _ _ _ _ _ => ⟨_, (pd_call F_is_door (hr.mono (by decide)) rfl Z.g_is_door kp_is_door B_is_door xok_blk (pda_cons (pd_var (pv 4)) (pda_cons (pd_var (pv 2)) (pda_cons (pd_callB call_lenA snd_len rfl Z.b_len (by decide +kernel) (pda_cons (pd_nrm (pd_var (pv 0))) (pda_nil))) (pda_nil)))))⟩))) (pda_nil)))))) (pdss_one (pds_ret (pd_bl))) pdss_nil))))
  (pdss_one (pds_ret (pd_bl))))), ?_⟩
  rw [hW]
  exact L.are_rooms h
def Ok_Plan___init__ (P : Program) (w : World) (K : PySem.W.Frag) (mg : Str → Option Value) (base : Heap) : Prop := ∃ fd, FnOk P w K mg base (L2.CX P w) 4 (He.ma K (He.ga K "Plan") "__init__") fd ["self", "letters", "signs", "rooms"] (liftSp K (sp_Plan___init__ K)) ∧ Binds K fd ["self", "letters", "signs", "rooms"] []
theorem ok_Plan___init__ (Z : Fx K mg) (L : Lw K) (R : Rw P w K mg base) : Ok_Plan___init__ P w K mg base := by
  obtain ⟨fd, F⟩ := Z.d_Plan___init__
  obtain ⟨fd_are_names, F_are_names, B_are_names⟩ := ok_are_names (P := P) (w := w) (base := base) Z L R
  have kp_are_names : PySem.W.keepIn K (.ref (He.ga K "are_names")) = true := Z.d_are_names.choose_spec.kp
  obtain ⟨fd_are_rooms, F_are_rooms, B_are_rooms⟩ := ok_are_rooms (P := P) (w := w) (base := base) Z L R
  have kp_are_rooms : PySem.W.keepIn K (.ref (He.ga K "are_rooms")) = true := Z.d_are_rooms.choose_spec.kp
  refine ⟨fd, fn_mkD F sc_Plan___init__ len4 (fun X Δ M ds Q E cx xo hW h => ?_), F.bindsN fun _ _ _ _ _ _ us hl => match us, hl with | [_, _, _, _], _ => rfl⟩
  obtain ⟨cdv, A, outer, s, H, Ev, eX, hr⟩ := cx
  subst eX
  have hu := hu_of hr
  have hu65 := hu65_of hr
  have hu1 := hu1_of hr
  refine ⟨_, rd_Plan___init__ K Δ.Wd, (pdss_cons (pds_if (pdt_w (pdw_or (pdt_not (pdt_tru (pd_nrm (pd_call F_are_names (hr.mono (by decide)) rfl Z.g_are_names kp_are_names B_are_names xo (pda_cons (pd_var (pv 1)) (pda_cons (pd_int) (pda_cons (pd_globI rfl Z.i_MOST_LETTERS.choose_spec) (pda_nil)))))))) (pdw_or1 (pdt_not (pdt_tru (pd_nrm (pd_call F_are_names (hr.mono (by decide)) rfl Z.g_are_names kp_are_names B_are_names xo (pda_cons (pd_var (pv 2)) (pda_cons (pd_globI rfl Z.i_LEAST_SIGNS.choose_spec) (pda_cons (pd_globI rfl Z.i_MOST_SIGNS.choose_spec) (pda_nil))))))))))) (pdss_one (pds_raise PySem.F.excBase_ValueError (He.exc_ok Z.e_NoPlan).1 Z.g_NoPlan (He.exc_ok Z.e_NoPlan).2.1 (raises_fa Z.e_NoPlan) rfl rfl xo)) pdss_nil)
  (pdss_cons (pds_if (pdt_not (pdt_tru (pd_nrm (pd_call F_are_rooms (hr.mono (by decide)) rfl Z.g_are_rooms kp_are_rooms B_are_rooms xo (pda_cons (pd_var (pv 3)) (pda_cons (pd_var (pv 1)) (pda_cons (pd_var (pv 2)) (pda_nil)))))))) (pdss_one (pds_raise PySem.F.excBase_ValueError (He.exc_ok Z.e_NoPlan).1 Z.g_NoPlan (He.exc_ok Z.e_NoPlan).2.1 (raises_fa Z.e_NoPlan) rfl rfl xo)) pdss_nil)
  (pdss_cons (pds_fld (pd_var (pv 0)) (pd_var (pv 1)) Z.cl_Plan Z.na_Plan_own_letters)
  (pdss_cons (pds_fld (pd_var (pv 0)) (pd_var (pv 2)) Z.cl_Plan Z.na_Plan_own_signs)
  (pdss_one (pds_fld (pd_var (pv 0)) (pd_var (pv 3)) Z.cl_Plan Z.na_Plan_own_rooms)))))), ?_⟩
  rw [hW]
  exact L.Plan___init__ h
def Ok__law_thing (P : Program) (w : World) (K : PySem.W.Frag) (mg : Str → Option Value) (base : Heap) : Prop := ∃ fd, FnOk P w K mg base (L2.CX P w) 3 (He.ga K "_law_thing") fd ["_law_state", "_law_parts_here"] (liftSp K (sp__law_thing K)) ∧ Binds K fd ["_law_state", "_law_parts_here"] []
theorem ok__law_thing (Z : Fx K mg) (L : Lw K) (R : Rw P w K mg base) : Ok__law_thing P w K mg base := by
  obtain ⟨fd, F⟩ := Z.d__law_thing
  obtain ⟨fd__law_pick, F__law_pick, B__law_pick⟩ := ok__law_pick (P := P) (w := w) (base := base) Z L R
  have kp__law_pick : PySem.W.keepIn K (.ref (He.ga K "_law_pick")) = true := Z.d__law_pick.choose_spec.kp
  obtain ⟨fd__law_draw, F__law_draw, B__law_draw⟩ := ok__law_draw (P := P) (w := w) (base := base) Z L R
  have kp__law_draw : PySem.W.keepIn K (.ref (He.ga K "_law_draw")) = true := Z.d__law_draw.choose_spec.kp
  refine ⟨fd, fn_mkD F sc__law_thing len2 (fun X Δ M ds Q E cx xo hW h => ?_), F.bindsN fun _ _ _ _ _ _ us hl => match us, hl with | [_, _], _ => rfl⟩
  obtain ⟨cdv, A, outer, s, H, Ev, eX, hr⟩ := cx
  subst eX
  have hu := hu_of hr
  have hu65 := hu65_of hr
  have hu1 := hu1_of hr
  refine ⟨_, rd__law_thing K Δ.Wd, (pdss_cons (pds_set (i := 2) sc__law_thing.nd rfl (Or.inl rfl) (pd_deep (pd_call F__law_pick (hr.mono (by decide)) rfl Z.g__law_pick kp__law_pick B__law_pick xo (pda_cons (pd_var (pv 0)) (pda_cons (pd_lst (pda_cons (pd_int) (pda_cons (pd_int) (pda_cons (pd_int) (pda_cons (pd_int) (pda_cons (pd_int) (pda_cons (pd_int) (pda_cons (pd_int) (pda_cons (pd_int) (pda_cons (pd_int) (pda_nil))))))))))) (pda_nil))))))
  (pdss_cons (pds_set (i := 3) sc__law_thing.nd rfl (Or.inl rfl) (pd_callTy call_tuple_of snd_tup rfl Z.b_tuple (by decide +kernel) (pda_cons (pd_nrm (pd_lcX rfl sc__law_thing.nd (pdi_rng1 rfl Z.b_range (pda_cons (pd_nrm (pd_var (pv 2))) (pda_nil))) (own := [("_law_k", 7)]) (blkB_ok (by kernel_rfl)) (fun _ _ _ _ _ _ => ⟨_, (pdgw_name (pg_name sc__law_thing.nd (i := 7) rfl (Or.inl rfl)) (by decide))⟩) (fun _ _ _ _ _ _ => ⟨_, pdts_nil⟩) (fun _ _ _ _ _ _ => ⟨_, (pd_deep (pd_call F__law_pick (hr.mono (by decide)) rfl Z.g__law_pick kp__law_pick B__law_pick xok_blk (pda_cons (pd_var (pv 0)) (pda_cons (pd_ix (pd_nrm (pd_var (pv 1))) (pd_int)) (pda_nil)))))⟩))) (pda_nil))))
  (pdss_cons (pds_set (i := 4) sc__law_thing.nd rfl (Or.inl rfl) (pd_call F__law_draw (hr.mono (by decide)) rfl Z.g__law_draw kp__law_draw B__law_draw xo (pda_cons (pd_var (pv 0)) (pda_cons (pd_int) (pda_nil)))))
  (pdss_cons (pds_set (i := 5) sc__law_thing.nd rfl (Or.inl rfl) (pd_deep (pd_call F__law_pick (hr.mono (by decide)) rfl Z.g__law_pick kp__law_pick B__law_pick xo (pda_cons (pd_var (pv 0)) (pda_cons (pd_lst (pda_cons (pd_non) (pda_cons (pd_int) (pda_cons (pd_bl) (pda_cons (pd_str) (pda_cons (pd_str) (pda_cons (pd_str) (pda_cons (pd_tup (pda_cons (pd_str) (pda_nil))) (pda_cons (pd_lst (pda_cons (pd_str) (pda_nil))) (pda_cons (pd_ix (pd_nrm (pd_var (pv 1))) (pd_int)) (pda_cons (pd_op op_addA snd_add (pd_nrm (pd_ix (pd_nrm (pd_ix (pd_nrm (pd_var (pv 1))) (pd_int))) (pd_int))) (pd_nrm (pd_str))) (pda_nil)))))))))))) (pda_nil))))))
  (pdss_cons (pds_set (i := 6) sc__law_thing.nd rfl (Or.inl rfl) (pd_call F__law_draw (hr.mono (by decide)) rfl Z.g__law_draw kp__law_draw B__law_draw xo (pda_cons (pd_var (pv 0)) (pda_cons (pd_op op_addA snd_add (pd_nrm (pd_var (pv 2))) (pd_nrm (pd_int))) (pda_nil)))))
  (pdss_cons (pds_if (pdt_cmp (op_eqD hu) snd_eq (pd_nrm (pd_var (pv 4))) (pd_nrm (pd_int)) (by rfl)) (pdss_one (pds_ret (pd_var (pv 3)))) pdss_nil)
  (pdss_cons (pds_if (pdt_cmp (op_eqD hu) snd_eq (pd_nrm (pd_var (pv 4))) (pd_nrm (pd_int)) (by rfl)) (pdss_one (pds_ret (pd_op op_addA snd_add (pd_nrm (pd_op op_addA snd_add (pd_nrm (pd_slice (pd_nrm (pd_var (pv 3))) pdo_none (pdo_some (pd_var (pv 6))))) (pd_nrm (pd_tup (pda_cons (pd_var (pv 5)) (pda_nil)))))) (pd_nrm (pd_slice (pd_nrm (pd_var (pv 3))) (pdo_some (pd_var (pv 6))) pdo_none))))) pdss_nil)
  (pdss_cons (pds_if (pdt_cmp (op_eqD hu) snd_eq (pd_nrm (pd_var (pv 4))) (pd_nrm (pd_int)) (by rfl)) (pdss_one (pds_ret (pd_op op_addA snd_add (pd_nrm (pd_op op_addA snd_add (pd_nrm (pd_slice (pd_nrm (pd_var (pv 3))) pdo_none (pdo_some (pd_var (pv 6))))) (pd_nrm (pd_tup (pda_cons (pd_var (pv 5)) (pda_nil)))))) (pd_nrm (pd_slice (pd_nrm (pd_var (pv 3))) (pdo_some (pd_op op_addA snd_add (pd_nrm (pd_var (pv 6))) (pd_nrm (pd_int)))) pdo_none))))) pdss_nil)
  (pdss_one (pds_ret (pd_deep (pd_call F__law_pick (hr.mono (by decide)) rfl Z.g__law_pick kp__law_pick B__law_pick xo (pda_cons (pd_var (pv 0)) (pda_cons (pd_lst (pda_cons (pd_callTy call_list_of snd_list rfl Z.b_list (by decide +kernel) (pda_cons (pd_nrm (pd_var (pv 3))) (pda_nil))) (pda_cons (pd_join (pd_str) (pd_nrm (pd_var (pv 3)))) (pda_cons (pd_var (pv 5)) (pda_cons (pd_newK) (pda_cons (pd_lst (pda_nil)) (pda_cons (pd_non) (pda_cons (pd_op op_addA snd_add (pd_nrm (pd_var (pv 3))) (pd_nrm (pd_slice (pd_nrm (pd_var (pv 3))) pdo_none (pdo_some (pd_int))))) (pda_nil))))))))) (pda_nil))))))))))))))), ?_⟩
  rw [hW]
  exact L._law_thing h
def Ok__law_place (P : Program) (w : World) (K : PySem.W.Frag) (mg : Str → Option Value) (base : Heap) : Prop := ∃ fd, FnOk P w K mg base (L2.CX P w) 1 (He.ga K "_law_place") fd ["_law_parts_here", "_law_thing_here"] (liftSp K (sp__law_place K)) ∧ Binds K fd ["_law_parts_here", "_law_thing_here"] []
theorem ok__law_place (Z : Fx K mg) (L : Lw K) (R : Rw P w K mg base) : Ok__law_place P w K mg base := by
  obtain ⟨fd, F⟩ := Z.d__law_place
  refine ⟨fd, fn_mkD F sc__law_place len2 (fun X Δ M ds Q E cx xo hW h => ?_), F.bindsN fun _ _ _ _ _ _ us hl => match us, hl with | [_, _], _ => rfl⟩
  obtain ⟨cdv, A, outer, s, H, Ev, eX, hr⟩ := cx
  subst eX
  have hu := hu_of hr
  have hu65 := hu65_of hr
  have hu1 := hu1_of hr
  refine ⟨_, rd__law_place K Δ.Wd, (pdss_cons (pds_if (pdt_not (pdt_tru (pd_nrm (pd_callB call_isi snd_isi rfl Z.b_isinstance (by decide +kernel) (pda_cons (pd_var (pv 1)) (pda_cons (pd_bltn rfl Z.b_tuple (by decide +kernel)) (pda_nil))))))) (pdss_one (pds_ret (pd_int))) pdss_nil)
  (pdss_cons (pds_for (passes_of rfl) rfl (pdi_rng1 rfl Z.b_range (pda_cons (pd_nrm (pd_callB (call_min2 rfl) snd_min rfl Z.b_min (by decide +kernel) (pda_cons (pd_nrm (pd_int)) (pda_cons (pd_nrm (pd_callB call_lenA snd_len rfl Z.b_len (by decide +kernel) (pda_cons (pd_nrm (pd_var (pv 1))) (pda_nil)))) (pda_nil))))) (pda_nil))) (pdg_name (pg_name sc__law_place.nd (i := 2) rfl (Or.inl rfl))) (pdss_one (pds_if (pdt_w (pdw_or (pdt_not (pdt_tru (pd_nrm (pd_callB call_isi snd_isi rfl Z.b_isinstance (by decide +kernel) (pda_cons (pd_ix (pd_nrm (pd_var (pv 1))) (pd_var (pv 2))) (pda_cons (pd_bltn rfl Z.b_str (by decide +kernel)) (pda_nil))))))) (pdw_or1 (pdt_cmp op_notInA (snd_in (neg := true)) (pd_nrm (pd_ix (pd_nrm (pd_var (pv 1))) (pd_var (pv 2)))) (pd_nrm (pd_ix (pd_nrm (pd_var (pv 0))) (pd_int))) (by rfl))))) (pdss_one (pds_ret (pd_var (pv 2)))) pdss_nil)))
  (pdss_one (pds_ret (pd_ifExp (pdt_cmp op_gt snd_int (pd_nrm (pd_callB call_lenA snd_len rfl Z.b_len (by decide +kernel) (pda_cons (pd_nrm (pd_var (pv 1))) (pda_nil)))) (pd_nrm (pd_int)) (by rfl)) (pd_int) (pd_non)))))), ?_⟩
  rw [hW]
  exact L._law_place h
def Ok_Asker_signs_told (P : Program) (w : World) (K : PySem.W.Frag) (mg : Str → Option Value) (base : Heap) : Prop := ∃ fd, FnOk P w K mg base (L2.CX P w) 1 (He.ma K (He.ga K "Asker") "signs_told") fd ["self", "word"] (liftSp K (sp_Asker_signs_told K w)) ∧ Binds K fd ["self", "word"] []
theorem ok_Asker_signs_told (Z : Fx K mg) (L : Lw K) (R : Rw P w K mg base) : Ok_Asker_signs_told P w K mg base := by
  obtain ⟨fd, F⟩ := Z.d_Asker_signs_told
  refine ⟨fd, fn_mkD F sc_Asker_signs_told len2 (fun X Δ M ds Q E cx xo hW h => ?_), F.bindsN fun _ _ _ _ _ _ us hl => match us, hl with | [_, _], _ => rfl⟩
  obtain ⟨cdv, A, outer, s, H, Ev, eX, hr⟩ := cx
  subst eX
  have hu := hu_of hr
  have hu65 := hu65_of hr
  have hu1 := hu1_of hr
  refine ⟨_, rd_Asker_signs_told K w Δ.Wd, (pdss_cons (pds_set (i := 2) sc_Asker_signs_told.nd rfl (Or.inl rfl) (pd_lstM (pda_nil)))
  (pdss_cons (pds_for (passes_of rfl) rfl (pdi_rng2 rfl Z.b_range (pda_cons (pd_nrm (pd_int)) (pda_cons (pd_nrm (pd_op op_addA snd_add (pd_nrm (pd_callB call_lenA snd_len rfl Z.b_len (by decide +kernel) (pda_cons (pd_nrm (pd_var (pv 1))) (pda_nil)))) (pd_nrm (pd_int)))) (pda_nil)))) (pdg_name (pg_name sc_Asker_signs_told.nd (i := 3) rfl (Or.inl rfl))) (pdss_cons (pds_if (pdt_cmp (op_xnotIn (hu10 hu)) (snd_xin (neg := true)) (pd_slice (pd_nrm (pd_var (pv 1))) pdo_none (pdo_some (pd_var (pv 3)))) (pd_fld (pd_var (pv 0)) Z.cl_Asker Z.na_Asker_last_told) (by rfl)) (pdss_one (pds_ret (pd_var (pv 2)))) pdss_nil)
  (pdss_one (pds_expr (pd_app (pd_var (pv 2)) (pd_xget (hu10 hu) (pd_fld (pd_var (pv 0)) Z.cl_Asker Z.na_Asker_last_told) (pd_slice (pd_nrm (pd_var (pv 1))) pdo_none (pdo_some (pd_var (pv 3))))))))))
  (pdss_one (pds_ret (pd_var (pv 2)))))), ?_⟩
  rw [hW]
  exact L.Asker_signs_told h
def Ok_Asker_known (P : Program) (w : World) (K : PySem.W.Frag) (mg : Str → Option Value) (base : Heap) : Prop := ∃ fd, FnOk P w K mg base (L2.CX P w) 2 (He.ma K (He.ga K "Asker") "known") fd ["self", "word"] (liftSp K (sp_Asker_known K w)) ∧ Binds K fd ["self", "word"] []
theorem ok_Asker_known (Z : Fx K mg) (L : Lw K) (R : Rw P w K mg base) : Ok_Asker_known P w K mg base := by
  obtain ⟨fd, F⟩ := Z.d_Asker_known
  obtain ⟨fd_Asker_signs_told, F_Asker_signs_told, B_Asker_signs_told⟩ := ok_Asker_signs_told (P := P) (w := w) (base := base) Z L R
  refine ⟨fd, fn_mkD F sc_Asker_known len2 (fun X Δ M ds Q E cx xo hW h => ?_), F.bindsN fun _ _ _ _ _ _ us hl => match us, hl with | [_, _], _ => rfl⟩
  obtain ⟨cdv, A, outer, s, H, Ev, eX, hr⟩ := cx
  subst eX
  have hu := hu_of hr
  have hu65 := hu65_of hr
  have hu1 := hu1_of hr
  refine ⟨_, rd_Asker_known K w Δ.Wd, (pdss_cons (pds_if (pdt_w (pdw_or (pdt_not (pdt_tru (pd_nrm (pd_callB call_isi snd_isi rfl Z.b_isinstance (by decide +kernel) (pda_cons (pd_var (pv 1)) (pda_cons (pd_bltn rfl Z.b_tuple (by decide +kernel)) (pda_nil))))))) (pdw_or1 (pdt_not (pdt_tru (pd_nrm (pd_callB (cr_all rfl) snd_all rfl Z.b_all (by decide +kernel) (pda_cons (pd_nrm (pd_lcX rfl sc_Asker_known.nd (pdi_seq (pd_nrm (pd_var (pv 1)))) (own := [("letter", 3)]) (blkB_ok (by kernel_rfl)) (fun _ _ _ _ _ _ => ⟨_, (pdgw_name (pg_name sc_Asker_known.nd (i := 3) rfl (Or.inl rfl)) (by decide))⟩) (fun _ _ _ _ _ _ => ⟨_, pdts_nil⟩) (fun _ _ _ _ _ _ => ⟨_, (pd_callB call_isi snd_isi rfl Z.b_isinstance (by decide +kernel) (pda_cons (pd_var (pv 3)) (pda_cons (pd_bltn rfl Z.b_str (by decide +kernel)) (pda_nil))))⟩))) (pda_nil))))))))) (pdss_one (pds_ret (pd_non))) pdss_nil)
  (pdss_cons (pds_set (i := 2) sc_Asker_known.nd rfl (Or.inl rfl) (pd_meth (pd_var (pv 0)) Z.cl_Asker Z.m_Asker_signs_told F_Asker_signs_told (hr.mono (by decide)) B_Asker_signs_told xo (pda_cons (pd_var (pv 1)) (pda_nil))))
  (pdss_one (pds_ret (pd_ifExp (pdt_cmp (op_eqD hu) snd_eq (pd_nrm (pd_callB call_lenA snd_len rfl Z.b_len (by decide +kernel) (pda_cons (pd_nrm (pd_var (pv 2))) (pda_nil)))) (pd_nrm (pd_callB call_lenA snd_len rfl Z.b_len (by decide +kernel) (pda_cons (pd_nrm (pd_var (pv 1))) (pda_nil)))) (by rfl)) (pd_callTy call_tuple_of snd_tup rfl Z.b_tuple (by decide +kernel) (pda_cons (pd_nrm (pd_var (pv 2))) (pda_nil))) (pd_non)))))), ?_⟩
  rw [hW]
  exact L.Asker_known h
def Ok_NoWord___init__ (P : Program) (w : World) (K : PySem.W.Frag) (mg : Str → Option Value) (base : Heap) : Prop := ∃ fd, FnOk P w K mg base CX0 1 (He.ma K (He.ga K "NoWord") "__init__") fd ["self", "at"] (spOex K "at") ∧ Binds K fd ["self", "at"] [] ∧ KBn K fd ["self", "at"] 1 ["at"] (fun us ws => us ++ ws) (fun vs zs => vs ++ zs)
theorem ok_NoWord___init__ (Z : Fx K mg) (L : Lw K) (R : Rw P w K mg base) : Ok_NoWord___init__ P w K mg base := by
  obtain ⟨fd, F⟩ := Z.d_NoWord___init__
  refine ⟨fd, F.ok sc_NoWord___init__ (fun vs H Q E ⟨a, C, y, e, _⟩ => by subst e; rfl) (fun cdv A outer s H vs Q E hr ⟨a, C, y, e, T, hno, ea, h⟩ => ⟨_, pss_one (ps_ost (pv 0) (pv 1)), ?_⟩), F.bindsN fun _ _ _ _ _ _ us hl => match us, hl with | [_, _], _ => rfl, kbn_of F 1 ["at"] fun _ _ _ _ _ _ us ws h1 h2 => match us, ws, h1, h2 with | [_], [_], _, _ => rfl⟩
  subst e
  exact ⟨_, rfl, _, rfl, a, C, rfl, T, hno, .inl ⟨ea, fun dx n ne => h dx n ne⟩⟩
def Ok_need_letters (P : Program) (w : World) (K : PySem.W.Frag) (mg : Str → Option Value) (base : Heap) : Prop := ∃ fd, FnOk P w K mg base (L2.CX P w) 3 (He.ga K "need_letters") fd ["word", "letters"] (liftSp K (sp_need_letters K)) ∧ Binds K fd ["word", "letters"] []
theorem ok_need_letters (Z : Fx K mg) (L : Lw K) (R : Rw P w K mg base) : Ok_need_letters P w K mg base := by
  obtain ⟨fd, F⟩ := Z.d_need_letters
  obtain ⟨fd_NoWord___init__, F_NoWord___init__, B_NoWord___init__, kbx_NoWord___init__⟩ := ok_NoWord___init__ (P := P) (w := w) (base := base) Z L R
  refine ⟨fd, fn_mkD F sc_need_letters len2 (fun X Δ M ds Q E cx xo hW h => ?_), F.bindsN fun _ _ _ _ _ _ us hl => match us, hl with | [_, _], _ => rfl⟩
  obtain ⟨cdv, A, outer, s, H, Ev, eX, hr⟩ := cx
  subst eX
  have hu := hu_of hr
  have hu65 := hu65_of hr
  have hu1 := hu1_of hr
  refine ⟨_, rd_need_letters K Δ.Wd, (pdss_cons (pds_if (pdt_not (pdt_tru (pd_nrm (pd_callB call_isi snd_isi rfl Z.b_isinstance (by decide +kernel) (pda_cons (pd_var (pv 0)) (pda_cons (pd_bltn rfl Z.b_tuple (by decide +kernel)) (pda_nil))))))) (pdss_one (pds_raiseI Z.ox_NoWord Z.in_NoWord Z.it_NoWord F_NoWord___init__ Z.na_NoWord_at (hr.mono (by decide)) B_NoWord___init__ rfl Z.g_NoWord rfl xo (pd_int))) pdss_nil)
  (pdss_cons (pds_for (passes_of rfl) rfl (pdi_enum rfl Z.b_enumerate (pda_cons (pd_nrm (pd_slice (pd_nrm (pd_var (pv 0))) pdo_none (pdo_some (pd_globI rfl Z.i_LONGEST_ASKED.choose_spec)))) (pda_nil))) (pdg_tup rfl (pdgs_cons (pdg_name (pg_name sc_need_letters.nd (i := 2) rfl (Or.inl rfl))) (pdgs_cons (pdg_name (pg_name sc_need_letters.nd (i := 3) rfl (Or.inl rfl))) (pdgs_nil)))) (pdss_one (pds_if (pdt_w (pdw_or (pdt_not (pdt_tru (pd_nrm (pd_callB call_isi snd_isi rfl Z.b_isinstance (by decide +kernel) (pda_cons (pd_var (pv 3)) (pda_cons (pd_bltn rfl Z.b_str (by decide +kernel)) (pda_nil))))))) (pdw_or1 (pdt_cmp op_notInA (snd_in (neg := true)) (pd_nrm (pd_var (pv 3))) (pd_nrm (pd_var (pv 1))) (by rfl))))) (pdss_one (pds_raiseI Z.ox_NoWord Z.in_NoWord Z.it_NoWord F_NoWord___init__ Z.na_NoWord_at (hr.mono (by decide)) B_NoWord___init__ rfl Z.g_NoWord rfl xo (pd_var (pv 2)))) pdss_nil)))
  (pdss_one (pds_if (pdt_cmp op_gt snd_int (pd_nrm (pd_callB call_lenA snd_len rfl Z.b_len (by decide +kernel) (pda_cons (pd_nrm (pd_var (pv 0))) (pda_nil)))) (pd_nrm (pd_globI rfl Z.i_LONGEST_ASKED.choose_spec)) (by rfl)) (pdss_one (pds_raiseI Z.ox_NoWord Z.in_NoWord Z.it_NoWord F_NoWord___init__ Z.na_NoWord_at (hr.mono (by decide)) B_NoWord___init__ rfl Z.g_NoWord rfl xo (pd_globI rfl Z.i_LONGEST_ASKED.choose_spec))) pdss_nil)))), ?_⟩
  rw [hW]
  exact L.need_letters h
def Ok_Plan_letters (P : Program) (w : World) (K : PySem.W.Frag) (mg : Str → Option Value) (base : Heap) : Prop := ∃ fd, FnOk P w K mg base (L2.CX P w) 1 (He.ma K (He.ga K "Plan") "letters") fd ["self"] (liftSp K (sp_Plan_letters K)) ∧ Binds K fd ["self"] []
theorem ok_Plan_letters (Z : Fx K mg) (L : Lw K) (R : Rw P w K mg base) : Ok_Plan_letters P w K mg base := by
  obtain ⟨fd, F⟩ := Z.d_Plan_letters
  refine ⟨fd, fn_mkD F sc_Plan_letters len1 (fun X Δ M ds Q E cx xo hW h => ?_), F.bindsN fun _ _ _ _ _ _ us hl => match us, hl with | [_], _ => rfl⟩
  obtain ⟨cdv, A, outer, s, H, Ev, eX, hr⟩ := cx
  subst eX
  have hu := hu_of hr
  have hu65 := hu65_of hr
  have hu1 := hu1_of hr
  refine ⟨_, rd_Plan_letters K Δ.Wd, (pdss_one (pds_ret (pd_fld (pd_var (pv 0)) Z.cl_Plan Z.na_Plan_own_letters))), ?_⟩
  rw [hW]
  exact L.Plan_letters h
def Ok__law_along (P : Program) (w : World) (K : PySem.W.Frag) (mg : Str → Option Value) (base : Heap) : Prop := ∃ fd, FnOk P w K mg base (L2.CX P w) 1 (He.ga K "_law_along") fd ["_law_parts_here", "_law_row_here"] (liftSp K (sp__law_along K)) ∧ Binds K fd ["_law_parts_here", "_law_row_here"] []
theorem ok__law_along (Z : Fx K mg) (L : Lw K) (R : Rw P w K mg base) : Ok__law_along P w K mg base := by
  obtain ⟨fd, F⟩ := Z.d__law_along
  refine ⟨fd, fn_mkD F sc__law_along len2 (fun X Δ M ds Q E cx xo hW h => ?_), F.bindsN fun _ _ _ _ _ _ us hl => match us, hl with | [_, _], _ => rfl⟩
  obtain ⟨cdv, A, outer, s, H, Ev, eX, hr⟩ := cx
  subst eX
  have hu := hu_of hr
  have hu65 := hu65_of hr
  have hu1 := hu1_of hr
  refine ⟨_, rd__law_along K Δ.Wd, (pdss_cons (pds_asg (pd_nrm (pd_var (pv 0))) (pdg_tup rfl (pdgs_cons (pdg_name (pg_name sc__law_along.nd (i := 2) rfl (Or.inl rfl))) (pdgs_cons (pdg_name (pg_name sc__law_along.nd (i := 3) rfl (Or.inl rfl))) (pdgs_cons (pdg_name (pg_name sc__law_along.nd (i := 4) rfl (Or.inl rfl))) (pdgs_nil))))))
  (pdss_cons (pds_par (i := 5) (j := 6) rfl sc__law_along.nd rfl rfl (by decide) rfl rfl (pd_int) (pd_lstM (pda_nil)))
  (pdss_cons (pds_for (passes_of rfl) rfl (pdi_seq (pd_nrm (pd_var (pv 1)))) (pdg_name (pg_name sc__law_along.nd (i := 7) rfl (Or.inl rfl))) (pdss_cons (pds_set (i := 8) sc__law_along.nd rfl (Or.inl rfl) (pd_ix (pd_nrm (pd_ix (pd_nrm (pd_var (pv 4))) (pd_var (pv 5)))) (pd_tupIx (pd_var (pv 2)) (pd_var (pv 7)))))
  (pdss_cons (pds_if (pdt_cmp op_isN snd_is (pd_nrm (pd_var (pv 8))) (pd_nrm (pd_non)) (by rfl)) (pdss_one (pds_ret (pd_var (pv 6)))) pdss_nil)
  (pdss_cons (pds_expr (pd_app (pd_var (pv 6)) (pd_ix (pd_nrm (pd_var (pv 8))) (pd_int))))
  (pdss_one (pds_set (i := 5) sc__law_along.nd rfl (Or.inl rfl) (pd_ix (pd_nrm (pd_var (pv 8))) (pd_int))))))))
  (pdss_one (pds_ret (pd_var (pv 6))))))), ?_⟩
  rw [hW]
  exact L._law_along h
def Ok__law_noted (P : Program) (w : World) (K : PySem.W.Frag) (mg : Str → Option Value) (base : Heap) : Prop := ∃ fd, FnOk P w K mg base (L2.CX P w) 2 (He.ga K "_law_noted") fd ["_law_hidden_here", "_law_calls", "_law_row_here"] (liftSp K (sp__law_noted K)) ∧ Binds K fd ["_law_hidden_here", "_law_calls", "_law_row_here"] []
theorem ok__law_noted (Z : Fx K mg) (L : Lw K) (R : Rw P w K mg base) : Ok__law_noted P w K mg base := by
  obtain ⟨fd, F⟩ := Z.d__law_noted
  obtain ⟨fd__law_along, F__law_along, B__law_along⟩ := ok__law_along (P := P) (w := w) (base := base) Z L R
  have kp__law_along : PySem.W.keepIn K (.ref (He.ga K "_law_along")) = true := Z.d__law_along.choose_spec.kp
  refine ⟨fd, fn_mkD F sc__law_noted len3 (fun X Δ M ds Q E cx xo hW h => ?_), F.bindsN fun _ _ _ _ _ _ us hl => match us, hl with | [_, _, _], _ => rfl⟩
  obtain ⟨cdv, A, outer, s, H, Ev, eX, hr⟩ := cx
  subst eX
  have hu := hu_of hr
  have hu65 := hu65_of hr
  have hu1 := hu1_of hr
  refine ⟨_, rd__law_noted K Δ.Wd, (pdss_cons (pds_expr (pd_app (pd_var (pv 1)) (pd_var (pv 2))))
  (pdss_one (pds_ret (pd_callTy call_tuple_of snd_tup rfl Z.b_tuple (by decide +kernel) (pda_cons (pd_nrm (pd_call F__law_along (hr.mono (by decide)) rfl Z.g__law_along kp__law_along B__law_along xo (pda_cons (pd_var (pv 0)) (pda_cons (pd_var (pv 2)) (pda_nil))))) (pda_nil)))))), ?_⟩
  rw [hW]
  exact L._law_noted h
theorem ok__law_maker_lam (Z : Fx K mg) (L : Lw K) (R : Rw P w K mg base) : CloOk P w K mg base 3 ct__law_maker_lam 1 (liftC K (spc__law_maker_lam K)) := by
  obtain ⟨fd__law_noted, F__law_noted, B__law_noted⟩ := ok__law_noted (P := P) (w := w) (base := base) Z L R
  have kp__law_noted : PySem.W.keepIn K (.ref (He.ga K "_law_noted")) = true := Z.d__law_noted.choose_spec.kp
  refine clo_mkE (N := ["_law_row_here", "_law_calls", "_law_hidden_here"]) (ps := ["_law_row_here"]) (k := 2) rfl sc__law_maker_lam (fun _ _ _ _ _ us hl => match us, hl with | [_], _ => rfl) (fun cds ds M Q E h => lenc__law_maker_lam cds ds M Q E h) (fun X Δ M cds ds Q E cx xo hW hcl h => ?_)
  obtain ⟨cl, c, f, A, outer, s, H, Ev, eX, hr⟩ := cx
  subst eX
  have hu := hu_of hr
  have hu65 := hu65_of hr
  have hu1 := hu1_of hr
  refine ⟨_, rd__law_maker_lam K Δ.Wd, (pd_call F__law_noted (hr.mono (by decide)) rfl Z.g__law_noted kp__law_noted B__law_noted xo (pda_cons (pd_var (pv 2)) (pda_cons (pd_var (pv 1)) (pda_cons (pd_var (pv 0)) (pda_nil))))), ?_⟩
  rw [hW]
  exact L._law_maker_lam hcl h
theorem okCs (Z : Fx K mg) (L : Lw K) (R : Rw P w K mg base) : ∀ q ∈ Cs K, CloOk P w K mg base 3 q.1 1 (liftC K q.2) := fun q hq => by
  unfold Cs at hq
  simp only [List.mem_cons, List.not_mem_nil, or_false] at hq
  rcases hq with rfl
  · exact (ok__law_maker_lam Z L R).mono (by decide)
def Ok_Plan_signs (P : Program) (w : World) (K : PySem.W.Frag) (mg : Str → Option Value) (base : Heap) : Prop := ∃ fd, FnOk P w K mg base (L2.CX P w) 1 (He.ma K (He.ga K "Plan") "signs") fd ["self"] (liftSp K (sp_Plan_signs K)) ∧ Binds K fd ["self"] []
theorem ok_Plan_signs (Z : Fx K mg) (L : Lw K) (R : Rw P w K mg base) : Ok_Plan_signs P w K mg base := by
  obtain ⟨fd, F⟩ := Z.d_Plan_signs
  refine ⟨fd, fn_mkD F sc_Plan_signs len1 (fun X Δ M ds Q E cx xo hW h => ?_), F.bindsN fun _ _ _ _ _ _ us hl => match us, hl with | [_], _ => rfl⟩
  obtain ⟨cdv, A, outer, s, H, Ev, eX, hr⟩ := cx
  subst eX
  have hu := hu_of hr
  have hu65 := hu65_of hr
  have hu1 := hu1_of hr
  refine ⟨_, rd_Plan_signs K Δ.Wd, (pdss_one (pds_ret (pd_fld (pd_var (pv 0)) Z.cl_Plan Z.na_Plan_own_signs))), ?_⟩
  rw [hW]
  exact L.Plan_signs h
def Ok_Asker_is_answer (P : Program) (w : World) (K : PySem.W.Frag) (mg : Str → Option Value) (base : Heap) : Prop := ∃ fd, FnOk P w K mg base (L2.CX P w) 2 (He.ma K (He.ga K "Asker") "is_answer") fd ["self", "word", "signs"] (liftSp K (sp_Asker_is_answer K w)) ∧ Binds K fd ["self", "word", "signs"] []
theorem ok_Asker_is_answer (Z : Fx K mg) (L : Lw K) (R : Rw P w K mg base) : Ok_Asker_is_answer P w K mg base := by
  obtain ⟨fd, F⟩ := Z.d_Asker_is_answer
  obtain ⟨fd_Plan_signs, F_Plan_signs, B_Plan_signs⟩ := ok_Plan_signs (P := P) (w := w) (base := base) Z L R
  obtain ⟨fd_Asker_signs_told, F_Asker_signs_told, B_Asker_signs_told⟩ := ok_Asker_signs_told (P := P) (w := w) (base := base) Z L R
  refine ⟨fd, fn_mkD F sc_Asker_is_answer len3 (fun X Δ M ds Q E cx xo hW h => ?_), F.bindsN fun _ _ _ _ _ _ us hl => match us, hl with | [_, _, _], _ => rfl⟩
  obtain ⟨cdv, A, outer, s, H, Ev, eX, hr⟩ := cx
  subst eX
  have hu := hu_of hr
  have hu65 := hu65_of hr
  have hu1 := hu1_of hr
  refine ⟨_, rd_Asker_is_answer K w Δ.Wd, (pdss_cons (pds_if (pdt_w (pdw_or (pdt_not (pdt_tru (pd_nrm (pd_callB call_isi snd_isi rfl Z.b_isinstance (by decide +kernel) (pda_cons (pd_var (pv 2)) (pda_cons (pd_bltn rfl Z.b_tuple (by decide +kernel)) (pda_nil))))))) (pdw_or1 (pdt_cmp (op_neD hu) snd_ne (pd_nrm (pd_callB call_lenA snd_len rfl Z.b_len (by decide +kernel) (pda_cons (pd_nrm (pd_var (pv 2))) (pda_nil)))) (pd_nrm (pd_callB call_lenA snd_len rfl Z.b_len (by decide +kernel) (pda_cons (pd_nrm (pd_var (pv 1))) (pda_nil)))) (by rfl))))) (pdss_one (pds_ret (pd_bl))) pdss_nil)
  (pdss_cons (pds_if (pdt_not (pdt_tru (pd_nrm (pd_callB (cr_all rfl) snd_all rfl Z.b_all (by decide +kernel) (pda_cons (pd_nrm (pd_lcX rfl sc_Asker_is_answer.nd (pdi_seq (pd_nrm (pd_var (pv 2)))) (own := [("sign", 4)]) (blkB_ok (by kernel_rfl)) (fun _ _ _ _ _ _ => ⟨_, (pdgw_name (pg_name sc_Asker_is_answer.nd (i := 4) rfl (Or.inl rfl)) (by decide))⟩) (fun _ _ _ _ _ _ => ⟨_, pdts_nil⟩) (fun _ _ _ _ _ _ => ⟨_, (pd_and (pd_callB call_isi snd_isi rfl Z.b_isinstance (by decide +kernel) (pda_cons (pd_var (pv 4)) (pda_cons (pd_bltn rfl Z.b_str (by decide +kernel)) (pda_nil)))) (pd_one (pd_cmp op_inA (snd_in (neg := false)) (pd_nrm (pd_var (pv 4))) (pd_nrm (pd_meth0 (pd_fld (pd_var (pv 0)) Z.cl_Asker Z.na_Asker_model) Z.cl_Plan Z.m_Plan_signs F_Plan_signs (hr.mono (by decide)) B_Plan_signs xok_blk)) (by rfl))))⟩))) (pda_nil)))))) (pdss_one (pds_ret (pd_bl))) pdss_nil)
  (pdss_cons (pds_set (i := 3) sc_Asker_is_answer.nd rfl (Or.inl rfl) (pd_meth (pd_var (pv 0)) Z.cl_Asker Z.m_Asker_signs_told F_Asker_signs_told (hr.mono (by decide)) B_Asker_signs_told xo (pda_cons (pd_var (pv 1)) (pda_nil))))
  (pdss_one (pds_ret (pd_cmp (op_eqD hu) snd_eq (pd_nrm (pd_callTy call_list_of snd_list rfl Z.b_list (by decide +kernel) (pda_cons (pd_nrm (pd_slice (pd_nrm (pd_var (pv 2))) pdo_none (pdo_some (pd_callB call_lenA snd_len rfl Z.b_len (by decide +kernel) (pda_cons (pd_nrm (pd_var (pv 3))) (pda_nil)))))) (pda_nil)))) (pd_nrm (pd_var (pv 3))) (by rfl))))))), ?_⟩
  rw [hW]
  exact L.Asker_is_answer h
def Ok_BadBox___init__ (P : Program) (w : World) (K : PySem.W.Frag) (mg : Str → Option Value) (base : Heap) : Prop := ∃ fd, FnOk P w K mg base CX0 1 (He.ma K (He.ga K "BadBox") "__init__") fd ["self", "word"] (spOex K "word") ∧ Binds K fd ["self", "word"] [] ∧ KBn K fd ["self", "word"] 1 ["word"] (fun us ws => us ++ ws) (fun vs zs => vs ++ zs)
theorem ok_BadBox___init__ (Z : Fx K mg) (L : Lw K) (R : Rw P w K mg base) : Ok_BadBox___init__ P w K mg base := by
  obtain ⟨fd, F⟩ := Z.d_BadBox___init__
  refine ⟨fd, F.ok sc_BadBox___init__ (fun vs H Q E ⟨a, C, y, e, _⟩ => by subst e; rfl) (fun cdv A outer s H vs Q E hr ⟨a, C, y, e, T, hno, ea, h⟩ => ⟨_, pss_one (ps_ost (pv 0) (pv 1)), ?_⟩), F.bindsN fun _ _ _ _ _ _ us hl => match us, hl with | [_, _], _ => rfl, kbn_of F 1 ["word"] fun _ _ _ _ _ _ us ws h1 h2 => match us, ws, h1, h2 with | [_], [_], _, _ => rfl⟩
  subst e
  exact ⟨_, rfl, _, rfl, a, C, rfl, T, hno, .inl ⟨ea, fun dx n ne => h dx n ne⟩⟩
def Ok_Asker_ask (P : Program) (w : World) (K : PySem.W.Frag) (mg : Str → Option Value) (base : Heap) : Prop := ∃ fd, FnOk P w K mg base (L2.CX P w) 4 (He.ma K (He.ga K "Asker") "ask") fd ["self", "word"] (liftSp K (sp_Asker_ask K w)) ∧ Binds K fd ["self", "word"] []
theorem ok_Asker_ask (Z : Fx K mg) (L : Lw K) (R : Rw P w K mg base) : Ok_Asker_ask P w K mg base := by
  obtain ⟨fd, F⟩ := Z.d_Asker_ask
  have hCs := okCs (P := P) (w := w) (base := base) Z L R
  obtain ⟨fd_need_letters, F_need_letters, B_need_letters⟩ := ok_need_letters (P := P) (w := w) (base := base) Z L R
  have kp_need_letters : PySem.W.keepIn K (.ref (He.ga K "need_letters")) = true := Z.d_need_letters.choose_spec.kp
  obtain ⟨fd_Plan_letters, F_Plan_letters, B_Plan_letters⟩ := ok_Plan_letters (P := P) (w := w) (base := base) Z L R
  obtain ⟨fd_Asker_known, F_Asker_known, B_Asker_known⟩ := ok_Asker_known (P := P) (w := w) (base := base) Z L R
  obtain ⟨fd_Asker_is_answer, F_Asker_is_answer, B_Asker_is_answer⟩ := ok_Asker_is_answer (P := P) (w := w) (base := base) Z L R
  obtain ⟨fd_BadBox___init__, F_BadBox___init__, B_BadBox___init__, kbx_BadBox___init__⟩ := ok_BadBox___init__ (P := P) (w := w) (base := base) Z L R
  refine ⟨fd, fn_mkD F sc_Asker_ask len2 (fun X Δ M ds Q E cx xo hW h => ?_), F.bindsN fun _ _ _ _ _ _ us hl => match us, hl with | [_, _], _ => rfl⟩
  obtain ⟨cdv, A, outer, s, H, Ev, eX, hr⟩ := cx
  subst eX
  have hu := hu_of hr
  have hu65 := hu65_of hr
  have hu1 := hu1_of hr
  refine ⟨_, rd_Asker_ask K w Δ.Wd, (pdss_cons (pds_expr (pd_call F_need_letters (hr.mono (by decide)) rfl Z.g_need_letters kp_need_letters B_need_letters xo (pda_cons (pd_var (pv 1)) (pda_cons (pd_meth0 (pd_fld (pd_var (pv 0)) Z.cl_Asker Z.na_Asker_model) Z.cl_Plan Z.m_Plan_letters F_Plan_letters (hr.mono (by decide)) B_Plan_letters xo) (pda_nil)))))
  (pdss_cons (pds_set (i := 2) sc_Asker_ask.nd rfl (Or.inl rfl) (pd_meth (pd_var (pv 0)) Z.cl_Asker Z.m_Asker_known F_Asker_known (hr.mono (by decide)) B_Asker_known xo (pda_cons (pd_var (pv 1)) (pda_nil))))
  (pdss_cons (pds_if (pdt_cmp op_notN snd_isnt (pd_nrm (pd_var (pv 2))) (pd_nrm (pd_non)) (by rfl)) (pdss_one (pds_ret (pd_var (pv 2)))) pdss_nil)
  (pdss_cons (pds_set (i := 3) sc_Asker_ask.nd rfl (Or.inl rfl) (pd_fld (pd_var (pv 0)) Z.cl_Asker Z.na_Asker_answers_by))
  (pdss_cons (pds_set (i := 2) sc_Asker_ask.nd rfl (Or.inl rfl) (pd_callV hCs (hr.mono (by decide)) rfl (by first | exact Or.inl rfl | exact Or.inr (Or.inl rfl) | exact Or.inr (Or.inr rfl)) xo (pda_cons (pd_var (pv 1)) (pda_nil))))
  (pdss_cons (pds_if (pdt_not (pdt_tru (pd_nrm (pd_meth (pd_var (pv 0)) Z.cl_Asker Z.m_Asker_is_answer F_Asker_is_answer (hr.mono (by decide)) B_Asker_is_answer xo (pda_cons (pd_var (pv 1)) (pda_cons (pd_var (pv 2)) (pda_nil))))))) (pdss_one (pds_raiseI Z.ox_BadBox Z.in_BadBox Z.it_BadBox F_BadBox___init__ Z.na_BadBox_word (hr.mono (by decide)) B_BadBox___init__ rfl Z.g_BadBox rfl xo (pd_var (pv 1)))) pdss_nil)
  (pdss_cons (pds_for (passes_of rfl) rfl (pdi_enum rfl Z.b_enumerate (pda_cons (pd_nrm (pd_var (pv 2))) (pda_nil))) (pdg_tup rfl (pdgs_cons (pdg_name (pg_name sc_Asker_ask.nd (i := 4) rfl (Or.inl rfl))) (pdgs_cons (pdg_name (pg_name sc_Asker_ask.nd (i := 5) rfl (Or.inl rfl))) (pdgs_nil)))) (pdss_one (pds_xput (hu10 hu) (pd_fld (pd_var (pv 0)) Z.cl_Asker Z.na_Asker_last_told) (pd_slice (pd_nrm (pd_var (pv 1))) pdo_none (pdo_some (pd_op op_addA snd_add (pd_nrm (pd_var (pv 4))) (pd_nrm (pd_int))))) (pd_var (pv 5)))))
  (pdss_cons (pds_expr (pd_app (pd_fld (pd_var (pv 0)) Z.cl_Asker Z.na_Asker_rows) (pd_var (pv 1))))
  (pdss_one (pds_ret (pd_var (pv 2)))))))))))), ?_⟩
  rw [hW]
  exact L.Asker_ask h
def Ok__law_refused (P : Program) (w : World) (K : PySem.W.Frag) (mg : Str → Option Value) (base : Heap) : Prop := ∃ fd, FnOk P w K mg base (L2.CX P w) 5 (He.ga K "_law_refused") fd ["_law_one", "_law_thing_here"] (liftSp K (sp__law_refused K w)) ∧ Binds K fd ["_law_one", "_law_thing_here"] []
theorem ok__law_refused (Z : Fx K mg) (L : Lw K) (R : Rw P w K mg base) : Ok__law_refused P w K mg base := by
  obtain ⟨fd, F⟩ := Z.d__law_refused
  obtain ⟨fd_Asker_ask, F_Asker_ask, B_Asker_ask⟩ := ok_Asker_ask (P := P) (w := w) (base := base) Z L R
  refine ⟨fd, fn_mkD F sc__law_refused len2 (fun X Δ M ds Q E cx xo hW h => ?_), F.bindsN fun _ _ _ _ _ _ us hl => match us, hl with | [_, _], _ => rfl⟩
  obtain ⟨cdv, A, outer, s, H, Ev, eX, hr⟩ := cx
  subst eX
  have hu := hu_of hr
  have hu65 := hu65_of hr
  have hu1 := hu1_of hr
  refine ⟨_, rd__law_refused K w Δ.Wd, (pdss_cons (pds_set (i := 2) sc__law_refused.nd rfl (Or.inl rfl) (pd_non))
  (pdss_cons (pds_tryKeepX (i := 3) rfl rfl rfl sc__law_refused.nd rfl rfl ⟨rfl, by decide, .inl Z.g_BoxError⟩ xo (fun _ _ Wd _ _ x0' xo' po => ⟨_, (pdss_one (pds_expr (pd_meth (pd_var (pv 0)) Z.cl_Asker Z.m_Asker_ask F_Asker_ask (hr.mono (by decide)) B_Asker_ask xo' (pda_cons (pd_var (pv 1)) (pda_nil)))))⟩) (fun a oe cls d pn I0 fs hz hf er => ⟨_, (pdss_one (pds_set (i := 2) sc__law_refused.nd rfl (Or.inl rfl) (pd_var (pv 3))))⟩))
  (pdss_cons (pds_if (pdt_cmp op_isN snd_is (pd_nrm (pd_var (pv 2))) (pd_nrm (pd_non)) (by rfl)) (pdss_one (pds_ret (pd_non))) pdss_nil)
  (pdss_cons (pds_if (pdt_w (pdw_or (pdt_tru (pd_nrm (pd_callB call_isiET snd_isiXT rfl Z.b_isinstance (by decide +kernel) (pda_cons (pd_var (pv 2)) (pda_cons (pd_tupH (pda_cons (pd_globR rfl Z.g_BadBox) (pda_cons (pd_globR rfl Z.g_NoMany) (pda_cons (pd_globR rfl Z.g_NoPair) (pda_cons (pd_globR rfl Z.g_NoPlan) (pda_cons (pd_globR rfl Z.g_TooMany) (pda_nil))))))) (pda_nil)))))) (pdw_or1 (pdt_not (pdt_tru (pd_nrm (pd_callB call_isiX snd_isiX rfl Z.b_isinstance (by decide +kernel) (pda_cons (pd_var (pv 2)) (pda_cons (pd_globR rfl Z.g_NoWord) (pda_nil)))))))))) (pdss_one (pds_ret (pd_neg (pd_int)))) pdss_nil)
  (pdss_one (pds_ret (pd_ifExp (pdt_w (pdw_or (pdt_tru (pd_nrm (pd_callB call_isi snd_isi rfl Z.b_isinstance (by decide +kernel) (pda_cons (pd_xv (pd_var (pv 2))) (pda_cons (pd_bltn rfl Z.b_bool (by decide +kernel)) (pda_nil)))))) (pdw_or1 (pdt_not (pdt_tru (pd_nrm (pd_callB call_isiX snd_isiY rfl Z.b_isinstance (by decide +kernel) (pda_cons (pd_var (pv 2)) (pda_cons (pd_bltn rfl Z.b_ValueError (by decide +kernel)) (pda_nil)))))))))) (pd_neg (pd_int)) (pd_xv (pd_var (pv 2)))))))))), ?_⟩
  rw [hW]
  exact L._law_refused h
theorem okl_law (Z : Fx K mg) (L : Lw K) (R : Rw P w K mg base) {fd : FuncData} (F : FunD K "law" "law" (defArgs (top 41)) (defBody (top 41)) (defScope (top 41)) [] [] (He.ga K "law") fd) : FnOk P w K mg base (L2.CX P w) 6 (He.ga K "law") fd ["_law_script"] (liftSp K (sp_law K)) := by
  obtain ⟨fd__law_begin, F__law_begin, B__law_begin⟩ := ok__law_begin (P := P) (w := w) (base := base) Z L R
  have kp__law_begin : PySem.W.keepIn K (.ref (He.ga K "_law_begin")) = true := Z.d__law_begin.choose_spec.kp
  obtain ⟨fd__law_parts, F__law_parts, B__law_parts⟩ := ok__law_parts (P := P) (w := w) (base := base) Z L R
  have kp__law_parts : PySem.W.keepIn K (.ref (He.ga K "_law_parts")) = true := Z.d__law_parts.choose_spec.kp
  obtain ⟨fd__law_draw, F__law_draw, B__law_draw⟩ := ok__law_draw (P := P) (w := w) (base := base) Z L R
  have kp__law_draw : PySem.W.keepIn K (.ref (He.ga K "_law_draw")) = true := Z.d__law_draw.choose_spec.kp
  obtain ⟨fd__law_hidden, F__law_hidden, B__law_hidden⟩ := ok__law_hidden (P := P) (w := w) (base := base) Z L R
  have kp__law_hidden : PySem.W.keepIn K (.ref (He.ga K "_law_hidden")) = true := Z.d__law_hidden.choose_spec.kp
  obtain ⟨fd_Asker___init__, F_Asker___init__, B_Asker___init__⟩ := ok_Asker___init__ (P := P) (w := w) (base := base) Z L R
  obtain ⟨fd__law_maker, F__law_maker, B__law_maker⟩ := ok__law_maker (P := P) (w := w) (base := base) Z L R
  have kp__law_maker : PySem.W.keepIn K (.ref (He.ga K "_law_maker")) = true := Z.d__law_maker.choose_spec.kp
  obtain ⟨fd_Plan___init__, F_Plan___init__, B_Plan___init__⟩ := ok_Plan___init__ (P := P) (w := w) (base := base) Z L R
  obtain ⟨fd__law_thing, F__law_thing, B__law_thing⟩ := ok__law_thing (P := P) (w := w) (base := base) Z L R
  have kp__law_thing : PySem.W.keepIn K (.ref (He.ga K "_law_thing")) = true := Z.d__law_thing.choose_spec.kp
  obtain ⟨fd__law_place, F__law_place, B__law_place⟩ := ok__law_place (P := P) (w := w) (base := base) Z L R
  have kp__law_place : PySem.W.keepIn K (.ref (He.ga K "_law_place")) = true := Z.d__law_place.choose_spec.kp
  obtain ⟨fd_Asker_known, F_Asker_known, B_Asker_known⟩ := ok_Asker_known (P := P) (w := w) (base := base) Z L R
  obtain ⟨fd__law_refused, F__law_refused, B__law_refused⟩ := ok__law_refused (P := P) (w := w) (base := base) Z L R
  have kp__law_refused : PySem.W.keepIn K (.ref (He.ga K "_law_refused")) = true := Z.d__law_refused.choose_spec.kp
  obtain ⟨fd__law_along, F__law_along, B__law_along⟩ := ok__law_along (P := P) (w := w) (base := base) Z L R
  have kp__law_along : PySem.W.keepIn K (.ref (He.ga K "_law_along")) = true := Z.d__law_along.choose_spec.kp
  refine fn_mkD F sc_law len1 (fun X Δ M ds Q E cx xo hW h => ?_)
  obtain ⟨cdv, A, outer, s, H, Ev, eX, hr⟩ := cx
  subst eX
  have hu := hu_of hr
  have hu65 := hu65_of hr
  have hu1 := hu1_of hr
  refine ⟨_, rd_law K w Δ.Wd, (pdss_cons (pds_set (i := 1) sc_law.nd rfl (Or.inl rfl) (pd_call F__law_begin (hr.mono (by decide)) rfl Z.g__law_begin kp__law_begin B__law_begin xo (pda_cons (pd_var (pv 0)) (pda_nil))))
  (pdss_cons (pds_set (i := 2) sc_law.nd rfl (Or.inl rfl) (pd_call F__law_parts (hr.mono (by decide)) rfl Z.g__law_parts kp__law_parts B__law_parts xo (pda_cons (pd_var (pv 1)) (pda_cons (pd_int) (pda_cons (pd_op op_addA snd_add (pd_nrm (pd_int)) (pd_nrm (pd_call F__law_draw (hr.mono (by decide)) rfl Z.g__law_draw kp__law_draw B__law_draw xo (pda_cons (pd_var (pv 1)) (pda_cons (pd_int) (pda_nil)))))) (pda_cons (pd_ix (pd_nrm (pd_lst (pda_cons (pd_int) (pda_cons (pd_int) (pda_nil))))) (pd_call F__law_draw (hr.mono (by decide)) rfl Z.g__law_draw kp__law_draw B__law_draw xo (pda_cons (pd_var (pv 1)) (pda_cons (pd_int) (pda_nil))))) (pda_nil)))))))
  (pdss_cons (pds_set (i := 3) sc_law.nd rfl (Or.inl rfl) (pd_lstM (pda_nil)))
  (pdss_cons (pds_set (i := 4) sc_law.nd rfl (Or.inl rfl) (pd_call F__law_hidden (hr.mono (by decide)) rfl Z.g__law_hidden kp__law_hidden B__law_hidden xo (pda_cons (pd_var (pv 1)) (pda_cons (pd_var (pv 2)) (pda_cons (pd_int) (pda_nil))))))
  (pdss_cons (pds_set (i := 5) sc_law.nd rfl (Or.inr rfl) (pd_make Z.mk_Asker F_Asker___init__ (hr.mono (by decide)) rfl Z.g_Asker B_Asker___init__ xo (pda_cons (pd_make Z.mk_Plan F_Plan___init__ (hr.mono (by decide)) rfl Z.g_Plan B_Plan___init__ xo (pda_cons (pd_ix (pd_nrm (pd_var (pv 2))) (pd_int)) (pda_cons (pd_ix (pd_nrm (pd_var (pv 2))) (pd_int)) (pda_cons (pd_ix (pd_nrm (pd_var (pv 2))) (pd_int)) (pda_nil))))) (pda_cons (pd_call F__law_maker (hr.mono (by decide)) rfl Z.g__law_maker kp__law_maker B__law_maker xo (pda_cons (pd_var (pv 4)) (pda_cons (pd_var (pv 3)) (pda_nil)))) (pda_nil)))))
  (pdss_cons (pds_for (passes_of rfl) rfl (pdi_rng1 rfl Z.b_range (pda_cons (pd_nrm (pd_op op_addA snd_add (pd_nrm (pd_int)) (pd_nrm (pd_callB (call_min2 rfl) snd_min rfl Z.b_min (by decide +kernel) (pda_cons (pd_nrm (pd_callB call_lenA snd_len rfl Z.b_len (by decide +kernel) (pda_cons (pd_nrm (pd_var (pv 0))) (pda_nil)))) (pda_cons (pd_nrm (pd_int)) (pda_nil))))))) (pda_nil))) (pdg_name (pg_name sc_law.nd (i := 6) rfl (Or.inl rfl))) (pdss_cons (pds_set (i := 7) sc_law.nd rfl (Or.inl rfl) (pd_call F__law_thing (hr.mono (by decide)) rfl Z.g__law_thing kp__law_thing B__law_thing xo (pda_cons (pd_var (pv 1)) (pda_cons (pd_var (pv 2)) (pda_nil)))))
  (pdss_cons (pds_par (i := 8) (j := 9) rfl sc_law.nd rfl rfl (by decide) rfl rfl (pd_call F__law_place (hr.mono (by decide)) rfl Z.g__law_place kp__law_place B__law_place xo (pda_cons (pd_var (pv 2)) (pda_cons (pd_var (pv 7)) (pda_nil)))) (pd_callB call_lenA snd_len rfl Z.b_len (by decide +kernel) (pda_cons (pd_nrm (pd_var (pv 3))) (pda_nil))))
  (pdss_cons (pds_if (pdt_w (pdw_and (pdt_cmp op_notN snd_isnt (pd_nrm (pd_var (pv 8))) (pd_nrm (pd_non)) (by rfl)) (pdw_and1 (pdt_cmp op_notN snd_isnt (pd_nrm (pd_meth (pd_var (pv 5)) Z.cl_Asker Z.m_Asker_known F_Asker_known (hr.mono (by decide)) B_Asker_known xo (pda_cons (pd_var (pv 7)) (pda_nil)))) (pd_nrm (pd_non)) (by rfl))))) (pdss_one (pds_ret (pd_bl))) pdss_nil)
  (pdss_cons (pds_if (pdt_w (pdw_or (pdt_cmp (op_neD hu) snd_ne (pd_nrm (pd_call F__law_refused (hr.mono (by decide)) rfl Z.g__law_refused kp__law_refused B__law_refused xo (pda_cons (pd_var (pv 5)) (pda_cons (pd_var (pv 7)) (pda_nil))))) (pd_nrm (pd_var (pv 8))) (by rfl)) (pdw_or1 (pdt_w (pdw_and (pdt_cmp op_notN snd_isnt (pd_nrm (pd_var (pv 8))) (pd_nrm (pd_non)) (by rfl)) (pdw_and1 (pdt_cmp (op_neD hu) snd_ne (pd_nrm (pd_callB call_lenA snd_len rfl Z.b_len (by decide +kernel) (pda_cons (pd_nrm (pd_var (pv 3))) (pda_nil)))) (pd_nrm (pd_var (pv 9))) (by rfl)))))))) (pdss_one (pds_ret (pd_bl))) pdss_nil)
  (pdss_one (pds_if (pdt_w (pdw_and (pdt_cmp op_isN snd_is (pd_nrm (pd_var (pv 8))) (pd_nrm (pd_non)) (by rfl)) (pdw_and1 (pdt_cmp (op_neD hu) snd_ne (pd_nrm (pd_meth (pd_var (pv 5)) Z.cl_Asker Z.m_Asker_known F_Asker_known (hr.mono (by decide)) B_Asker_known xo (pda_cons (pd_var (pv 7)) (pda_nil)))) (pd_nrm (pd_callTy call_tuple_of snd_tup rfl Z.b_tuple (by decide +kernel) (pda_cons (pd_nrm (pd_call F__law_along (hr.mono (by decide)) rfl Z.g__law_along kp__law_along B__law_along xo (pda_cons (pd_var (pv 4)) (pda_cons (pd_var (pv 7)) (pda_nil))))) (pda_nil)))) (by rfl))))) (pdss_one (pds_ret (pd_bl))) pdss_nil)))))))
  (pdss_one (pds_ret (pd_cmp (op_eqD hu) snd_eq (pd_nrm (pd_lcX rfl sc_law.nd (pdi_seq (pd_nrm (pd_lst (pda_cons (pd_non) (pda_cons (pd_int) (pda_cons (pd_lst (pda_nil)) (pda_cons (pd_newK) (pda_cons (pd_str) (pda_cons (pd_tup (pda_cons (pd_str) (pda_nil))) (pda_cons (pd_tup (pda_cons (pd_non) (pda_nil))) (pda_cons (pd_lst (pda_cons (pd_tup (pda_cons (pd_str) (pda_nil))) (pda_nil))) (pda_nil)))))))))))) (own := [("_law_odd", 10)]) (blkB_ok (by kernel_rfl)) (fun _ _ _ _ _ _ => ⟨_, (pdgw_name (pg_name sc_law.nd (i := 10) rfl (Or.inl rfl)) (by decide))⟩) (fun _ _ _ _ _ _ => ⟨_, (pdts_one (pdt_cmp op_notN snd_isnt (pd_nrm (pd_meth (pd_var (pv 5)) Z.cl_Asker Z.m_Asker_known F_Asker_known (hr.mono (by decide)) B_Asker_known xok_blk (pda_cons (pd_var (pv 10)) (pda_nil)))) (pd_nrm (pd_non)) (by rfl)))⟩) (fun _ _ _ _ _ _ => ⟨_, (pd_var (pv 10))⟩))) (pd_nrm (pd_lst (pda_nil))) (by rfl)))))))))), ?_⟩
  rw [hW]
  exact L.law h
end
end BB
set_option maxHeartbeats 4000000
namespace BB
open L2 PySem PySem.Spec PyProof.Rows
theorem lwAll (K : PySem.W.Frag) : Lw K where
  _law_pick := lw__law_pick
  _law_names := lw__law_names
  _law_parts := lw__law_parts
  _law_hidden := lw__law_hidden
  Asker___init__ := lw_Asker___init__
  _law_maker := lw__law_maker
  is_name := lw_is_name
  are_names := lw_are_names
  is_count := lw_is_count
  is_door := lw_is_door
  are_rooms := lw_are_rooms
  Plan___init__ := lw_Plan___init__
  _law_thing := lw__law_thing
  _law_place := lw__law_place
  Asker_signs_told := lw_Asker_signs_told
  Asker_known := lw_Asker_known
  need_letters := lw_need_letters
  Plan_letters := lw_Plan_letters
  _law_along := lw__law_along
  _law_noted := lw__law_noted
  _law_maker_lam := lw__law_maker_lam
  Plan_signs := lw_Plan_signs
  Asker_is_answer := lw_Asker_is_answer
  Asker_ask := lw_Asker_ask
  _law_refused := lw__law_refused
  law := lw_law
section
variable {base : Heap} {mg : Str → Option Value} {K : PySem.W.Frag} {P : Program} {w : World}
theorem lenX : ∀ ds M Q E, spX_draw ds M Q E → ds.length = 2 := by
  rintro _ _ _ _ ⟨_, _, _, _, _, _, _, rfl, _⟩
  rfl
theorem ok_draw (Z : Fx K mg) : Ok__law_draw P w K mg base := by
  obtain ⟨fd, F⟩ := Z.d__law_draw
  have F1 : FnOk P w K mg base (L2.CX P w) 1 (He.ga K "_law_draw") fd ["_law_state", "_law_size"] (liftSp K spX_draw) := by
    refine fn_mkD F sc__law_draw lenX (fun X Δ M ds Q E cx xo hW h => ?_)
    obtain ⟨cdv, A, outer, s, H, Ev, eX, hr⟩ := cx
    subst eX
    have hu := hu_of hr
    exact ⟨_, rdX_draw, (pdss_cons (pds_set (i := 2) sc__law_draw.nd rfl (Or.inl rfl) (pd_ix (pd_nrm (pd_var (pv 0))) (pd_int)))
  (pdss_cons (pds_set (i := 3) sc__law_draw.nd rfl (Or.inl rfl) (pd_op op_mod snd_mod (pd_nrm (pd_ix (pd_nrm (pd_var (pv 0))) (pd_int))) (pd_nrm (pd_callB call_lenA snd_len rfl Z.b_len (by decide +kernel) (pda_cons (pd_nrm (pd_var (pv 2))) (pda_nil))))))
  (pdss_cons (pds_set (i := 4) sc__law_draw.nd rfl (Or.inl rfl) (pd_ix (pd_nrm (pd_var (pv 2))) (pd_var (pv 3))))
  (pdss_cons (pds_if (pdt_cmp op_ge snd_int (pd_nrm (pd_var (pv 4))) (pd_nrm (pd_int)) (by rfl)) (pdss_cons (pds_asg (pd_op op_fdiv snd_div (pd_nrm (pd_var (pv 4))) (pd_nrm (pd_var (pv 1)))) (pdg_sub (pd_var (pv 2)) (pd_var (pv 3))))
  (pdss_one (pds_ret (pd_op op_mod snd_mod (pd_nrm (pd_var (pv 4))) (pd_nrm (pd_var (pv 1))))))) pdss_nil)
  (pdss_cons (pds_asg (pd_op op_addA snd_add (pd_nrm (pd_ix (pd_nrm (pd_var (pv 0))) (pd_int))) (pd_nrm (pd_int))) (pdg_sub (pd_var (pv 0)) (pd_int)))
  (pdss_cons (pds_asg (pd_op op_mod snd_mod (pd_nrm (pd_op op_addA snd_add (pd_nrm (pd_op op_addA snd_add (pd_nrm (pd_op op_mulB snd_mulE (pd_nrm (pd_ix (pd_nrm (pd_var (pv 0))) (pd_int))) (pd_nrm (pd_int)))) (pd_nrm (pd_var (pv 4))))) (pd_nrm (pd_int)))) (pd_nrm (pd_int))) (pdg_sub (pd_var (pv 0)) (pd_int)))
  (pdss_one (pds_ret (pd_op op_mod snd_mod (pd_nrm (pd_op op_fdiv snd_div (pd_nrm (pd_op op_mod snd_mod (pd_nrm (pd_op op_mulB snd_mulE (pd_nrm (pd_ix (pd_nrm (pd_var (pv 0))) (pd_int))) (pd_nrm (pd_ix (pd_nrm (pd_var (pv 0))) (pd_int))))) (pd_nrm (pd_int)))) (pd_nrm (pd_int)))) (pd_nrm (pd_var (pv 1)))))))))))), lwX_draw h⟩
  refine ⟨fd, F1.imp (fun vs H Q E h => ?_), F.bindsN fun _ _ _ _ _ _ us hl => match us, hl with | [_, _], _ => rfl⟩
  obtain ⟨F0, I, M, ds, Qd, Ed, A, r, ⟨s, n, rfl, a, c, m, rfl, hm, rfl, h0, h1, q⟩, hn, hx⟩ := h
  obtain ⟨cells, p, x, g, hca, hMc, A1⟩ := A.explode hm
  refine ⟨F0, I, _, [.ref a, .int m], fun d M' => ∃ cells' p' x' r, Good cells' p' x' ∧ 0 ≤ r ∧ r < m ∧ d = .int r ∧ M' = openM M a c cells' p' x', fun _ _ _ => False, A1, r,
    ⟨a, c, M, cells, p, x, m, rfl, hca, rfl, g, h0, h1, fun cells' p' x' r g' k1 k2 => ⟨cells', p', x', r, g', k1, k2, rfl, rfl⟩⟩, ?_, fun _ _ _ _ _ _ _ _ _ w => w.elim⟩
  rintro d M' I' H' v x2 A2 rv ⟨cells', p', x', r', g', k1, k2, rfl, rfl⟩
  exact hn _ M I' H' v x2 (A2.implode hm hMc hca g') rv (q r' k1 k2)
theorem opened {M : Mem} {a c : Addr} {cells : List Int} {p x : Int} (hca : c ≠ a) : openM M a c cells p x = openM (mset (mset M c (.own a)) a (.gen c)) a c cells p x := by
  unfold openM
  funext b
  by_cases h1 : b = a
  · rw [h1, mset_same, mset_same]
  · rw [mset_ne h1, mset_ne h1]
    by_cases h2 : b = c
    · rw [h2, mset_same, mset_same]
    · rw [mset_ne h2, mset_ne h2, mset_ne h1, mset_ne h2]
theorem ok_begun (Z : Fx K mg) : Ok__law_begin P w K mg base := by
  obtain ⟨fd, F⟩ := Z.d__law_begin
  have F1 : FnOk P w K mg base (L2.CX P w) 1 (He.ga K "_law_begin") fd ["_law_script"] (liftSp K spX_begun) := by
    refine fn_mkD F sc__law_begin len1 (fun X Δ M ds Q E cx xo hW h => ?_)
    obtain ⟨cdv, A, outer, s, H, Ev, eX, hr⟩ := cx
    subst eX
    have hu := hu_of hr
    exact ⟨_, rdX_state, (pdss_one (pds_ret (pd_lstM (pda_cons (pd_orX (pd_lcXM rfl sc__law_begin.nd (pdi_seq (pd_nrm (pd_slice (pd_nrm (pd_var (pv 0))) pdo_none (pdo_some (pd_int))))) (own := [("_law_cell", 1)]) (blkB_ok (by kernel_rfl)) (fun _ _ _ _ _ _ => ⟨_, (pdgw_name (pg_name sc__law_begin.nd (i := 1) rfl (Or.inl rfl)) (by decide))⟩) (fun _ _ _ _ _ _ => ⟨_, pdts_nil⟩) (fun _ _ _ _ _ _ => ⟨_, (pd_callB call_abs snd_abs rfl Z.b_abs (by decide +kernel) (pda_cons (pd_nrm (pd_var (pv 1))) (pda_nil)))⟩)) (pd_one (pd_lstM (pda_cons (pd_int) (pda_nil))))) (pda_cons (pd_int) (pda_cons (pd_int) (pda_nil))))))), lwX_state h⟩
  refine ⟨fd, F1.imp (fun vs H Q E h => ?_), F.bindsN fun _ _ _ _ _ _ us hl => match us, hl with | [_], _ => rfl⟩
  obtain ⟨F0, I, M, ds, Qd, Ed, A, r, ⟨s, rfl, xs, rfl, hl, q⟩, hn, hx⟩ := h
  refine ⟨F0, I, M, _, fun d M' => ∃ a c cells, M a = none ∧ M c = none ∧ c ≠ a ∧ Good cells 0 1 ∧ d = .ref a ∧ M' = openM M a c cells 0 1, fun _ _ _ => False, A, r,
    ⟨_, rfl, xs, rfl, hl, fun a c cells k1 k2 k3 k4 => ⟨a, c, cells, k1, k2, k3, k4, rfl, rfl⟩⟩, ?_, fun _ _ _ _ _ _ _ _ _ w => w.elim⟩
  rintro d M' I' H' v x2 A2 rv ⟨a, c, cells, k1, k2, k3, k4, rfl, rfl⟩
  rw [opened k3] at A2
  exact hn _ _ I' H' v x2 (A2.implode mset_same (by rw [mset_ne k3, mset_same]) k3 k4) rv (q a c k1 k2 k3.symm)
theorem rwAll (Z : Fx K mg) (tb_0 : LamX.TabB base mg (codF K "_law_maker") (tabF K "_law_maker")) : Rw P w K mg base := ⟨ok_begun Z, ok_draw Z, tb_0⟩
theorem law_start (Z : Fx K mg) (H : Hp) (a : Addr) (ns : List Int) (hl : ns.length ≤ 63) (hT : H (tabF K "_law_maker") = some (.tbl #[])) (hS : SqL K H a (ns.map V.int)) : liftSp K (sp_law K) [.ref a] H (fun v _ => v = .bl true) (fun _ _ _ => False) := by
  have ne : ∀ {u}, H a = some u → (∀ ps, u ≠ .tbl ps) → a ≠ (tabF K "_law_maker") := fun {u} e n z => by
    rw [z, hT] at e
    exact n _ (Option.some.inj e).symm
  have hS2 : SqL K (fun b => if b = (tabF K "_law_maker") then none else H b) a (ns.map V.int) := by
    rcases hS with (h | ⟨o, h⟩) | h
    · exact .inl (.inl ((if_neg (ne h fun _ z => nomatch z)).trans h))
    · exact .inl (.inr ⟨o, (if_neg (ne h fun _ z => nomatch z)).trans h⟩)
    · exact .inr h
  have At0 : At K (fun _ => none) (fun b => if b = (tabF K "_law_maker") then none else H b) (fun b => if b = (tabF K "_law_maker") then some (.tab "_law_maker.<locals>.<lambda>") else none) H := by
    refine ⟨fun b u e => ?_, fun b u e => ?_, (by intro _ _ e; cases e), (by intro _ _ e; cases e)⟩
    · by_cases hb : b = (tabF K "_law_maker")
      · rw [if_pos hb] at e; cases e
      · rw [if_neg hb] at e; exact e
    · by_cases hb : b = (tabF K "_law_maker")
      · rw [if_pos hb] at e
        cases e
        exact ⟨if_pos hb, #[], by rw [hb]; exact hT, True.intro, fun pos cv hc => nomatch (show (none : Option Value) = some cv from hc)⟩
      · rw [if_neg hb] at e; cases e
  exact ⟨_, _, _, [.frz (ns.map .int)], fun d _ => d = .bl true, fun _ _ _ => False, At0, .cons (.frz hS2 (Rps.ofInts ns)) .nil,
    ⟨_, rfl, ns, rfl, hl, fun _ hb => if_neg hb, if_pos rfl, ⟨Z.xq_NoWord, Z.xf_NoWord, Z.na_NoWord_at, Z.exm_NoWord_BoxError, Z.kitB_NoWord_ValueError, (fun d hd => by simp only [List.mem_cons, List.not_mem_nil, or_false] at hd; rcases hd with rfl | rfl | rfl | rfl | rfl <;> first | exact Z.kit_NoWord_BadBox | exact Z.kit_NoWord_NoMany | exact Z.kit_NoWord_NoPair | exact Z.kit_NoWord_NoPlan | exact Z.kit_NoWord_TooMany), Z.kit_NoWord_NoWord⟩, fun _ => rfl⟩, (by intro d M' I' H' v x A r q; subst q; exact r.bl_inv), fun _ _ _ _ _ _ _ _ _ w => w⟩
end
end BB
set_option maxHeartbeats 0
namespace BBH
open L2 PySem PySem.Spec PyProof.Rows BB
theorem fx {K : PySem.W.Frag} {h : Heap} {mg : Str → Option Value} {w : World} (X : K.In h) (G : h.Ns mainGlobals mg) (c : He.SaysX fa fn [] [(("_law_maker" : PySem.Str), none)] (exB bf) w h K) : Fx K mg where
  d__law_begin := c.t.d.def_ 0 (d := dd_0) rfl
  d__law_draw := c.t.d.def_ 1 (d := dd_1) rfl
  d__law_pick := c.t.d.def_ 2 (d := dd_2) rfl
  d__law_names := c.t.d.def_ 3 (d := dd_3) rfl
  d__law_parts := c.t.d.def_ 4 (d := dd_4) rfl
  d__law_hidden := c.t.d.def_ 5 (d := dd_5) rfl
  d_Asker___init__ := c.t.d.def_ 6 (d := dd_6) rfl
  d__law_maker := c.t.d.def_ 7 (d := dd_7) rfl
  d_is_name := c.t.d.def_ 8 (d := dd_8) rfl
  d_are_names := c.t.d.def_ 9 (d := dd_9) rfl
  d_is_count := c.t.d.def_ 10 (d := dd_10) rfl
  d_is_door := c.t.d.def_ 11 (d := dd_11) rfl
  d_are_rooms := c.t.d.def_ 12 (d := dd_12) rfl
  d_Plan___init__ := c.t.d.def_ 13 (d := dd_13) rfl
  d__law_thing := c.t.d.def_ 14 (d := dd_14) rfl
  d__law_place := c.t.d.def_ 15 (d := dd_15) rfl
  d_Asker_signs_told := c.t.d.def_ 16 (d := dd_16) rfl
  d_Asker_known := c.t.d.def_ 17 (d := dd_17) rfl
  d_NoWord___init__ := c.t.d.def_ 18 (d := dd_18) rfl
  d_need_letters := c.t.d.def_ 19 (d := dd_19) rfl
  d_Plan_letters := c.t.d.def_ 20 (d := dd_20) rfl
  d__law_along := c.t.d.def_ 21 (d := dd_21) rfl
  d__law_noted := c.t.d.def_ 22 (d := dd_22) rfl
  d_Plan_signs := c.t.d.def_ 23 (d := dd_23) rfl
  d_Asker_is_answer := c.t.d.def_ 24 (d := dd_24) rfl
  d_BadBox___init__ := c.t.d.def_ 25 (d := dd_25) rfl
  d_Asker_ask := c.t.d.def_ 26 (d := dd_26) rfl
  d__law_refused := c.t.d.def_ 27 (d := dd_27) rfl
  d_law := c.t.d.def_ 28 (d := dd_28) rfl
  b_ValueError := He.free_ok X G (c.t.d.fact 0 (f := .free "ValueError") rfl)
  b_abs := He.free_ok X G (c.t.d.fact 1 (f := .free "abs") rfl)
  b_all := He.free_ok X G (c.t.d.fact 2 (f := .free "all") rfl)
  b_bool := He.free_ok X G (c.t.d.fact 3 (f := .free "bool") rfl)
  b_enumerate := He.free_ok X G (c.t.d.fact 4 (f := .free "enumerate") rfl)
  b_int := He.free_ok X G (c.t.d.fact 5 (f := .free "int") rfl)
  b_isinstance := He.free_ok X G (c.t.d.fact 6 (f := .free "isinstance") rfl)
  b_len := He.free_ok X G (c.t.d.fact 7 (f := .free "len") rfl)
  b_list := He.free_ok X G (c.t.d.fact 8 (f := .free "list") rfl)
  b_min := He.free_ok X G (c.t.d.fact 9 (f := .free "min") rfl)
  b_range := He.free_ok X G (c.t.d.fact 10 (f := .free "range") rfl)
  b_sorted := He.free_ok X G (c.t.d.fact 11 (f := .free "sorted") rfl)
  b_str := He.free_ok X G (c.t.d.fact 12 (f := .free "str") rfl)
  b_tuple := He.free_ok X G (c.t.d.fact 13 (f := .free "tuple") rfl)
  b_zip := He.free_ok X G (c.t.d.fact 14 (f := .free "zip") rfl)
  cl_Asker := He.cls_ok (c.t.d.fact 15 (f := .cls "Asker") rfl)
  cl_Plan := He.cls_ok (c.t.d.fact 16 (f := .cls "Plan") rfl)
  e_NoPlan :=  (c.t.d.fact 17 (f := .exc "NoPlan") rfl)
  exm_NoWord_BoxError := He.exm_ok (c.t.d.fact 18 (f := .exm "NoWord" "BoxError" true) rfl)
  g_Asker := He.glo_ok X G (c.t.d.fact 19 (f := .glo "Asker") rfl)
  g_BadBox := He.glo_ok X G (c.t.d.fact 20 (f := .glo "BadBox") rfl)
  g_BoxError := He.glo_ok X G (c.t.d.fact 21 (f := .glo "BoxError") rfl)
  g_NoMany := He.glo_ok X G (c.t.d.fact 22 (f := .glo "NoMany") rfl)
  g_NoPair := He.glo_ok X G (c.t.d.fact 23 (f := .glo "NoPair") rfl)
  g_NoPlan := He.glo_ok X G (c.t.d.fact 24 (f := .glo "NoPlan") rfl)
  g_NoWord := He.glo_ok X G (c.t.d.fact 25 (f := .glo "NoWord") rfl)
  g_Plan := He.glo_ok X G (c.t.d.fact 26 (f := .glo "Plan") rfl)
  g_TooMany := He.glo_ok X G (c.t.d.fact 27 (f := .glo "TooMany") rfl)
  g__law_along := He.glo_ok X G (c.t.d.fact 28 (f := .glo "_law_along") rfl)
  g__law_begin := He.glo_ok X G (c.t.d.fact 29 (f := .glo "_law_begin") rfl)
  g__law_draw := He.glo_ok X G (c.t.d.fact 30 (f := .glo "_law_draw") rfl)
  g__law_hidden := He.glo_ok X G (c.t.d.fact 31 (f := .glo "_law_hidden") rfl)
  g__law_maker := He.glo_ok X G (c.t.d.fact 32 (f := .glo "_law_maker") rfl)
  g__law_names := He.glo_ok X G (c.t.d.fact 33 (f := .glo "_law_names") rfl)
  g__law_noted := He.glo_ok X G (c.t.d.fact 34 (f := .glo "_law_noted") rfl)
  g__law_parts := He.glo_ok X G (c.t.d.fact 35 (f := .glo "_law_parts") rfl)
  g__law_pick := He.glo_ok X G (c.t.d.fact 36 (f := .glo "_law_pick") rfl)
  g__law_place := He.glo_ok X G (c.t.d.fact 37 (f := .glo "_law_place") rfl)
  g__law_refused := He.glo_ok X G (c.t.d.fact 38 (f := .glo "_law_refused") rfl)
  g__law_thing := He.glo_ok X G (c.t.d.fact 39 (f := .glo "_law_thing") rfl)
  g_are_names := He.glo_ok X G (c.t.d.fact 40 (f := .glo "are_names") rfl)
  g_are_rooms := He.glo_ok X G (c.t.d.fact 41 (f := .glo "are_rooms") rfl)
  g_is_count := He.glo_ok X G (c.t.d.fact 42 (f := .glo "is_count") rfl)
  g_is_door := He.glo_ok X G (c.t.d.fact 43 (f := .glo "is_door") rfl)
  g_is_name := He.glo_ok X G (c.t.d.fact 44 (f := .glo "is_name") rfl)
  g_law := He.glo_ok X G (c.t.d.fact 45 (f := .glo "law") rfl)
  g_need_letters := He.glo_ok X G (c.t.d.fact 46 (f := .glo "need_letters") rfl)
  i_LEAST_SIGNS := He.int_ok X G (c.t.d.fact 47 (f := .int "LEAST_SIGNS" 2) rfl)
  i_LONGEST_ASKED := He.int_ok X G (c.t.d.fact 48 (f := .int "LONGEST_ASKED" 60) rfl)
  i_MOST_LETTERS := He.int_ok X G (c.t.d.fact 49 (f := .int "MOST_LETTERS" 4) rfl)
  i_MOST_NAME := He.int_ok X G (c.t.d.fact 50 (f := .int "MOST_NAME" 6) rfl)
  i_MOST_ROOMS := He.int_ok X G (c.t.d.fact 51 (f := .int "MOST_ROOMS" 36) rfl)
  i_MOST_SIGNS := He.int_ok X G (c.t.d.fact 52 (f := .int "MOST_SIGNS" 4) rfl)
  in_BadBox := mthd_ok (exB_ok c.more 0 (f := .mthd "BadBox" "__init__") rfl)
  in_NoWord := mthd_ok (exB_ok c.more 1 (f := .mthd "NoWord" "__init__") rfl)
  it_BadBox := fnty_ok (exB_ok c.more 2 (f := .fnty "BadBox" "__init__") rfl)
  it_NoWord := fnty_ok (exB_ok c.more 3 (f := .fnty "NoWord" "__init__") rfl)
  kit_NoWord_BadBox := kit_ok (exB_ok c.more 4 (f := .kit "NoWord" "BadBox" false) rfl)
  kit_NoWord_NoMany := kit_ok (exB_ok c.more 5 (f := .kit "NoWord" "NoMany" false) rfl)
  kit_NoWord_NoPair := kit_ok (exB_ok c.more 6 (f := .kit "NoWord" "NoPair" false) rfl)
  kit_NoWord_NoPlan := kit_ok (exB_ok c.more 7 (f := .kit "NoWord" "NoPlan" false) rfl)
  kit_NoWord_NoWord := kit_ok (exB_ok c.more 8 (f := .kit "NoWord" "NoWord" true) rfl)
  kit_NoWord_TooMany := kit_ok (exB_ok c.more 9 (f := .kit "NoWord" "TooMany" false) rfl)
  kitB_NoWord_ValueError := kitB_ok (exB_ok c.more 10 (f := .kitB "NoWord" "ValueError" true) rfl)
  m_Asker_ask := He.meth_ok (c.t.d.fact 53 (f := .meth "Asker" "ask") rfl)
  m_Asker_is_answer := He.meth_ok (c.t.d.fact 54 (f := .meth "Asker" "is_answer") rfl)
  m_Asker_known := He.meth_ok (c.t.d.fact 55 (f := .meth "Asker" "known") rfl)
  m_Asker_signs_told := He.meth_ok (c.t.d.fact 56 (f := .meth "Asker" "signs_told") rfl)
  m_Plan_letters := He.meth_ok (c.t.d.fact 57 (f := .meth "Plan" "letters") rfl)
  m_Plan_signs := He.meth_ok (c.t.d.fact 58 (f := .meth "Plan" "signs") rfl)
  mk_Asker := He.mkr_ok (c.t.d.fact 59 (f := .mkr "Asker") rfl)
  mk_Plan := He.mkr_ok (c.t.d.fact 60 (f := .mkr "Plan") rfl)
  na_Asker_answers_by := He.noat_ok (c.t.d.fact 61 (f := .noat "Asker" "answers_by") rfl)
  na_Asker_last_told := He.noat_ok (c.t.d.fact 62 (f := .noat "Asker" "last_told") rfl)
  na_Asker_model := He.noat_ok (c.t.d.fact 63 (f := .noat "Asker" "model") rfl)
  na_Asker_rows := He.noat_ok (c.t.d.fact 64 (f := .noat "Asker" "rows") rfl)
  na_BadBox_word := He.noat_ok (c.t.d.fact 65 (f := .noat "BadBox" "word") rfl)
  na_NoWord_at := He.noat_ok (c.t.d.fact 66 (f := .noat "NoWord" "at") rfl)
  na_Plan_own_letters := He.noat_ok (c.t.d.fact 67 (f := .noat "Plan" "own_letters") rfl)
  na_Plan_own_rooms := He.noat_ok (c.t.d.fact 68 (f := .noat "Plan" "own_rooms") rfl)
  na_Plan_own_signs := He.noat_ok (c.t.d.fact 69 (f := .noat "Plan" "own_signs") rfl)
  ox_BadBox := oex_ok (exB_ok c.more 11 (f := .oex "BadBox") rfl)
  ox_NoWord := oex_ok (exB_ok c.more 12 (f := .oex "NoWord") rfl)
  s_SMALL := He.str_ok X G (c.t.d.fact 70 (f := .str "SMALL" "abcdefghijklmnopqrstuvwxyz") rfl)
  xf_NoWord := xf_ok (exB_ok c.more 13 (f := .xf "NoWord") rfl)
  xq_NoWord := excQ_ok (exB_ok c.more 14 (f := .xf "NoWord") rfl) (exB_ok c.more 15 (f := .isi "NoWord") rfl)
end BBH
open PySem PySem.W PySem.Calls PyProof.Rows BB
theorem PySem.Challenge.cw_barredbox_k49_words_refused_holds : PySem.Challenge.rw_barredbox_k49_words_refused.Holds := by
  w_on; o_law
  refine HandSHeadRun.head_any (r := OpenLaw.row PySem.Challenge.rw_barredbox_k49_words_refused) (q := view (OpenLaw.row PySem.Challenge.rw_barredbox_k49_words_refused).prog [41]) (H := BBH.hk) (ob := BBH.ob) (M := 9000) (loose := BBH.loose) (d := HandSHeadRun.topDef (OpenLaw.row PySem.Challenge.rw_barredbox_k49_words_refused).prog 41) (kwd := []) BBH.ob_eq
    (by kernel_rfl) (fun s => by kernel_rfl) BBH.run (by kernel_rfl) (by kernel_rfl) (by kernel_rfl) (by rfl) (by first | assumption | decide +kernel) (by decide +kernel) ⟨rfl, rfl, rfl, rfl, rfl, by decide +kernel⟩ ?hw ?hc
  case hw => w_witness2
  case hc =>
    refine BB.walk_ofT (l := PySem.Challenge.rw_barredbox_k49_words_refused) (n := 63) (k := 6) (x := "_law_script") rfl (by decide) (by kernel_rfl) ⟨rfl, by decide, by decide⟩ ?F
    intro w mg fa h Y G hmg0
    obtain ⟨K, KX, c⟩ := Y
    have hmg : mg ("law" : PySem.Str) = some (.ref fa) := by
      have e : (HandSHeadRun.topDef (OpenLaw.row PySem.Challenge.rw_barredbox_k49_words_refused).prog 41).name = ("law" : PySem.Str) := by kernel_rfl
      rw [← e]
      exact hmg0
    have Z := BBH.fx KX G c
    obtain ⟨fd, F⟩ := Z.d_law
    have e := hmg.symm.trans Z.g_law
    cases e
    have b := L2.FunD.bindsA (ps := ["_law_script"]) F fun _ _ _ _ _ _ us hl => match us, hl with | [_], _ => rfl
    exact ⟨K, fd, [He.cT K ("_law_maker", none)], liftSp K (sp_law K), KX, (fun p hp => by
      simp only [List.mem_cons, List.not_mem_nil, or_false] at hp
      rcases hp with rfl
      · exact c.empty _ List.mem_cons_self), (fun p hp => by
      simp only [List.mem_cons, List.not_mem_nil, or_false] at hp
      rcases hp with rfl
      · exact c.out _ List.mem_cons_self), (fun p hp => by
      simp only [List.mem_cons, List.not_mem_nil, or_false] at hp
      rcases hp with rfl
      · exact PySem.W.codeHd_of_K KX (c.hd _ List.mem_cons_self)), fun s v => b s [v] rfl, fun H a ns hl hT hS => law_start Z H a ns hl (hT _ List.mem_cons_self) hS, fun base _ _ hB => okl_law Z (lwAll K) (rwAll Z (hB _ List.mem_cons_self)) F⟩
