import PyProof.Rows.All
import Wide.All
import OpenK.AllK
import Wide.FinOn
import HandS.ForMost
import HandS.ForExc
import HandS.Lambda
import HandS.Flow
import HandS.TupAny
import HandS.Defaults
import HandS.IsInst
import HandS.Deep
import HandS.Zip
import HandS.Walk
import HandS.TupMul
import HandS.Style
import HandS.Strs
import HandS.CallSlots
import HandS.ExcInit
import HandS.ExcField
import KE.GoesNew
import HandS.TryOnly
import HandS.Head0
import HandS.Head1
import HandS.Head2
import HandS.HeadEnd
import HandS.HeadHook1
import HandS.HeadHook2
import HandS.HeadHook3
import HandS.HeadHook4
import HandS.OwnEq
import KE.KDictDisplayH
import KE.KDictOf
import KE.KDictCopyH
import KE.KEqDict
import HandS.TupLe
import KE.KExcIs
import HandS.Conv
import HandS.ExcValue
import HandS.FltList
import HandS.SetKeys
import HandS.SetTxt0
import HandS.SetFor
import PyProof.Rows.SortShellAny
import PyProof.Rows.StrInSeq3
import HandS.TupLen
import HandS.EndTab
import HandS.MakeKwOnly
import PySem.Challenge.RW_barredbox_k01_names_and_plans_known
set_option Elab.async false
set_option linter.all false
set_option maxRecDepth 100000
set_option maxHeartbeats 2000000
/-! Plain data over the tracked heap: values as data, a store of what may change, what is read off at each construct. -/
namespace BB
open L2 PySem PySem.Spec PyProof.Rows

/-- plain data; ref: an address as it is (a def, a class, an object of the store) -/
inductive D where
  | non | bl (b : Bool) | int (i : Int) | str (x : Str)
  | tup (xs : List D) | lst (xs : List D) | frz (xs : List D)
  /-- a tuple that tuple(..) laid: its object has no dict of its own -/
  | ntup (xs : List D)
  /-- a tuple that is tracked as one: a key of a dict -/
  | htup (xs : List D)
  | dK (kvs : List (Key × D)) | dT (kvs : List (List Key × D))
  | ins (C : Addr) (fs : List (Str × D))
  | ref (a : Addr) | ty (n : String)
  /-- a caught exception: its class, its fields -/
  | exc (c : Value) (fs : List (Str × D))
  deriving Inhabited

/-- what stands in the store -/
inductive MO where
  | lst (xs : List D)
  | dK (kvs : List (Key × D))
  | dT (kvs : List (List Key × D))
  | ins (C : Addr) (fs : List (Str × D))
  | own (x : Addr)
  /-- the state of the draws: a list of a list (at c) and two ints -/
  | gen (c : Addr)
  /-- a def's table of code objects: each bears the name q -/
  | tab (q : Str)
abbrev Mem := Addr → Option MO
def mset (M : Mem) (a : Addr) (o : MO) : Mem := fun b => if b = a then some o else M b
def mdel (M : Mem) (a : Addr) : Mem := fun b => if b = a then none else M b
theorem mset_same {M : Mem} {a : Addr} {o : MO} : mset M a o a = some o := if_pos rfl
theorem mset_ne {M : Mem} {a b : Addr} {o : MO} (h : b ≠ a) : mset M a o b = M b := if_neg h
theorem mdel_same {M : Mem} {a : Addr} : mdel M a a = none := if_pos rfl
theorem mdel_ne {M : Mem} {a b : Addr} (h : b ≠ a) : mdel M a b = M b := if_neg h
theorem mset_mset {M : Mem} {a : Addr} {o u : MO} : mset (mset M a o) a u = mset M a u := by
  funext b; unfold mset; split <;> rfl
theorem mdel_mset {M : Mem} {a : Addr} {o : MO} (h : M a = none) : mdel (mset M a o) a = M := by
  funext b
  by_cases e : b = a
  · subst e; simp [mset, mdel, h]
  · simp [mset, mdel, e]
theorem mdel_mset_ne {M : Mem} {a b : Addr} {o : MO} (h : a ≠ b) : mdel (mset M a o) b = mset (mdel M b) a o := by
  funext c
  by_cases e : c = b
  · subst e; simp [mset, mdel, h.symm]
  · simp [mset, mdel, e]
theorem mset_comm {M : Mem} {a b : Addr} {o u : MO} (h : a ≠ b) : mset (mset M a o) b u = mset (mset M b u) a o := by
  funext c
  by_cases e : c = b
  · subst e; simp [mset, h.symm]
  · simp [mset, e]
theorem mem_ne {M : Mem} {a b : Addr} {o : MO} (h : M a = some o) (h' : M b = none) : a ≠ b := by
  rintro rfl
  rw [h] at h'
  cases h'
theorem mem_ne2 {M : Mem} {a b : Addr} {o u : MO} (h : M a = some o) (h' : M b = some u) (d : o ≠ u) : a ≠ b := by
  rintro rfl
  exact d (Option.some.inj (h.symm.trans h'))

/-- an exception's object: its class, its dict -/
def ExV (cls : Value) (d : Option Addr) (a : Addr) : HO := .ext fun h => ∃ (o : Obj) (vs : Array Value), h.get? a = some o ∧ Zc cls d o ∧ o.data = .fields vs
/-- a dict's object without its lock -/
def strip : HO → HO
  | .frz _ (.dK k) => .dK k
  | .frz _ (.dT k) => .dT k
  | o => o
theorem strip_lst {o : HO} {xs} (h : strip o = .lst xs) : o = .lst xs := by
  unfold strip at h; split at h <;> first | exact h | cases h
theorem strip_tup {o : HO} {xs} (h : strip o = .tup xs) : o = .tup xs := by
  unfold strip at h; split at h <;> first | exact h | cases h
theorem strip_ins {o : HO} {C dx fs} (h : strip o = .ins C dx fs) : o = .ins C dx fs := by
  unfold strip at h; split at h <;> first | exact h | cases h
theorem strip_own {o : HO} {x} (h : strip o = .own x) : o = .own x := by
  unfold strip at h; split at h <;> first | exact h | cases h
theorem strip_frzL {o : HO} {ob xs} (h : strip o = .frz ob (.lst xs)) : o = .frz ob (.lst xs) := by
  unfold strip at h; split at h <;> first | exact h | cases h
theorem strip_frzT {o : HO} {ob xs} (h : strip o = .frz ob (.tup xs)) : o = .frz ob (.tup xs) := by
  unfold strip at h; split at h <;> first | exact h | cases h

/-- the fixed part grows -/
def Ext (I I' : Hp) : Prop := (∀ a o, I a = some o → ∃ o', I' a = some o' ∧ strip o' = strip o) ∧ ∀ a ob u, I a = some (.frz ob u) → I' a = some (.frz ob u)
theorem Ext.refl (I : Hp) : Ext I I := ⟨fun a o h => ⟨o, h, rfl⟩, fun _ _ _ h => h⟩
theorem Ext.trans {I J L : Hp} (x : Ext I J) (y : Ext J L) : Ext I L := ⟨fun a o h => by
  obtain ⟨o1, h1, e1⟩ := x.1 a o h
  obtain ⟨o2, h2, e2⟩ := y.1 a o1 h1
  exact ⟨o2, h2, e2.trans e1⟩, fun a ob u h => y.2 a ob u (x.2 a ob u h)⟩
theorem Ext.new {I : Hp} {p : Addr} {o : HO} (h : I p = none) : Ext I (upd I p o) := ⟨fun a u e => ⟨u, by rw [upd_ne (ne_of_none e h)]; exact e, rfl⟩, fun a ob u e => by rw [upd_ne (ne_of_none e h)]; exact e⟩
/-- a fixed dict is known from here on -/
theorem Ext.lock {I : Hp} {p : Addr} {kv : List (List Key × V)} (ob : Obj) (h : I p = some (.dT kv)) : Ext I (upd I p (.frz ob (.dT kv))) := ⟨fun a u e => by
  by_cases hb : a = p
  · subst hb; rw [h] at e; cases e; exact ⟨_, upd_same, rfl⟩
  · exact ⟨u, by rw [upd_ne hb]; exact e, rfl⟩, fun a o u e => by
  have hb : a ≠ p := fun z => by subst z; rw [h] at e; cases e
  rw [upd_ne hb]; exact e⟩
theorem Ext.tup {I J : Hp} (x : Ext I J) {a : Addr} {xs} (h : I a = some (.tup xs)) : J a = some (.tup xs) := by
  obtain ⟨o, h1, e⟩ := x.1 a _ h
  rw [h1, strip_tup e]
theorem Ext.lst {I J : Hp} (x : Ext I J) {a : Addr} {xs} (h : I a = some (.lst xs)) : J a = some (.lst xs) := by
  obtain ⟨o, h1, e⟩ := x.1 a _ h
  rw [h1, strip_lst e]
theorem Ext.ins {I J : Hp} (x : Ext I J) {a : Addr} {C dx fs} (h : I a = some (.ins C dx fs)) : J a = some (.ins C dx fs) := by
  obtain ⟨o, h1, e⟩ := x.1 a _ h
  rw [h1, strip_ins e]
theorem strip_ext {o : HO} {φ} (h : strip o = .ext φ) : o = .ext φ := by
  unfold strip at h; split at h <;> first | exact h | cases h
theorem Ext.exv {I J : Hp} (x : Ext I J) {a : Addr} {c d} (h : I a = some (ExV c d a)) : J a = some (ExV c d a) := by
  obtain ⟨o, h1, e⟩ := x.1 a _ h
  rw [h1]
  exact congrArg some (strip_ext e)
theorem strip_xd {o : HO} {fs} (h : strip o = .xd fs) : o = .xd fs := by
  unfold strip at h; split at h <;> first | exact h | cases h
theorem Ext.xd {I J : Hp} (x : Ext I J) {a : Addr} {fs} (h : I a = some (.xd fs)) : J a = some (.xd fs) := by
  obtain ⟨o, h1, e⟩ := x.1 a _ h
  rw [h1, strip_xd e]
theorem Ext.frzT {I J : Hp} (x : Ext I J) {a : Addr} {ob xs} (h : I a = some (.frz ob (.tup xs))) : J a = some (.frz ob (.tup xs)) := by
  obtain ⟨o, h1, e⟩ := x.1 a _ h
  rw [h1, strip_frzT e]
theorem Ext.own {I J : Hp} (x : Ext I J) {a : Addr} {y} (h : I a = some (.own y)) : J a = some (.own y) := by
  obtain ⟨o, h1, e⟩ := x.1 a _ h
  rw [h1, strip_own e]
theorem Ext.sqT {I J : Hp} (x : Ext I J) {K : PySem.W.Frag} {a : Addr} {xs} (h : SqT K I a xs) : SqT K J a xs := by
  rcases h with (h | fz) | h
  · exact .inl (.inl (x.tup h))
  · obtain ⟨o, h⟩ := fz
    obtain ⟨u, h1, e⟩ := x.1 a _ h
    refine .inl (.inr ⟨o, ?_⟩)
    rw [h1, strip_frzT e]
  · exact .inr h
theorem Ext.sqL {I J : Hp} (x : Ext I J) {K : PySem.W.Frag} {a : Addr} {xs} (h : SqL K I a xs) : SqL K J a xs := by
  rcases h with (h | fz) | h
  · exact .inl (.inl (x.lst h))
  · obtain ⟨o, h⟩ := fz
    obtain ⟨u, h1, e⟩ := x.1 a _ h
    refine .inl (.inr ⟨o, ?_⟩)
    rw [h1, strip_frzL e]
  · exact .inr h

/-! ### what a value tells -/
mutual
inductive Rp (K : PySem.W.Frag) (I : Hp) : V → D → Prop
  | non : Rp K I .non .non
  | bl (b) : Rp K I (.bl b) (.bl b)
  | int (i) : Rp K I (.int i) (.int i)
  | str (x) : Rp K I (.str x) (.str x)
  | ty (n) : Rp K I (.ty n) (.ty n)
  | ref (a) : Rp K I (.ref a) (.ref a)
  | tup {a vs ds} : SqT K I a vs → Rps K I vs ds → Rp K I (.ref a) (.tup ds)
  | htup {a vs ds} : I a = some (.tup vs) → Rps K I vs ds → Rp K I (.ref a) (.htup ds)
  | ntup {a ob vs ds} : I a = some (.frz ob (.tup vs)) → ob.cls = .type "tuple" → ob.dict = none → Rps K I vs ds → Rp K I (.ref a) (.ntup ds)
  | lst {a vs ds} : I a = some (.lst vs) → Rps K I vs ds → Rp K I (.ref a) (.lst ds)
  | frz {a vs ds} : SqL K I a vs → Rps K I vs ds → Rp K I (.ref a) (.frz ds)
  | dK {a o kvs ds} : I a = some o → strip o = .dK kvs → RpK K I kvs ds → Rp K I (.ref a) (.dK ds)
  | dT {a o kvs ds} : I a = some o → strip o = .dT kvs → RpT K I kvs ds → Rp K I (.ref a) (.dT ds)
  | ins {a C dx fvs fs} : I a = some (.ins C dx fvs) → I dx = some (.own a) → RpF K I fvs fs → Rp K I (.ref a) (.ins C fs)
  | exc0 {a c} : I a = some (ExV c none a) → Rp K I (.ref a) (.exc c [])
  | excD {a c d fvs fs} : I a = some (ExV c (some d) a) → I d = some (.xd fvs) → RpF K I fvs fs → Rp K I (.ref a) (.exc c fs)
inductive Rps (K : PySem.W.Frag) (I : Hp) : List V → List D → Prop
  | nil : Rps K I [] []
  | cons {v vs d ds} : Rp K I v d → Rps K I vs ds → Rps K I (v :: vs) (d :: ds)
inductive RpK (K : PySem.W.Frag) (I : Hp) : List (Key × V) → List (Key × D) → Prop
  | nil : RpK K I [] []
  | cons {k v vs d ds} : Rp K I v d → RpK K I vs ds → RpK K I ((k, v) :: vs) ((k, d) :: ds)
inductive RpT (K : PySem.W.Frag) (I : Hp) : List (List Key × V) → List (List Key × D) → Prop
  | nil : RpT K I [] []
  | cons {k v vs d ds} : Rp K I v d → RpT K I vs ds → RpT K I ((k, v) :: vs) ((k, d) :: ds)
inductive RpF (K : PySem.W.Frag) (I : Hp) : List (Str × V) → List (Str × D) → Prop
  | nil : RpF K I [] []
  | cons {k v vs d ds} : Rp K I v d → RpF K I vs ds → RpF K I ((k, v) :: vs) ((k, d) :: ds)
end

section
variable {K : PySem.W.Frag} {I J : Hp}
mutual
theorem Rp.ext (x : Ext I J) : ∀ {v d}, Rp K I v d → Rp K J v d
  | _, _, .non => .non
  | _, _, .bl b => .bl b
  | _, _, .int i => .int i
  | _, _, .str i => .str i
  | _, _, .ty i => .ty i
  | _, _, .ref i => .ref i
  | _, _, .tup h r => .tup (x.sqT h) (Rps.ext x r)
  | _, _, .htup h r => .htup (x.tup h) (Rps.ext x r)
  | _, _, .ntup h c d r => .ntup (x.frzT h) c d (Rps.ext x r)
  | _, _, .lst h r => .lst (x.lst h) (Rps.ext x r)
  | _, _, .frz h r => .frz (x.sqL h) (Rps.ext x r)
  | _, _, .dK h e r => let ⟨_, h1, e1⟩ := x.1 _ _ h; .dK h1 (e1.trans e) (RpK.ext x r)
  | _, _, .dT h e r => let ⟨_, h1, e1⟩ := x.1 _ _ h; .dT h1 (e1.trans e) (RpT.ext x r)
  | _, _, .ins h e r => .ins (x.ins h) (x.own e) (RpF.ext x r)
  | _, _, .exc0 h => .exc0 (x.exv h)
  | _, _, .excD h e r => .excD (x.exv h) (x.xd e) (RpF.ext x r)
theorem Rps.ext (x : Ext I J) : ∀ {v d}, Rps K I v d → Rps K J v d
  | _, _, .nil => .nil
  | _, _, .cons a b => .cons (Rp.ext x a) (Rps.ext x b)
theorem RpK.ext (x : Ext I J) : ∀ {v d}, RpK K I v d → RpK K J v d
  | _, _, .nil => .nil
  | _, _, .cons a b => .cons (Rp.ext x a) (RpK.ext x b)
theorem RpT.ext (x : Ext I J) : ∀ {v d}, RpT K I v d → RpT K J v d
  | _, _, .nil => .nil
  | _, _, .cons a b => .cons (Rp.ext x a) (RpT.ext x b)
theorem RpF.ext (x : Ext I J) : ∀ {v d}, RpF K I v d → RpF K J v d
  | _, _, .nil => .nil
  | _, _, .cons a b => .cons (Rp.ext x a) (RpF.ext x b)
end

theorem Rp.tup_inv {v : V} {ds : List D} (h : Rp K I v (.tup ds)) : ∃ a vs, v = .ref a ∧ SqT K I a vs ∧ Rps K I vs ds := by cases h with | tup a b => exact ⟨_, _, rfl, a, b⟩
theorem Rp.htup_inv {v : V} {ds : List D} (h : Rp K I v (.htup ds)) : ∃ a vs, v = .ref a ∧ I a = some (.tup vs) ∧ Rps K I vs ds := by cases h with | htup a b => exact ⟨_, _, rfl, a, b⟩
theorem Rp.ntup_inv {v : V} {ds : List D} (h : Rp K I v (.ntup ds)) : ∃ a ob vs, v = .ref a ∧ I a = some (.frz ob (.tup vs)) ∧ ob.cls = .type "tuple" ∧ ob.dict = none ∧ Rps K I vs ds := by cases h with | ntup a b c d => exact ⟨_, _, _, rfl, a, b, c, d⟩
/-- a tuple, whoever laid it -/
def nrm : D → D
  | .ntup xs => .tup xs
  | .htup xs => .tup xs
  | d => d
theorem Rp.nrm {v : V} {d : D} (h : Rp K I v d) : Rp K I v (nrm d) := by
  cases d with
  | ntup xs => obtain ⟨a, ob, vs, rfl, h1, _, _, r⟩ := h.ntup_inv; exact .tup (.inl (.inr ⟨ob, h1⟩)) r
  | htup xs => obtain ⟨a, vs, rfl, h1, r⟩ := h.htup_inv; exact .tup (.inl (.inl h1)) r
  | _ => exact h
theorem Rp.lst_inv {v : V} {ds : List D} (h : Rp K I v (.lst ds)) : ∃ a vs, v = .ref a ∧ I a = some (.lst vs) ∧ Rps K I vs ds := by cases h with | lst a b => exact ⟨_, _, rfl, a, b⟩
theorem Rp.frz_inv {v : V} {ds : List D} (h : Rp K I v (.frz ds)) : ∃ a vs, v = .ref a ∧ SqL K I a vs ∧ Rps K I vs ds := by cases h with | frz a b => exact ⟨_, _, rfl, a, b⟩
theorem Rp.ins_inv {v : V} {C fs} (h : Rp K I v (.ins C fs)) : ∃ a dx fvs, v = .ref a ∧ I a = some (.ins C dx fvs) ∧ I dx = some (.own a) ∧ RpF K I fvs fs := by cases h with | ins a b c => exact ⟨_, _, _, rfl, a, b, c⟩
theorem Rp.non_inv {v : V} (h : Rp K I v .non) : v = .non := by cases h; rfl
theorem Rp.bl_inv {v : V} {b} (h : Rp K I v (.bl b)) : v = .bl b := by cases h; rfl
theorem Rp.int_inv {v : V} {b} (h : Rp K I v (.int b)) : v = .int b := by cases h; rfl
theorem Rp.str_inv {v : V} {b} (h : Rp K I v (.str b)) : v = .str b := by cases h; rfl
theorem Rp.ty_inv {v : V} {b} (h : Rp K I v (.ty b)) : v = .ty b := by cases h; rfl
theorem Rp.ref_inv {v : V} {b} (h : Rp K I v (.ref b)) : v = .ref b := by cases h; rfl
theorem Rps.length : ∀ {vs : List V} {ds : List D}, Rps K I vs ds → vs.length = ds.length
  | _, _, .nil => rfl
  | _, _, .cons _ r => congrArg (· + 1) (Rps.length r)
theorem Rps.nil_inv {vs : List V} (h : Rps K I vs []) : vs = [] := by cases h; rfl
theorem Rps.cons_inv {vs : List V} {d ds} (h : Rps K I vs (d :: ds)) : ∃ v r, vs = v :: r ∧ Rp K I v d ∧ Rps K I r ds := by cases h with | cons a b => exact ⟨_, _, rfl, a, b⟩
theorem Rps.one_inv {vs : List V} {d} (h : Rps K I vs [d]) : ∃ v, vs = [v] ∧ Rp K I v d := by
  obtain ⟨v, r, rfl, a, b⟩ := h.cons_inv
  exact ⟨v, by rw [b.nil_inv], a⟩
theorem Rps.two_inv {vs : List V} {d e} (h : Rps K I vs [d, e]) : ∃ v u, vs = [v, u] ∧ Rp K I v d ∧ Rp K I u e := by
  obtain ⟨v, r, rfl, a, b⟩ := h.cons_inv
  obtain ⟨u, rfl, c⟩ := b.one_inv
  exact ⟨v, u, rfl, a, c⟩
theorem Rps.append : ∀ {vs us : List V} {ds es : List D}, Rps K I vs ds → Rps K I us es → Rps K I (vs ++ us) (ds ++ es)
  | _, _, _, _, .nil, s => s
  | _, _, _, _, .cons a r, s => .cons a (Rps.append r s)
theorem Rps.get : ∀ {vs : List V} {ds : List D} {i : Nat} {d : D}, Rps K I vs ds → ds[i]? = some d → ∃ v, vs[i]? = some v ∧ Rp K I v d
  | _, _, _, _, .nil, e => absurd e (by simp)
  | _, _, 0, _, .cons a _, e => by simp at e; subst e; exact ⟨_, rfl, a⟩
  | _, _, i + 1, d, .cons _ r, e => by
    obtain ⟨v, h1, h2⟩ := Rps.get (i := i) (d := d) r (by simpa using e)
    exact ⟨v, by simpa using h1, h2⟩
theorem Rps.get' : ∀ {vs : List V} {ds : List D} {i : Nat} {v : V}, Rps K I vs ds → vs[i]? = some v → ∃ d, ds[i]? = some d ∧ Rp K I v d
  | _, _, _, _, .nil, e => absurd e (by simp)
  | _, _, 0, _, .cons a _, e => by simp at e; subst e; exact ⟨_, rfl, a⟩
  | _, _, i + 1, d, .cons _ r, e => by
    obtain ⟨v, h1, h2⟩ := Rps.get' (i := i) (v := d) r (by simpa using e)
    exact ⟨v, by simpa using h1, h2⟩
theorem Rps.set : ∀ {vs : List V} {ds : List D} (i : Nat) {v d}, Rp K I v d → Rps K I vs ds → Rps K I (vs.set i v) (ds.set i d)
  | _, _, _, _, _, _, .nil => .nil
  | _, _, 0, _, _, h, .cons _ r => .cons h r
  | _, _, i + 1, _, _, h, .cons a r => .cons a (Rps.set i h r)
theorem Rps.take : ∀ {vs : List V} {ds : List D} (n : Nat), Rps K I vs ds → Rps K I (vs.take n) (ds.take n)
  | _, _, 0, _ => .nil
  | _, _, _ + 1, .nil => .nil
  | _, _, n + 1, .cons a r => .cons a (Rps.take n r)
theorem Rps.drop : ∀ {vs : List V} {ds : List D} (n : Nat), Rps K I vs ds → Rps K I (vs.drop n) (ds.drop n)
  | _, _, 0, r => r
  | _, _, _ + 1, .nil => .nil
  | _, _, n + 1, .cons _ r => Rps.drop n r
theorem RpF.look : ∀ {vs : List (Str × V)} {ds : List (Str × D)} {f : Str} {d : D}, RpF K I vs ds → ds.lookup f = some d → ∃ v, vs.lookup f = some v ∧ Rp K I v d
  | _, _, _, _, .nil, e => by cases e
  | (k, v) :: vs, _, f, d, .cons a r, e => by
    by_cases h : (f == k) = true
    · simp only [List.lookup, h, Option.some.injEq] at e ⊢
      subst e
      exact ⟨_, rfl, a⟩
    · have h' : (f == k) = false := by simpa using h
      simp only [List.lookup, h'] at e ⊢
      exact RpF.look r e
theorem RpF.none : ∀ {vs : List (Str × V)} {ds : List (Str × D)} {f : Str}, RpF K I vs ds → ds.lookup f = none → vs.lookup f = none
  | _, _, _, .nil, e => rfl
  | (k, v) :: vs, _, f, .cons a r, e => by
    by_cases h : (f == k) = true
    · simp only [List.lookup, h] at e
      cases e
    · have h' : (f == k) = false := by simpa using h
      simp only [List.lookup, h'] at e ⊢
      exact RpF.none r e
theorem RpF.length : ∀ {vs : List (Str × V)} {ds : List (Str × D)}, RpF K I vs ds → vs.length = ds.length
  | _, _, .nil => rfl
  | _, _, .cons _ r => congrArg (· + 1) (RpF.length r)
/-- a field put -/
def putD (f : Str) (d : D) : List (Str × D) → List (Str × D)
  | [] => [(f, d)]
  | (g, e) :: r => if g = f then (g, d) :: r else (g, e) :: putD f d r
theorem RpF.put {f : Str} {v : V} {d : D} (h : Rp K I v d) : ∀ {vs : List (Str × V)} {ds : List (Str × D)}, RpF K I vs ds → RpF K I (putF f v vs) (putD f d ds)
  | _, _, .nil => .cons h .nil
  | (k, u) :: vs, _, .cons a r => by
    show RpF K I (if k = f then _ else _) (if k = f then _ else _)
    by_cases e : k = f
    · rw [if_pos e, if_pos e]
      exact .cons h r
    · rw [if_neg e, if_neg e]
      exact .cons a (RpF.put h r)
end
end BB

set_option maxHeartbeats 2000000
namespace BB
open L2 PySem PySem.Spec PyProof.Rows

/-! ### the store over the tracked heap -/
def MRep (K : PySem.W.Frag) (I : Hp) (M : Mem) (H : Hp) (a : Addr) : MO → Prop
  | .lst ds => ∃ vs, H a = some (.lst vs) ∧ Rps K I vs ds
  | .dK kvs => ∃ kv, H a = some (.dK kv) ∧ RpK K I kv kvs
  | .dT kvs => ∃ kv, H a = some (.dT kv) ∧ RpT K I kv kvs
  | .ins C fs => ∃ dx fvs, H a = some (.ins C dx fvs) ∧ H dx = some (.own a) ∧ M dx = some (.own a) ∧ RpF K I fvs fs
  | .own x => ∃ o, H a = some o ∧ (o = .own x ∨ ∃ xs, o = .lst xs)
  | .gen c => c ≠ a ∧ M c = some (.own a) ∧ ∃ (cells : List Int) (p x : Int), H a = some (.lst [.ref c, .int p, .int x]) ∧ H c = some (.lst (cells.map V.int)) ∧ cells ≠ [] ∧ cells.length ≤ 64 ∧
      (∀ z ∈ cells, 0 ≤ z) ∧ 0 ≤ p ∧ 0 ≤ x ∧ x < 2147483647
  | .tab q => ∃ ps : Array Value, H a = some (.tbl ps) ∧ TriplesOk ps.toList ∧ ∀ pos cv, codeAmong pos ps.toList = some cv → ∃ c, cv = .ref c ∧ I c = some (LamX.CodeO c q)

/-- F: what others hold and is left alone here; I: what is fixed; M: the store -/
structure At (K : PySem.W.Frag) (F I : Hp) (M : Mem) (H : Hp) : Prop where
  ex : ∀ a o, I a = some o → H a = some o
  mem : ∀ a o, M a = some o → I a = none ∧ MRep K I M H a o
  fr : ∀ a o, F a = some o → H a = some o ∧ I a = none ∧ M a = none
  nt : ∀ a o, F a = some o → ∃ xs, o = .lst xs

section
variable {K : PySem.W.Frag} {F I J H H' : Hp} {M M' : Mem} {a p : Addr}
theorem MRep.has {o : MO} (h : MRep K I M H a o) : ∃ u, H a = some u := by
  cases o with
  | lst _ => exact ⟨_, h.choose_spec.1⟩
  | dK _ => exact ⟨_, h.choose_spec.1⟩
  | dT _ => exact ⟨_, h.choose_spec.1⟩
  | ins _ _ => obtain ⟨_, _, h, _⟩ := h; exact ⟨_, h⟩
  | own _ => obtain ⟨_, h, _⟩ := h; exact ⟨_, h⟩
  | gen _ => obtain ⟨_, _, _, _, _, h, _⟩ := h; exact ⟨_, h⟩
  | tab _ => obtain ⟨_, h, _⟩ := h; exact ⟨_, h⟩
/-- what a part of the store leans on -/
theorem MRep.mono {o : MO} (h : MRep K I M H a o) (x : Ext I J) (hH : ∀ b u, (b = a ∨ M b = some (.own a)) → H b = some u → H' b = some u) (hM : ∀ b, M b = some (.own a) → M' b = some (.own a)) : MRep K J M' H' a o := by
  cases o with
  | lst _ => obtain ⟨vs, h1, h2⟩ := h; exact ⟨vs, hH _ _ (.inl rfl) h1, h2.ext x⟩
  | dK _ => obtain ⟨vs, h1, h2⟩ := h; exact ⟨vs, hH _ _ (.inl rfl) h1, h2.ext x⟩
  | dT _ => obtain ⟨vs, h1, h2⟩ := h; exact ⟨vs, hH _ _ (.inl rfl) h1, h2.ext x⟩
  | ins _ _ => obtain ⟨dx, fvs, h1, h2, h3, h4⟩ := h; exact ⟨dx, fvs, hH _ _ (.inl rfl) h1, hH _ _ (.inr h3) h2, hM _ h3, h4.ext x⟩
  | own _ => obtain ⟨u, h1, h2⟩ := h; exact ⟨u, hH _ _ (.inl rfl) h1, h2⟩
  | gen _ =>
    obtain ⟨hc, h3, cells, p, y, h1, h2, r⟩ := h
    exact ⟨hc, hM _ h3, cells, p, y, hH _ _ (.inl rfl) h1, hH _ _ (.inr h3) h2, r⟩
  | tab _ =>
    obtain ⟨ps, h1, h2, h3⟩ := h
    refine ⟨ps, hH _ _ (.inl rfl) h1, h2, fun pos cv hc => ?_⟩
    obtain ⟨c, e1, e2⟩ := h3 pos cv hc
    obtain ⟨o', e3, e4⟩ := x.1 _ _ e2
    exact ⟨c, e1, e3.trans (congrArg some (strip_ext e4))⟩
theorem At.freeI (A : At K F I M H) (h : H p = none) : I p = none := by
  cases e : I p with
  | none => rfl
  | some o => rw [A.ex _ _ e] at h; cases h
theorem At.freeM (A : At K F I M H) (h : H p = none) : M p = none := by
  cases e : M p with
  | none => rfl
  | some o => obtain ⟨u, hu⟩ := (A.mem _ _ e).2.has; rw [hu] at h; cases h
/-- a new fixed object -/
theorem At.newI (A : At K F I M H) (h : H p = none) (o : HO) : At K F (upd I p o) M (upd H p o) where
  nt := A.nt
  ex := fun b u e => by
    by_cases hb : b = p
    · subst hb; rw [upd_same] at e ⊢; exact e
    · rw [upd_ne hb] at e ⊢; exact A.ex _ _ e
  mem := fun b u e => by
    have hb : b ≠ p := mem_ne e (A.freeM h)
    refine ⟨by rw [upd_ne hb]; exact (A.mem _ _ e).1, (A.mem _ _ e).2.mono (Ext.new (A.freeI h)) (fun c v _ hc => ?_) (fun c hc => hc)⟩
    rw [upd_ne (ne_of_none hc h)]; exact hc
  fr := fun b u e => by
    obtain ⟨h1, h2, h3⟩ := A.fr _ _ e
    have hb : b ≠ p := ne_of_none h1 h
    exact ⟨by rw [upd_ne hb]; exact h1, by rw [upd_ne hb]; exact h2, h3⟩
/-- a new object of the store -/
theorem At.newM (A : At K F I M H) (h : H p = none) (o : HO) (m : MO) (hm : MRep K I (mset M p m) (upd H p o) p m) : At K F I (mset M p m) (upd H p o) where
  nt := A.nt
  ex := fun b u e => by rw [upd_ne (ne_of_none (A.ex _ _ e) h)]; exact A.ex _ _ e
  mem := fun b u e => by
    by_cases hb : b = p
    · subst hb; rw [mset_same] at e; cases e; exact ⟨A.freeI h, hm⟩
    · rw [mset_ne hb] at e
      refine ⟨(A.mem _ _ e).1, (A.mem _ _ e).2.mono (Ext.refl I) (fun c v _ hc => ?_) (fun c hc => ?_)⟩
      · rw [upd_ne (ne_of_none hc h)]; exact hc
      · rw [mset_ne (mem_ne hc (A.freeM h))]; exact hc
  fr := fun b u e => by
    obtain ⟨h1, h2, h3⟩ := A.fr _ _ e
    have hb : b ≠ p := ne_of_none h1 h
    exact ⟨by rw [upd_ne hb]; exact h1, h2, by rw [mset_ne hb]; exact h3⟩
/-- an object of the store is written -/
theorem At.write {m m' : MO} {o : HO} (A : At K F I M H) (hp : M p = some m) (hno : ∀ x, m ≠ .own x) (hm : MRep K I (mset M p m') (upd H p o) p m') : At K F I (mset M p m') (upd H p o) where
  nt := A.nt
  ex := fun b u e => by
    have hb : b ≠ p := fun z => by subst z; rw [(A.mem _ _ hp).1] at e; cases e
    rw [upd_ne hb]; exact A.ex _ _ e
  mem := fun b u e => by
    by_cases hb : b = p
    · subst hb; rw [mset_same] at e; cases e; exact ⟨(A.mem _ _ hp).1, hm⟩
    · rw [mset_ne hb] at e
      have key : ∀ c, M c = some (.own b) → c ≠ p := fun c hc z => by subst z; rw [hp] at hc; exact hno b (Option.some.inj hc)
      refine ⟨(A.mem _ _ e).1, (A.mem _ _ e).2.mono (Ext.refl I) (fun c v hc hv => ?_) (fun c hc => ?_)⟩
      · rcases hc with rfl | hc
        · rw [upd_ne hb]; exact hv
        · rw [upd_ne (key c hc)]; exact hv
      · rw [mset_ne (key c hc)]; exact hc
  fr := fun b u e => by
    obtain ⟨h1, h2, h3⟩ := A.fr _ _ e
    have hb : b ≠ p := fun z => by subst z; rw [hp] at h3; cases h3
    exact ⟨by rw [upd_ne hb]; exact h1, h2, by rw [mset_ne hb]; exact h3⟩
/-- a list of the store is fixed from here on -/
theorem At.fixL {ds : List D} (A : At K F I M H) (hp : M p = some (.lst ds)) : ∃ J, Ext I J ∧ At K F J (mdel M p) H ∧ Rp K J (.ref p) (.lst ds) := by
  obtain ⟨hI, vs, hv, r⟩ := A.mem _ _ hp
  have x : Ext I (upd I p (.lst vs)) := Ext.new hI
  refine ⟨upd I p (.lst vs), x, ⟨fun b u e => ?_, fun b u e => ?_, fun b u e => ?_, A.nt⟩, .lst upd_same (r.ext x)⟩
  · by_cases hb : b = p
    · subst hb; rw [upd_same] at e; cases e; exact hv
    · rw [upd_ne hb] at e; exact A.ex _ _ e
  · have hb : b ≠ p := fun z => by subst z; rw [mdel_same] at e; cases e
    rw [mdel_ne hb] at e
    refine ⟨by rw [upd_ne hb]; exact (A.mem _ _ e).1, (A.mem _ _ e).2.mono x (fun c v _ hv => hv) (fun c hc => ?_)⟩
    rw [mdel_ne (mem_ne2 hc hp (by intro z; cases z))]; exact hc
  · obtain ⟨h1, h2, h3⟩ := A.fr _ _ e
    have hb : b ≠ p := fun z => by subst z; rw [hp] at h3; cases h3
    exact ⟨h1, by rw [upd_ne hb]; exact h2, by rw [mdel_ne hb]; exact h3⟩
theorem At.fixK {ds : List (Key × D)} (A : At K F I M H) (hp : M p = some (.dK ds)) : ∃ J, Ext I J ∧ At K F J (mdel M p) H ∧ Rp K J (.ref p) (.dK ds) := by
  obtain ⟨hI, vs, hv, r⟩ := A.mem _ _ hp
  have x : Ext I (upd I p (.dK vs)) := Ext.new hI
  refine ⟨upd I p (.dK vs), x, ⟨fun b u e => ?_, fun b u e => ?_, fun b u e => ?_, A.nt⟩, .dK upd_same rfl (r.ext x)⟩
  · by_cases hb : b = p
    · subst hb; rw [upd_same] at e; cases e; exact hv
    · rw [upd_ne hb] at e; exact A.ex _ _ e
  · have hb : b ≠ p := fun z => by subst z; rw [mdel_same] at e; cases e
    rw [mdel_ne hb] at e
    refine ⟨by rw [upd_ne hb]; exact (A.mem _ _ e).1, (A.mem _ _ e).2.mono x (fun c v _ hv => hv) (fun c hc => ?_)⟩
    rw [mdel_ne (mem_ne2 hc hp (by intro z; cases z))]; exact hc
  · obtain ⟨h1, h2, h3⟩ := A.fr _ _ e
    have hb : b ≠ p := fun z => by subst z; rw [hp] at h3; cases h3
    exact ⟨h1, by rw [upd_ne hb]; exact h2, by rw [mdel_ne hb]; exact h3⟩
theorem At.fixT {ds : List (List Key × D)} (A : At K F I M H) (hp : M p = some (.dT ds)) : ∃ J, Ext I J ∧ At K F J (mdel M p) H ∧ Rp K J (.ref p) (.dT ds) := by
  obtain ⟨hI, vs, hv, r⟩ := A.mem _ _ hp
  have x : Ext I (upd I p (.dT vs)) := Ext.new hI
  refine ⟨upd I p (.dT vs), x, ⟨fun b u e => ?_, fun b u e => ?_, fun b u e => ?_, A.nt⟩, .dT upd_same rfl (r.ext x)⟩
  · by_cases hb : b = p
    · subst hb; rw [upd_same] at e; cases e; exact hv
    · rw [upd_ne hb] at e; exact A.ex _ _ e
  · have hb : b ≠ p := fun z => by subst z; rw [mdel_same] at e; cases e
    rw [mdel_ne hb] at e
    refine ⟨by rw [upd_ne hb]; exact (A.mem _ _ e).1, (A.mem _ _ e).2.mono x (fun c v _ hv => hv) (fun c hc => ?_)⟩
    rw [mdel_ne (mem_ne2 hc hp (by intro z; cases z))]; exact hc
  · obtain ⟨h1, h2, h3⟩ := A.fr _ _ e
    have hb : b ≠ p := fun z => by subst z; rw [hp] at h3; cases h3
    exact ⟨h1, by rw [upd_ne hb]; exact h2, by rw [mdel_ne hb]; exact h3⟩
/-- an instance is fixed: with it goes its own dict's mark -/
theorem At.fixI {C : Addr} {fs : List (Str × D)} (A : At K F I M H) (hp : M p = some (.ins C fs)) : ∃ dx J, M dx = some (.own p) ∧ Ext I J ∧ At K F J (mdel (mdel M p) dx) H ∧ Rp K J (.ref p) (.ins C fs) := by
  obtain ⟨hI, dx, fvs, hv, hd, hm, r⟩ := A.mem _ _ hp
  obtain ⟨hId, _⟩ := A.mem _ _ hm
  have ne : dx ≠ p := mem_ne2 hm hp (by intro z; cases z)
  have x1 : Ext I (upd I p (.ins C dx fvs)) := Ext.new hI
  have x2 : Ext (upd I p (.ins C dx fvs)) (upd (upd I p (.ins C dx fvs)) dx (.own p)) := Ext.new (by rw [upd_ne ne]; exact hId)
  have x := x1.trans x2
  refine ⟨dx, upd (upd I p (.ins C dx fvs)) dx (.own p), hm, x, ⟨fun b u e => ?_, fun b u e => ?_, fun b u e => ?_, A.nt⟩, .ins (by rw [upd_ne ne.symm, upd_same]) upd_same (r.ext x)⟩
  · by_cases hb : b = dx
    · subst hb; rw [upd_same] at e; cases e; exact hd
    · rw [upd_ne hb] at e
      by_cases hb : b = p
      · subst hb; rw [upd_same] at e; cases e; exact hv
      · rw [upd_ne hb] at e; exact A.ex _ _ e
  · have hb : b ≠ dx := fun z => by subst z; rw [mdel_same] at e; cases e
    rw [mdel_ne hb] at e
    have hb2 : b ≠ p := fun z => by subst z; rw [mdel_same] at e; cases e
    rw [mdel_ne hb2] at e
    refine ⟨by rw [upd_ne hb, upd_ne hb2]; exact (A.mem _ _ e).1, (A.mem _ _ e).2.mono x (fun c v _ hv => hv) (fun c hc => ?_)⟩
    have n1 : c ≠ dx := fun z => by subst z; rw [hm] at hc; cases hc; exact hb2 rfl
    rw [mdel_ne n1, mdel_ne (mem_ne2 hc hp (by intro z; cases z))]; exact hc
  · obtain ⟨h1, h2, h3⟩ := A.fr _ _ e
    have hb : b ≠ p := fun z => by subst z; rw [hp] at h3; cases h3
    have hb2 : b ≠ dx := fun z => by subst z; rw [hm] at h3; cases h3
    exact ⟨h1, by rw [upd_ne hb2, upd_ne hb]; exact h2, by rw [mdel_ne hb2, mdel_ne hb]; exact h3⟩
end

/-! ### slots, wishes, the judgements -/
abbrev Env := List (Option D)
abbrev DKt := D → Mem → Prop
/-- a wish of exceptions: the class, the fields, the slots, the store -/
abbrev DW := Value → List (Str × D) → Env → Mem → Prop
abbrev DX := Value → List (Str × D) → Mem → Prop
structure EnvR (K : PySem.W.Frag) (I : Hp) (σ : L2.St) (env : Env) : Prop where
  len : σ.length = env.length
  get : ∀ (i : Nat) (d : D), env[i]? = some (some d) → ∃ v, σ[i]? = some (some v) ∧ Rp K I v d
/-- an exception's fields -/
def ExcR (K : PySem.W.Frag) (I : Hp) (fs : List (Str × D)) : Option Addr → Prop
  | none => fs = []
  | some d => ∃ fvs, I d = some (.xd fvs) ∧ RpF K I fvs fs
structure DC where
  F : Hp
  I0 : Hp
  W : WX
  Wd : DW
structure Gd (K : PySem.W.Frag) (Δ : DC) (I : Hp) (M : Mem) (H : Hp) (σ : L2.St) (env : Env) : Prop where
  base : Ext Δ.I0 I
  at_ : At K Δ.F I M H
  env : EnvR K I σ env
/-- how the wishes hang together -/
structure XOk (X : Cx) (Δ : DC) : Prop where
  takes : Takes X Δ.W
  link : ∀ {I M H σ env c fs d}, Gd X.K Δ I M H σ env → ExcR X.K I fs d → Δ.Wd c fs env M → Δ.W c d σ H

abbrev DE := Env → Mem → DKt → Prop
abbrev DT := Env → Mem → (Bool → Mem → Prop) → Prop
abbrev DA := Env → Mem → (List D → Mem → Prop) → Prop
structure EndsD where
  nx : Env → Mem → Prop
  rt : DKt
  bk : Env → Mem → Prop := fun _ _ => False
  ct : Env → Mem → Prop := fun _ _ => False
abbrev DS := EndsD → Env → Mem → Prop

def SndE (X : Cx) (Δ : DC) (te : TE) (de : DE) : Prop := ∀ I M H σ env, Gd X.K Δ I M H σ env → ∀ (Q : VK) (Qd : DKt),
  (∀ d M' I' H' v, Ext I I' → Gd X.K Δ I' M' H' σ env → Rp X.K I' v d → Qd d M' → Q v H') → de env M Qd → te σ H Q
def SndT (X : Cx) (Δ : DC) (tt : TT) (dt : DT) : Prop := ∀ I M H σ env, Gd X.K Δ I M H σ env → ∀ (Q : Bool → Hp → Prop) (Qd : Bool → Mem → Prop),
  (∀ b M' I' H', Ext I I' → Gd X.K Δ I' M' H' σ env → Qd b M' → Q b H') → dt env M Qd → tt σ H Q
def SndA (X : Cx) (Δ : DC) (ta : TA) (da : DA) : Prop := ∀ I M H σ env, Gd X.K Δ I M H σ env → ∀ (Q : List V → Hp → Prop) (Qd : List D → Mem → Prop),
  (∀ ds M' I' H' vs, Ext I I' → Gd X.K Δ I' M' H' σ env → Rps X.K I' vs ds → Qd ds M' → Q vs H') → da env M Qd → ta σ H Q
structure EndsR (X : Cx) (Δ : DC) (I : Hp) (T : Ends) (Td : EndsD) : Prop where
  nx : ∀ env M I' H σ, Ext I I' → Gd X.K Δ I' M H σ env → Td.nx env M → T.nx σ H
  bk : ∀ env M I' H σ, Ext I I' → Gd X.K Δ I' M H σ env → Td.bk env M → T.bk σ H
  ct : ∀ env M I' H σ, Ext I I' → Gd X.K Δ I' M H σ env → Td.ct env M → T.ct σ H
  rt : ∀ d M I' H v, Ext I I' → Ext Δ.I0 I' → At X.K Δ.F I' M H → Rp X.K I' v d → Td.rt d M → T.rt v H
def SndS (X : Cx) (Δ : DC) (ts : TS) (ds : DS) : Prop := ∀ I M H σ env, Gd X.K Δ I M H σ env → ∀ (T : Ends) (Td : EndsD), EndsR X Δ I T Td → ds Td env M → ts T σ H
theorem EndsR.ext {X : Cx} {Δ : DC} {I J : Hp} {T : Ends} {Td : EndsD} (R : EndsR X Δ I T Td) (x : Ext I J) : EndsR X Δ J T Td :=
  ⟨fun _ _ _ _ _ y => R.nx _ _ _ _ _ (x.trans y), fun _ _ _ _ _ y => R.bk _ _ _ _ _ (x.trans y), fun _ _ _ _ _ y => R.ct _ _ _ _ _ (x.trans y), fun _ _ _ _ _ y => R.rt _ _ _ _ _ (x.trans y)⟩

def PDe (X : Cx) (Δ : DC) (e : Expr) (t : TE) (de : DE) : Prop := PE X e t ∧ SndE X Δ t de
def PDt (X : Cx) (Δ : DC) (e : Expr) (t : TT) (dt : DT) : Prop := PT X e t ∧ SndT X Δ t dt
def PDw (X : Cx) (Δ : DC) (e : Expr) (t : TT) (dt : DT) : Prop := PW X e t ∧ SndT X Δ t dt
def PDa (X : Cx) (Δ : DC) (es : List Expr) (t : TA) (da : DA) : Prop := PA X es t ∧ SndA X Δ t da
def PDs (X : Cx) (Δ : DC) (s : Stmt) (t : TS) (ds : DS) : Prop := PS X s t ∧ SndS X Δ t ds
def PDss (X : Cx) (Δ : DC) (s : List Stmt) (t : TS) (ds : DS) : Prop := PSs X s t ∧ SndS X Δ t ds

section
variable {K : PySem.W.Frag} {Δ : DC} {I J H H' : Hp} {M M' : Mem} {σ : L2.St} {env : Env} {X : Cx}
theorem EnvR.ext (R : EnvR K I σ env) (x : Ext I J) : EnvR K J σ env := ⟨R.len, fun i d h => let ⟨v, h1, h2⟩ := R.get i d h; ⟨v, h1, h2.ext x⟩⟩
theorem Gd.go (G : Gd K Δ I M H σ env) (x : Ext I J) (A : At K Δ.F J M' H') : Gd K Δ J M' H' σ env := ⟨G.base.trans x, A, G.env.ext x⟩
theorem EnvR.set {i : Nat} {v : V} {d : D} (R : EnvR K I σ env) (r : Rp K I v d) : EnvR K I (σ.set i (some v)) (env.set i (some d)) := by
  refine ⟨by rw [List.length_set, List.length_set]; exact R.len, fun j e h => ?_⟩
  by_cases hij : i = j
  · subst hij
    have hl : i < env.length := by
      have := (List.getElem?_eq_some_iff.mp h).1
      rw [List.length_set] at this
      exact this
    rw [List.getElem?_set_self hl] at h
    cases h
    exact ⟨v, by rw [List.getElem?_set_self (by rw [R.len]; exact hl)], r⟩
  · rw [List.getElem?_set_ne hij] at h ⊢
    exact R.get j e h
theorem EnvR.setN {i : Nat} {o : Option V} (R : EnvR K I σ env) : EnvR K I (σ.set i o) (env.set i none) := by
  refine ⟨by rw [List.length_set, List.length_set]; exact R.len, fun j e h => ?_⟩
  by_cases hij : i = j
  · subst hij
    have hl : i < env.length := by
      have := (List.getElem?_eq_some_iff.mp h).1
      rw [List.length_set] at this
      exact this
    rw [List.getElem?_set_self hl] at h
    cases h
  · rw [List.getElem?_set_ne hij] at h ⊢
    exact R.get j e h
theorem Gd.set {i : Nat} {v : V} {d : D} (G : Gd K Δ I M H σ env) (r : Rp K I v d) : Gd K Δ I M H (σ.set i (some v)) (env.set i (some d)) := ⟨G.base, G.at_, G.env.set r⟩
/-- a new fixed object, as a value -/
theorem Gd.newI (G : Gd K Δ I M H σ env) {p : Addr} (h : H p = none) (o : HO) : Ext I (upd I p o) ∧ Gd K Δ (upd I p o) M (upd H p o) σ env :=
  ⟨Ext.new (G.at_.freeI h), G.go (Ext.new (G.at_.freeI h)) (G.at_.newI h o)⟩
theorem Gd.newM (G : Gd K Δ I M H σ env) {p : Addr} (h : H p = none) (o : HO) (m : MO) (hm : MRep K I (mset M p m) (upd H p o) p m) : Gd K Δ I (mset M p m) (upd H p o) σ env :=
  G.go (Ext.refl I) (G.at_.newM h o m hm)
theorem Rps.toVals {vs : List V} {ds : List D} : Rps K I vs ds → True := fun _ => trivial
end
end BB

set_option maxHeartbeats 2000000
namespace BB
open L2 PySem PySem.Spec PyProof.Rows

section
variable {X : Cx} {Δ : DC} {e a b c : Expr} {de da db dc : DE} {dt du : DT} {pos : Pos}
variable {ta tb tc te to ti : TE} {t1 t2 : TT} {tl : TA}

/-! ### names, constants -/
def dVar (i : Nat) : DE := fun env M Q => ∃ d, env[i]? = some (some d) ∧ Q d M
def dC (d : D) : DE := fun _ M Q => Q d M
theorem pd_var {i : Nat} (h : PE X e (tVar i)) : PDe X Δ e (tVar i) (dVar i) := ⟨h, fun I M H σ env G Q Qd k ⟨d, h1, h2⟩ => by
  obtain ⟨v, e1, r⟩ := G.env.get i d h1
  exact ⟨v, e1, k d M I H v (Ext.refl I) G r h2⟩⟩
theorem pd_cst {v : V} {d : D} (h : PE X e (tC v)) (r : ∀ I, Rp X.K I v d) : PDe X Δ e (tC v) (dC d) := ⟨h, fun I M H σ env G Q Qd k q => k d M I H v (Ext.refl I) G (r I) q⟩
theorem pd_int {i j pos} : PDe X Δ (.Constant (.int i) j pos) (tC (.int i)) (dC (.int i)) := pd_cst pe_int fun _ => .int _
theorem pd_bl {i j pos} : PDe X Δ (.Constant (.bool i) j pos) (tC (.bl i)) (dC (.bl i)) := pd_cst pe_bl fun _ => .bl _
theorem pd_non {j pos} : PDe X Δ (.Constant .none j pos) (tC .non) (dC .non) := pd_cst pe_non fun _ => .non
theorem pd_str {x j pos} : PDe X Δ (.Constant (.str x) j pos) (tC (.str x)) (dC (.str x)) := pd_cst pe_str fun _ => .str _
/-- a module's own int, text, def, class -/
theorem pd_globI {x : Str} {i : Int} {t : Tok} (hg : Gl X x) (hm : X.mg x = some (.int i t)) (hd : (x == ("__debug__" : Str)) = false := by decide) : PDe X Δ (.Name x pos) (tC (.int i)) (dC (.int i)) := pd_cst (pe_glob (v := .int i) hg hm ⟨t, rfl⟩ hd) fun _ => .int _
theorem pd_globS {x z : Str} {t : Tok} (hg : Gl X x) (hm : X.mg x = some (.str z t)) (hd : (x == ("__debug__" : Str)) = false := by decide) : PDe X Δ (.Name x pos) (tC (.str z)) (dC (.str z)) := pd_cst (pe_glob (v := .str z) hg hm ⟨t, rfl⟩ hd) fun _ => .str _
theorem pd_globR {x : Str} {f : Addr} (hg : Gl X x) (hm : X.mg x = some (.ref f)) (hd : (x == ("__debug__" : Str)) = false := by decide) : PDe X Δ (.Name x pos) (tC (.ref f)) (dC (.ref f)) := pd_cst (pe_glob (v := .ref f) hg hm rfl hd) fun _ => .ref _
theorem pd_bltn {x : Str} {n : String} (hg : Gl X x) (hm : X.mg x = none) (hv : bootBuiltins x = some (.type n)) (hn : x ≠ "__name__" := by decide) (hd : (x == ("__debug__" : Str)) = false := by decide) : PDe X Δ (.Name x pos) (tC (.ty n)) (dC (.ty n)) :=
  pd_cst (pe_bltn (v := .ty n) hg hm hv rfl hn hd) fun _ => .ty _

/-! ### operators -/
abbrev RD2 := D → D → Mem → DKt → Prop
def SndR (X : Cx) (r : R2) (rd : RD2) : Prop := ∀ (Δ : DC) I M H σ env, Gd X.K Δ I M H σ env → ∀ x y dx dy, Rp X.K I x dx → Rp X.K I y dy → ∀ (Q : VK) (Qd : DKt),
  (∀ d M' I' H' v, Ext I I' → Gd X.K Δ I' M' H' σ env → Rp X.K I' v d → Qd d M' → Q v H') → rd dx dy M Qd → r x y H Q
def dOp (rd : RD2) (da db : DE) : DE := fun env M Q => da env M fun x M1 => db env M1 fun y M2 => rd x y M2 Q
theorem snd_op {r : R2} {rd : RD2} {ta tb : TE} (hr : SndR X r rd) (ha : SndE X Δ ta da) (hb : SndE X Δ tb db) : SndE X Δ (tOp r ta tb) (dOp rd da db) := fun I M H σ env G Q Qd k q =>
  ha I M H σ env G _ _ (fun x M1 I1 H1 v x1 G1 r1 q1 => hb I1 M1 H1 σ env G1 _ _ (fun y M2 I2 H2 u x2 G2 r2 q2 =>
    hr Δ I2 M2 H2 σ env G2 v u x y (r1.ext x2) r2 Q Qd (fun d M' I' H' w x3 => k d M' I' H' w ((x1.trans x2).trans x3)) q2) q1) q
theorem pd_op {op : Operator} {r : R2} {rd : RD2} (ho : OpR X (binaryOp op) r) (hr : SndR X r rd) (ha : PDe X Δ a ta da) (hb : PDe X Δ b tb db) : PDe X Δ (.BinOp a op b pos) (tOp r ta tb) (dOp rd da db) := by
  obtain ⟨pa, sa⟩ := ha
  obtain ⟨pb, sb⟩ := hb
  exact ⟨pe_op ho pa pb, snd_op hr sa sb⟩
theorem pd_cmp {op : CmpOp} {r : R2} {rd : RD2} (ho : OpR X (compareOp op) r) (hr : SndR X r rd) (ha : PDe X Δ a ta da) (hb : PDe X Δ b tb db) (hm : behindInMarks op b = false) : PDe X Δ (.Compare a [op] [b] pos) (tOp r ta tb) (dOp rd da db) := by
  obtain ⟨pa, sa⟩ := ha
  obtain ⟨pb, sb⟩ := hb
  exact ⟨pe_cmpR ho pa pb hm, snd_op hr sa sb⟩
/-- a value's answer as a test -/
def dTest (de : DE) : DT := fun env M Q => de env M fun x M1 => ∃ k, x = .bl k ∧ Q k M1
theorem snd_test {te : TE} (h : SndE X Δ te de) : SndT X Δ (tTest te) (dTest de) := fun I M H σ env G Q Qd k q =>
  h I M H σ env G _ _ (fun d M' I' H' v x G' r ⟨b, e, q'⟩ => by subst e; rw [r.bl_inv]; exact ⟨b, rfl, k b M' I' H' x G' q'⟩) q
theorem pdt_cmp {op : CmpOp} {r : R2} {rd : RD2} (ho : OpR X (compareOp op) r) (hr : SndR X r rd) (ha : PDe X Δ a ta da) (hb : PDe X Δ b tb db) (hm : behindInMarks op b = false) : PDt X Δ (.Compare a [op] [b] pos) (tTest (tOp r ta tb)) (dTest (dOp rd da db)) := by
  obtain ⟨pa, sa⟩ := ha
  obtain ⟨pb, sb⟩ := hb
  exact ⟨pt_cmpR ho pa pb hm, snd_test (snd_op hr sa sb)⟩
/-- a < b < c -/
def dChain (rd rd' : RD2) (da db dc : DE) : DE := fun env M Q => da env M fun x M1 => db env M1 fun y M2 => rd x y M2 fun z M3 => ∃ k, z = .bl k ∧
  (if k = true then dc env M3 fun w M4 => rd' y w M4 Q else Q (.bl false) M3)
theorem snd_chain {r r' : R2} {rd rd' : RD2} {ta tb tc : TE} (hr : SndR X r rd) (hr' : SndR X r' rd') (ha : SndE X Δ ta da) (hb : SndE X Δ tb db) (hc : SndE X Δ tc dc) : SndE X Δ (tChain r r' ta tb tc) (dChain rd rd' da db dc) := fun I M H σ env G Q Qd k q =>
  ha I M H σ env G _ _ (fun x M1 I1 H1 v x1 G1 r1 q1 => hb I1 M1 H1 σ env G1 _ _ (fun y M2 I2 H2 u x2 G2 r2 q2 =>
    hr Δ I2 M2 H2 σ env G2 v u x y (r1.ext x2) r2 _ _ (fun d M3 I3 H3 w x3 G3 r3 ⟨b, e, q3⟩ => by
      subst e
      rw [r3.bl_inv]
      refine ⟨b, rfl, ?_⟩
      cases b with
      | true =>
        rw [if_pos rfl] at q3 ⊢
        exact hc I3 M3 H3 σ env G3 _ _ (fun z M4 I4 H4 u4 x4 G4 r4 q4 => hr' Δ I4 M4 H4 σ env G4 u u4 y z ((r2.ext x3).ext x4) r4 Q Qd (fun d M' I' H' w x5 => k d M' I' H' w ((((x1.trans x2).trans x3).trans x4).trans x5)) q4) q3
      | false =>
        rw [if_neg Bool.false_ne_true] at q3 ⊢
        exact k _ _ _ _ _ ((x1.trans x2).trans x3) G3 (.bl false) q3) q2) q1) q
theorem pd_chain {op op' : CmpOp} {r r' : R2} {rd rd' : RD2} (ho : OpR X (compareOp op) r) (hr : SndR X r rd) (ho' : OpR X (compareOp op') r') (hr' : SndR X r' rd') (ha : PDe X Δ a ta da) (hb : PDe X Δ b tb db) (hc : PDe X Δ c tc dc)
    (hm : lastMarks [op, op'] [b, c] = false := by with_unfolding_all rfl) : PDe X Δ (.Compare a [op, op'] [b, c] pos) (tChain r r' ta tb tc) (dChain rd rd' da db dc) := by
  obtain ⟨pa, sa⟩ := ha
  obtain ⟨pb, sb⟩ := hb
  obtain ⟨pc, sc⟩ := hc
  exact ⟨pe_chain ho ho' pa pb pc hm, snd_chain hr hr' sa sb sc⟩
theorem pdt_chain {op op' : CmpOp} {r r' : R2} {rd rd' : RD2} (ho : OpR X (compareOp op) r) (hr : SndR X r rd) (ho' : OpR X (compareOp op') r') (hr' : SndR X r' rd') (ha : PDe X Δ a ta da) (hb : PDe X Δ b tb db) (hc : PDe X Δ c tc dc)
    (hm : lastMarks [op, op'] [b, c] = false := by with_unfolding_all rfl) : PDt X Δ (.Compare a [op, op'] [b, c] pos) (tTest (tChain r r' ta tb tc)) (dTest (dChain rd rd' da db dc)) := by
  obtain ⟨pa, sa⟩ := ha
  obtain ⟨pb, sb⟩ := hb
  obtain ⟨pc, sc⟩ := hc
  exact ⟨pt_chain ho ho' pa pb pc hm, snd_test (snd_chain hr hr' sa sb sc)⟩

/-! ### truth -/
def dTruth (M : Mem) : D → Option Bool
  | .non => some false
  | .bl b => some b
  | .int i => some (i != 0)
  | .str x => if x.length ≤ sizeLine then some (x.length != 0) else none
  | .tup xs => some !xs.isEmpty
  | .lst xs => some !xs.isEmpty
  | .frz xs => some !xs.isEmpty
  | .ref p => match M p with | some (.lst xs) => some !xs.isEmpty | _ => none
  | _ => none
theorem Rps.isEmpty {K : PySem.W.Frag} {I : Hp} {vs : List V} {ds : List D} (h : Rps K I vs ds) : vs.isEmpty = ds.isEmpty := by cases h <;> rfl
theorem tru_of {K : PySem.W.Frag} {F I H : Hp} {M : Mem} (A : At K F I M H) {v : V} {d : D} {b : Bool} (r : Rp K I v d) (h : dTruth M d = some b) : TruV K v H b := by
  have ex : ∀ a o, I a = some o → H a = some o := A.ex
  have sqT : ∀ {a xs}, SqT K I a xs → SqT K H a xs := fun {a xs} z => by
    rcases z with (z | ⟨o, z⟩) | z
    · exact .inl (.inl (ex _ _ z))
    · exact .inl (.inr ⟨o, ex _ _ z⟩)
    · exact .inr z
  have sqL : ∀ {a xs}, SqL K I a xs → SqL K H a xs := fun {a xs} z => by
    rcases z with (z | ⟨o, z⟩) | z
    · exact .inl (.inl (ex _ _ z))
    · exact .inl (.inr ⟨o, ex _ _ z⟩)
    · exact .inr z
  cases d with
  | non => cases h; rw [r.non_inv]; exact rfl
  | bl c => cases h; rw [r.bl_inv]; exact rfl
  | int i => cases h; rw [r.int_inv]; exact rfl
  | str x =>
    rw [r.str_inv]
    have h' : (if x.length ≤ sizeLine then some (x.length != 0) else none) = some b := h
    by_cases hz : x.length ≤ sizeLine
    · rw [if_pos hz] at h'
      cases h'
      refine ⟨hz, ?_⟩
      simp [bne, BEq.beq]
      all_goals first | rfl | omega
    · rw [if_neg hz] at h'; cases h'
  | tup xs => cases h; obtain ⟨a, vs, rfl, h1, h2⟩ := r.tup_inv; exact .inr (.inl ⟨vs, sqT h1, by rw [h2.isEmpty]⟩)
  | lst xs => cases h; obtain ⟨a, vs, rfl, h1, h2⟩ := r.lst_inv; exact .inl ⟨vs, .inl (.inl (ex _ _ h1)), by rw [h2.isEmpty]⟩
  | frz xs => cases h; obtain ⟨a, vs, rfl, h1, h2⟩ := r.frz_inv; exact .inl ⟨vs, sqL h1, by rw [h2.isEmpty]⟩
  | ref p =>
    rw [r.ref_inv]
    have h' : (match M p with | some (.lst xs) => some !xs.isEmpty | _ => none) = some b := h
    split at h'
    · rename_i xs e
      cases h'
      obtain ⟨_, vs, h1, h2⟩ := A.mem _ _ e
      exact .inl ⟨vs, .inl (.inl h1), by rw [h2.isEmpty]⟩
    · cases h'
  | _ => cases h
def dTru (de : DE) : DT := fun env M Q => de env M fun d M1 => ∃ b, dTruth M1 d = some b ∧ Q b M1
theorem pdt_tru (he : PDe X Δ e te de) (hw : ∀ whole, isTrue e X.env whole = (do let v ← whole; standAt e.pos; holding [v] (truthy v)) := by intro _; rfl) : PDt X Δ e (fun σ H Q => te σ H fun x H' => ∃ k, TruV X.K x H' k ∧ Q k H') (dTru de) := by
  obtain ⟨pe, se⟩ := he
  exact ⟨pt_truth pe hw, fun I M H σ env G Q Qd k q => se I M H σ env G _ _ (fun d M1 I1 H1 v x1 G1 r1 ⟨b, e1, q1⟩ => ⟨b, tru_of G1.at_ r1 e1, k b M1 I1 H1 x1 G1 q1⟩) q⟩

/-! ### and, or, not; if -/
variable {rest : List Expr}
def dAnd (t u : DT) : DT := fun env M Q => t env M fun c M1 => if c = true then u env M1 Q else Q false M1
def dOr (t u : DT) : DT := fun env M Q => t env M fun c M1 => if c = true then Q true M1 else u env M1 Q
def dNot (t : DT) : DT := fun env M Q => t env M fun c M1 => Q (!c) M1
theorem pdw_and1 (ha : PDt X Δ a t1 dt) : PDw X Δ (.BoolOp .And [a] pos) t1 dt := ⟨pw_and1 ha.1, ha.2⟩
theorem pdw_or1 (ha : PDt X Δ a t1 dt) : PDw X Δ (.BoolOp .Or [a] pos) t1 dt := ⟨pw_or1 ha.1, ha.2⟩
theorem snd_and {t u : TT} (h : SndT X Δ t dt) (h' : SndT X Δ u du) : SndT X Δ (tAnd t u) (dAnd dt du) := fun I M H σ env G Q Qd k q =>
  h I M H σ env G _ _ (fun b M1 I1 H1 x1 G1 q1 => by
    cases b with
    | true => rw [if_pos rfl] at q1 ⊢; exact h' I1 M1 H1 σ env G1 Q Qd (fun b M' I' H' x => k b M' I' H' (x1.trans x)) q1
    | false => rw [if_neg Bool.false_ne_true] at q1 ⊢; exact k _ _ _ _ x1 G1 q1) q
theorem snd_or {t u : TT} (h : SndT X Δ t dt) (h' : SndT X Δ u du) : SndT X Δ (tOr t u) (dOr dt du) := fun I M H σ env G Q Qd k q =>
  h I M H σ env G _ _ (fun b M1 I1 H1 x1 G1 q1 => by
    cases b with
    | false => rw [if_neg Bool.false_ne_true] at q1 ⊢; exact h' I1 M1 H1 σ env G1 Q Qd (fun b M' I' H' x => k b M' I' H' (x1.trans x)) q1
    | true => rw [if_pos rfl] at q1 ⊢; exact k _ _ _ _ x1 G1 q1) q
theorem snd_not {t : TT} (h : SndT X Δ t dt) : SndT X Δ (tNot t) (dNot dt) := fun I M H σ env G Q Qd k q => h I M H σ env G _ _ (fun b M1 I1 H1 x1 G1 q1 => k _ _ _ _ x1 G1 q1) q
theorem pdw_and (ha : PDt X Δ a t1 dt) (hb : PDw X Δ (.BoolOp .And (b :: rest) pos) t2 du) : PDw X Δ (.BoolOp .And (a :: b :: rest) pos) (tAnd t1 t2) (dAnd dt du) := ⟨pw_and ha.1 hb.1, snd_and ha.2 hb.2⟩
theorem pdw_or (ha : PDt X Δ a t1 dt) (hb : PDw X Δ (.BoolOp .Or (b :: rest) pos) t2 du) : PDw X Δ (.BoolOp .Or (a :: b :: rest) pos) (tOr t1 t2) (dOr dt du) := ⟨pw_or ha.1 hb.1, snd_or ha.2 hb.2⟩
theorem pdt_w (h : PDw X Δ e t1 dt) : PDt X Δ e t1 dt := ⟨h.1.pt, h.2⟩
theorem pdt_not (ha : PDt X Δ a t1 dt) : PDt X Δ (.UnaryOp .Not a pos) (tNot t1) (dNot dt) := ⟨pt_not ha.1, snd_not ha.2⟩
/-- as values (of truths) -/
def dAndV (da db : DE) : DE := fun env M Q => da env M fun x M1 => ∃ c, x = .bl c ∧ if c = true then db env M1 Q else Q (.bl false) M1
def dOrV (da db : DE) : DE := fun env M Q => da env M fun x M1 => ∃ c, x = .bl c ∧ if c = true then Q (.bl true) M1 else db env M1 Q
def dNotV (da : DE) : DE := fun env M Q => da env M fun x M1 => ∃ c, dTruth M1 x = some c ∧ Q (.bl (!c)) M1
theorem pd_one {op} (h : PDe X Δ a ta da) : PDe X Δ (.BoolOp op [a] pos) ta da := ⟨pe_one h.1, h.2⟩
theorem pd_and (ha : PDe X Δ a ta da) (hb : PDe X Δ (.BoolOp .And (b :: rest) pos) tb db) : PDe X Δ (.BoolOp .And (a :: b :: rest) pos) (tAndV ta tb) (dAndV da db) := by
  obtain ⟨pa, sa⟩ := ha
  obtain ⟨pb, sb⟩ := hb
  refine ⟨pe_and pa pb, fun I M H σ env G Q Qd k q => sa I M H σ env G _ _ (fun d M1 I1 H1 v x1 G1 r1 ⟨c, e, q1⟩ => ?_) q⟩
  subst e
  rw [r1.bl_inv]
  refine ⟨c, rfl, ?_⟩
  cases c with
  | true => rw [if_pos rfl] at q1 ⊢; exact sb I1 M1 H1 σ env G1 Q Qd (fun b M' I' H' v x => k b M' I' H' v (x1.trans x)) q1
  | false => rw [if_neg Bool.false_ne_true] at q1 ⊢; exact k _ _ _ _ _ x1 G1 (.bl false) q1
theorem pd_or (ha : PDe X Δ a ta da) (hb : PDe X Δ (.BoolOp .Or (b :: rest) pos) tb db) : PDe X Δ (.BoolOp .Or (a :: b :: rest) pos) (tOrV ta tb) (dOrV da db) := by
  obtain ⟨pa, sa⟩ := ha
  obtain ⟨pb, sb⟩ := hb
  refine ⟨pe_or pa pb, fun I M H σ env G Q Qd k q => sa I M H σ env G _ _ (fun d M1 I1 H1 v x1 G1 r1 ⟨c, e, q1⟩ => ?_) q⟩
  subst e
  rw [r1.bl_inv]
  refine ⟨c, rfl, ?_⟩
  cases c with
  | false => rw [if_neg Bool.false_ne_true] at q1 ⊢; exact sb I1 M1 H1 σ env G1 Q Qd (fun b M' I' H' v x => k b M' I' H' v (x1.trans x)) q1
  | true => rw [if_pos rfl] at q1 ⊢; exact k _ _ _ _ _ x1 G1 (.bl true) q1
theorem pd_not (ha : PDe X Δ a ta da) : PDe X Δ (.UnaryOp .Not a pos) (tNotT X.K ta) (dNotV da) := by
  obtain ⟨pa, sa⟩ := ha
  refine ⟨pe_notT pa, fun I M H σ env G Q Qd k q => sa I M H σ env G _ _ (fun d M1 I1 H1 v x1 G1 r1 ⟨c, e, q1⟩ => ?_) q⟩
  exact ⟨c, tru_of G1.at_ r1 e, k _ _ _ _ _ x1 G1 (.bl _) q1⟩
def dIf (t : DT) (da db : DE) : DE := fun env M Q => t env M fun c M1 => if c = true then da env M1 Q else db env M1 Q
theorem pd_ifExp {c : Expr} (hc : PDt X Δ c t1 dt) (ha : PDe X Δ a ta da) (hb : PDe X Δ b tb db) : PDe X Δ (.IfExp c a b pos) (tIf t1 ta tb) (dIf dt da db) := by
  obtain ⟨pc, sc⟩ := hc
  obtain ⟨pa, sa⟩ := ha
  obtain ⟨pb, sb⟩ := hb
  refine ⟨pe_ifExp pc pa pb, fun I M H σ env G Q Qd k q => sc I M H σ env G _ _ (fun d M1 I1 H1 x1 G1 q1 => ?_) q⟩
  cases d with
  | true => rw [if_pos rfl] at q1 ⊢; exact sa I1 M1 H1 σ env G1 Q Qd (fun b M' I' H' v x => k b M' I' H' v (x1.trans x)) q1
  | false => rw [if_neg Bool.false_ne_true] at q1 ⊢; exact sb I1 M1 H1 σ env G1 Q Qd (fun b M' I' H' v x => k b M' I' H' v (x1.trans x)) q1

/-! ### arguments, displays -/
variable {es : List Expr} {dl : DA}
def dNil : DA := fun _ M Q => Q [] M
def dCons (da : DE) (dr : DA) : DA := fun env M Q => da env M fun x M1 => dr env M1 fun xs M2 => Q (x :: xs) M2
theorem pda_nil : PDa X Δ [] tNil dNil := ⟨pa_nil, fun I M H σ env G Q Qd k q => k [] M I H [] (Ext.refl I) G .nil q⟩
theorem pda_cons (ha : PDe X Δ e te da) (hr : PDa X Δ es tl dl) (he : starEach (e :: es) X.env = (false, eval e X.env) :: starEach es X.env := by rfl) : PDa X Δ (e :: es) (tCons te tl) (dCons da dl) := by
  obtain ⟨pa, sa⟩ := ha
  obtain ⟨pr, sr⟩ := hr
  refine ⟨pa_cons pa pr he, fun I M H σ env G Q Qd k q => sa I M H σ env G _ _ (fun d M1 I1 H1 v x1 G1 r1 q1 => sr I1 M1 H1 σ env G1 _ _ (fun ds M2 I2 H2 vs x2 G2 r2 q2 => ?_) q1) q⟩
  exact k _ _ _ _ _ (x1.trans x2) G2 (.cons (r1.ext x2) r2) q2
def dTup (dl : DA) : DE := fun env M Q => dl env M fun xs M1 => xs.length ≤ sizeLine ∧ Q (.tup xs) M1
/-- a list that stays as it is; one of the store -/
def dLst (dl : DA) : DE := fun env M Q => dl env M fun xs M1 => xs.length ≤ sizeLine ∧ Q (.lst xs) M1
def dLstM (dl : DA) : DE := fun env M Q => dl env M fun xs M1 => xs.length ≤ sizeLine ∧ ∀ p, M1 p = none → Q (.ref p) (mset M1 p (.lst xs))
theorem pd_tup {x1} (h : PDa X Δ es tl dl) : PDe X Δ (.Tuple es x1 pos) (tTup tl) (dTup dl) := by
  obtain ⟨p, s⟩ := h
  refine ⟨pe_tup p, fun I M H σ env G Q Qd k q => s I M H σ env G _ _ (fun ds M1 I1 H1 vs x1 G1 r1 ⟨z, q1⟩ => ⟨by rw [r1.length]; exact z, fun p hp => ?_⟩) q⟩
  obtain ⟨x2, G2⟩ := G1.newI hp (.tup vs)
  exact k _ _ _ _ _ (x1.trans x2) G2 (.tup (.inl (.inl upd_same)) (r1.ext x2)) q1
theorem pd_lst (h : PDa X Δ es tl dl) : PDe X Δ (.List es pos) (tLst tl) (dLst dl) := by
  obtain ⟨p, s⟩ := h
  refine ⟨pe_lst p, fun I M H σ env G Q Qd k q => s I M H σ env G _ _ (fun ds M1 I1 H1 vs x1 G1 r1 ⟨z, q1⟩ => ⟨by rw [r1.length]; exact z, fun p hp => ?_⟩) q⟩
  obtain ⟨x2, G2⟩ := G1.newI hp (.lst vs)
  exact k _ _ _ _ _ (x1.trans x2) G2 (.lst upd_same (r1.ext x2)) q1
theorem pd_lstM (h : PDa X Δ es tl dl) : PDe X Δ (.List es pos) (tLst tl) (dLstM dl) := by
  obtain ⟨p, s⟩ := h
  refine ⟨pe_lst p, fun I M H σ env G Q Qd k q => s I M H σ env G _ _ (fun ds M1 I1 H1 vs x1 G1 r1 ⟨z, q1⟩ => ⟨by rw [r1.length]; exact z, fun p hp => ?_⟩) q⟩
  exact k _ _ _ _ _ x1 (G1.newM hp (.lst vs) (.lst ds) ⟨vs, upd_same, r1⟩) (.ref p) (q1 p (G1.at_.freeM hp))
end
end BB

set_option maxHeartbeats 2000000
namespace BB
open L2 PySem PySem.Spec PyProof.Rows

section
variable {X : Cx} {Δ : DC} {e a b c : Expr} {de da db dc : DE} {dt du : DT} {pos : Pos} {ds dr : DS} {st : Stmt} {rest sts : List Stmt}
variable {ta tb tc te to ti : TE} {t1 t2 : TT} {tl : TA}
variable {ts ts' tsa tsb : TS} {g g1 : TG} {g2 : TGs} {wi : TI}
theorem At.sqT {K : PySem.W.Frag} {F I H : Hp} {M : Mem} (A : At K F I M H) {a : Addr} {xs} (h : SqT K I a xs) : SqT K H a xs := by
  rcases h with (z | ⟨o, z⟩) | z
  · exact .inl (.inl (A.ex _ _ z))
  · exact .inl (.inr ⟨o, A.ex _ _ z⟩)
  · exact .inr z
theorem At.sqL {K : PySem.W.Frag} {F I H : Hp} {M : Mem} (A : At K F I M H) {a : Addr} {xs} (h : SqL K I a xs) : SqL K H a xs := by
  rcases h with (z | ⟨o, z⟩) | z
  · exact .inl (.inl (A.ex _ _ z))
  · exact .inl (.inr ⟨o, A.ex _ _ z⟩)
  · exact .inr z

/-! ### what may be forgotten, let go, or fixed between two steps -/
def Loose : MO → Bool
  | .lst _ | .dK _ | .dT _ => true
  | _ => false
inductive FzS (P : Env → Mem → Prop) : Env → Mem → Prop
  | done {env M} : P env M → FzS P env M
  | forget {env M} (i : Nat) : FzS P (env.set i none) M → FzS P env M
  | drop {env M} (p : Addr) {m : MO} : M p = some m → Loose m = true → FzS P env (mdel M p) → FzS P env M
  | dropI {env M} (p : Addr) {C fs} : M p = some (.ins C fs) → (∀ dx, M dx = some (.own p) → FzS P env (mdel (mdel M p) dx)) → FzS P env M
  | fixL {env M} (i : Nat) {p xs} : env[i]? = some (some (.ref p)) → M p = some (.lst xs) → FzS P (env.set i (some (.lst xs))) (mdel M p) → FzS P env M
  | fixK {env M} (i : Nat) {p xs} : env[i]? = some (some (.ref p)) → M p = some (.dK xs) → FzS P (env.set i (some (.dK xs))) (mdel M p) → FzS P env M
  | fixT {env M} (i : Nat) {p xs} : env[i]? = some (some (.ref p)) → M p = some (.dT xs) → FzS P (env.set i (some (.dT xs))) (mdel M p) → FzS P env M
  | fixI {env M} (i : Nat) {p C fs} : env[i]? = some (some (.ref p)) → M p = some (.ins C fs) → (∀ dx, M dx = some (.own p) → FzS P (env.set i (some (.ins C fs))) (mdel (mdel M p) dx)) → FzS P env M
theorem At.drop {K : PySem.W.Frag} {F I H : Hp} {M : Mem} (A : At K F I M H) {p : Addr} {m : MO} (hp : M p = some m) (hm : Loose m = true) : At K F I (mdel M p) H where
  nt := A.nt
  ex := A.ex
  mem := fun b u e => by
    have hb : b ≠ p := fun z => by subst z; rw [mdel_same] at e; cases e
    rw [mdel_ne hb] at e
    refine ⟨(A.mem _ _ e).1, (A.mem _ _ e).2.mono (Ext.refl I) (fun c v _ hv => hv) (fun c hc => ?_)⟩
    rw [mdel_ne (mem_ne2 hc hp (by rintro rfl; cases hm))]; exact hc
  fr := fun b u e => by
    obtain ⟨h1, h2, h3⟩ := A.fr _ _ e
    have hb : b ≠ p := fun z => by subst z; rw [hp] at h3; cases h3
    exact ⟨h1, h2, by rw [mdel_ne hb]; exact h3⟩
theorem At.dropI {K : PySem.W.Frag} {F I H : Hp} {M : Mem} (A : At K F I M H) {p : Addr} {C fs} (hp : M p = some (.ins C fs)) : ∃ dx, M dx = some (.own p) ∧ At K F I (mdel (mdel M p) dx) H := by
  obtain ⟨hI, dx, fvs, hv, hd, hm, r⟩ := A.mem _ _ hp
  refine ⟨dx, hm, A.ex, fun b u e => ?_, fun b u e => ?_, A.nt⟩
  · have hb : b ≠ dx := fun z => by subst z; rw [mdel_same] at e; cases e
    rw [mdel_ne hb] at e
    have hb2 : b ≠ p := fun z => by subst z; rw [mdel_same] at e; cases e
    rw [mdel_ne hb2] at e
    refine ⟨(A.mem _ _ e).1, (A.mem _ _ e).2.mono (Ext.refl I) (fun c v _ hv => hv) (fun c hc => ?_)⟩
    have n1 : c ≠ dx := fun z => by subst z; rw [hm] at hc; cases hc; exact hb2 rfl
    rw [mdel_ne n1, mdel_ne (mem_ne2 hc hp (by intro z; cases z))]; exact hc
  · obtain ⟨h1, h2, h3⟩ := A.fr _ _ e
    have hb : b ≠ p := fun z => by subst z; rw [hp] at h3; cases h3
    have hb2 : b ≠ dx := fun z => by subst z; rw [hm] at h3; cases h3
    exact ⟨h1, h2, by rw [mdel_ne hb2, mdel_ne hb]; exact h3⟩
theorem EnvR.set0 {K : PySem.W.Frag} {I : Hp} {σ : L2.St} {env : Env} (R : EnvR K I σ env) (i : Nat) : EnvR K I σ (env.set i none) := by
  refine ⟨by rw [List.length_set]; exact R.len, fun j e h => ?_⟩
  by_cases hij : i = j
  · subst hij
    have hl : i < env.length := by
      have := (List.getElem?_eq_some_iff.mp h).1
      rw [List.length_set] at this
      exact this
    rw [List.getElem?_set_self hl] at h
    cases h
  · rw [List.getElem?_set_ne hij] at h
    exact R.get j e h
theorem EnvR.re {K : PySem.W.Frag} {I : Hp} {σ : L2.St} {env : Env} {i : Nat} {v : V} {d : D} (R : EnvR K I σ env) (hi : σ[i]? = some (some v)) (r : Rp K I v d) : EnvR K I σ (env.set i (some d)) := by
  refine ⟨by rw [List.length_set]; exact R.len, fun j e h => ?_⟩
  by_cases hij : i = j
  · subst hij
    have hl : i < env.length := by
      have := (List.getElem?_eq_some_iff.mp h).1
      rw [List.length_set] at this
      exact this
    rw [List.getElem?_set_self hl] at h
    cases h
    exact ⟨v, hi, r⟩
  · rw [List.getElem?_set_ne hij] at h
    exact R.get j e h
theorem fzs {K : PySem.W.Frag} {H : Hp} {σ : L2.St} {P : Env → Mem → Prop} {env : Env} {M : Mem} (h : FzS P env M) : ∀ {I : Hp}, Gd K Δ I M H σ env → ∃ I' M' env', Ext I I' ∧ Gd K Δ I' M' H σ env' ∧ P env' M' := by
  induction h with
  | done p => exact fun {I} G => ⟨I, _, _, Ext.refl I, G, p⟩
  | forget i _ ih => exact fun {I} G => ih ⟨G.base, G.at_, G.env.set0 i⟩
  | drop p hp hm _ ih => exact fun {I} G => ih ⟨G.base, G.at_.drop hp hm, G.env⟩
  | dropI p hp _ ih =>
    intro I G
    obtain ⟨dx, hd, A⟩ := G.at_.dropI hp
    exact ih dx hd ⟨G.base, A, G.env⟩
  | fixL i he hp _ ih =>
    intro I G
    obtain ⟨J, x, A, r⟩ := G.at_.fixL hp
    obtain ⟨v, hv, rv⟩ := G.env.get i _ he
    have e := rv.ref_inv
    subst e
    obtain ⟨I', M', env', x', G', q⟩ := ih (I := J) ⟨G.base.trans x, A, (G.env.ext x).re hv r⟩
    exact ⟨I', M', env', x.trans x', G', q⟩
  | fixK i he hp _ ih =>
    intro I G
    obtain ⟨J, x, A, r⟩ := G.at_.fixK hp
    obtain ⟨v, hv, rv⟩ := G.env.get i _ he
    have e := rv.ref_inv
    subst e
    obtain ⟨I', M', env', x', G', q⟩ := ih (I := J) ⟨G.base.trans x, A, (G.env.ext x).re hv r⟩
    exact ⟨I', M', env', x.trans x', G', q⟩
  | fixT i he hp _ ih =>
    intro I G
    obtain ⟨J, x, A, r⟩ := G.at_.fixT hp
    obtain ⟨v, hv, rv⟩ := G.env.get i _ he
    have e := rv.ref_inv
    subst e
    obtain ⟨I', M', env', x', G', q⟩ := ih (I := J) ⟨G.base.trans x, A, (G.env.ext x).re hv r⟩
    exact ⟨I', M', env', x.trans x', G', q⟩
  | fixI i he hp _ ih =>
    intro I G
    obtain ⟨dx, J, hd, x, A, r⟩ := G.at_.fixI hp
    obtain ⟨v, hv, rv⟩ := G.env.get i _ he
    have e := rv.ref_inv
    subst e
    obtain ⟨I', M', env', x', G', q⟩ := ih dx hd (I := J) ⟨G.base.trans x, A, (G.env.ext x).re hv r⟩
    exact ⟨I', M', env', x.trans x', G', q⟩

/-! ### statements -/
def dNext : DS := fun T env M => T.nx env M
def dSeq (t u : DS) : DS := fun T env M => t { T with nx := FzS (u T) } env M
theorem pdss_nil : PDss X Δ [] tNext dNext := ⟨pss_nil, fun I M H σ env G T Td R q => R.nx env M I H σ (Ext.refl I) G q⟩
theorem pdss_cons (h : PDs X Δ st ts ds) (h' : PDss X Δ rest ts' dr) : PDss X Δ (st :: rest) (tSeq ts ts') (dSeq ds dr) := by
  obtain ⟨p, s⟩ := h
  obtain ⟨p', s'⟩ := h'
  refine ⟨pss_cons p p', fun I M H σ env G T Td R q => s I M H σ env G _ { Td with nx := FzS (dr Td) } ⟨fun env' M' I' H' σ' x G' q' => ?_, R.bk, R.ct, R.rt⟩ q⟩
  obtain ⟨I2, M2, env2, x2, G2, q2⟩ := fzs q' G'
  exact s' I2 M2 H' σ' env2 G2 T Td (R.ext (x.trans x2)) q2
theorem pdss_one (h : PDs X Δ st ts ds) : PDss X Δ [st] ts ds := ⟨pss_one h.1, h.2⟩
theorem pds_pass : PDs X Δ (.Pass pos) tNext dNext := ⟨ps_pass, fun I M H σ env G T Td R q => R.nx env M I H σ (Ext.refl I) G q⟩
def dBreak : DS := fun T env M => T.bk env M
def dCont : DS := fun T env M => T.ct env M
theorem pds_break : PDs X Δ (.Break pos) tBreak dBreak := ⟨ps_break, fun I M H σ env G T Td R q => R.bk env M I H σ (Ext.refl I) G q⟩
theorem pds_continue : PDs X Δ (.Continue pos) tCont dCont := ⟨ps_continue, fun I M H σ env G T Td R q => R.ct env M I H σ (Ext.refl I) G q⟩
def dDrop (de : DE) : DS := fun T env M => de env M fun _ M1 => T.nx env M1
theorem pds_expr (he : PDe X Δ e te de) (hs : swapsWith e none pos.line X.env = pure false := by rfl) : PDs X Δ (.Expr e pos) (tDrop te) (dDrop de) := by
  obtain ⟨p, s⟩ := he
  exact ⟨ps_expr p hs, fun I M H σ env G T Td R q => s I M H σ env G _ _ (fun d M1 I1 H1 v x1 G1 r1 q1 => R.nx _ _ _ _ _ x1 G1 q1) q⟩
def dRet (de : DE) : DS := fun T env M => de env M T.rt
theorem pds_ret (he : PDe X Δ e te de) : PDs X Δ (.Return (some e) pos) (tRet te) (dRet de) := by
  obtain ⟨p, s⟩ := he
  exact ⟨ps_ret p, fun I M H σ env G T Td R q => s I M H σ env G _ _ (fun d M1 I1 H1 v x1 G1 r1 q1 => R.rt _ _ _ _ _ x1 G1.base G1.at_ r1 q1) q⟩
def dRetN : DS := fun T _ M => T.rt .non M
theorem pds_retN : PDs X Δ (.Return none pos) tRetN dRetN := ⟨ps_retN, fun I M H σ env G T Td R q => R.rt _ _ _ _ _ (Ext.refl I) G.base G.at_ .non q⟩
def dIfS (t : DT) (u w : DS) : DS := fun T env M => t env M fun b M1 => if b = true then u T env M1 else w T env M1
theorem pds_if {as bs : List Stmt} {ua ub : DS} (hc : PDt X Δ c t1 dt) (ha : PDss X Δ as tsa ua) (hb : PDss X Δ bs tsb ub) : PDs X Δ (.If c as bs pos) (tIfS t1 tsa tsb) (dIfS dt ua ub) := by
  obtain ⟨pc, sc⟩ := hc
  obtain ⟨pa, sa⟩ := ha
  obtain ⟨pb, sb⟩ := hb
  refine ⟨ps_if pc pa pb, fun I M H σ env G T Td R q => sc I M H σ env G _ _ (fun b M1 I1 H1 x1 G1 q1 => ?_) q⟩
  cases b with
  | true => rw [if_pos rfl] at q1 ⊢; exact sa I1 M1 H1 σ env G1 T Td (R.ext x1) q1
  | false => rw [if_neg Bool.false_ne_true] at q1 ⊢; exact sb I1 M1 H1 σ env G1 T Td (R.ext x1) q1

/-! ### targets -/
abbrev DG := D → Env → Mem → (Env → Mem → Prop) → Prop
abbrev DGs := List D → Env → Mem → (Env → Mem → Prop) → Prop
def SndG (X : Cx) (Δ : DC) (g : TG) (dg : DG) : Prop := ∀ I M H σ env, Gd X.K Δ I M H σ env → ∀ v d, Rp X.K I v d → ∀ (Q : L2.St → Hp → Prop) (Qd : Env → Mem → Prop),
  (∀ env' M' I' H' σ', Ext I I' → Gd X.K Δ I' M' H' σ' env' → Qd env' M' → Q σ' H') → dg d env M Qd → g v σ H Q
def SndGs (X : Cx) (Δ : DC) (g : TGs) (dg : DGs) : Prop := ∀ I M H σ env, Gd X.K Δ I M H σ env → ∀ v d, Rps X.K I v d → ∀ (Q : L2.St → Hp → Prop) (Qd : Env → Mem → Prop),
  (∀ env' M' I' H' σ', Ext I I' → Gd X.K Δ I' M' H' σ' env' → Qd env' M' → Q σ' H') → dg d env M Qd → g v σ H Q
def PDg (X : Cx) (Δ : DC) (tg : Expr) (g : TG) (dg : DG) : Prop := PG X tg g ∧ SndG X Δ g dg
def PDgs (X : Cx) (Δ : DC) (ts : List Expr) (g : TGs) (dg : DGs) : Prop := PGs X ts g ∧ SndGs X Δ g dg
def gdName (i : Nat) : DG := fun d env M Q => Q (env.set i (some d)) M
theorem snd_name {i : Nat} : SndG X Δ (gName i) (gdName i) := fun I M H σ env G v d r Q Qd k q => k _ _ _ _ _ (Ext.refl I) (G.set r) q
theorem pdg_name {i : Nat} {tg : Expr} (h : PG X tg (gName i)) : PDg X Δ tg (gName i) (gdName i) := ⟨h, snd_name⟩
def gdNil : DGs := fun vs env M Q => vs = [] ∧ Q env M
def gdCons (t : DG) (u : DGs) : DGs := fun vs env M Q => ∃ v r, vs = v :: r ∧ t v env M fun env' M' => u r env' M' Q
theorem pdgs_nil : PDgs X Δ [] gNil gdNil := ⟨pgs_nil, fun I M H σ env G v d r Q Qd k ⟨e, q⟩ => by
  subst e
  exact ⟨r.nil_inv, k _ _ _ _ _ (Ext.refl I) G q⟩⟩
theorem pdgs_cons {e : Expr} {es : List Expr} {t : DG} {u : DGs} (h1 : PDg X Δ e g1 t) (h2 : PDgs X Δ es g2 u)
    (hs : (assignEach (e :: es) X.env).map (·.2) = assign e X.env :: (assignEach es X.env).map (·.2) := by rfl) : PDgs X Δ (e :: es) (gCons g1 g2) (gdCons t u) := by
  obtain ⟨p1, s1⟩ := h1
  obtain ⟨p2, s2⟩ := h2
  refine ⟨pgs_cons p1 p2 hs, fun I M H σ env G vs ds r Q Qd k ⟨d, dr, e, q⟩ => ?_⟩
  subst e
  obtain ⟨v, vr, rfl, rv, rr⟩ := r.cons_inv
  exact ⟨v, vr, rfl, s1 I M H σ env G v d rv _ _ (fun env' M' I' H' σ' x G' q' => s2 I' M' H' σ' env' G' vr dr (rr.ext x) Q Qd (fun e2 M2 I2 H2 σ2 x2 => k e2 M2 I2 H2 σ2 (x.trans x2)) q') q⟩
def gdTup (n : Nat) (t : DGs) : DG := fun d env M Q => ∃ xs, nrm d = .tup xs ∧ xs.length = n ∧ t xs env M Q
theorem pdg_tup {es : List Expr} {k : Nat} {t : DGs} {n : Nat} (hc : X.calm = true) (h : PDgs X Δ es g2 t)
    (hn : (assignEach es X.env).length = n := by rfl) (hst : (assignEach es X.env).findIdx? (·.1) = none := by rfl) : PDg X Δ (.Tuple es k pos) (gTup X.K n g2) (gdTup n t) := by
  obtain ⟨p, s⟩ := h
  refine ⟨pg_tup hc p hn hst, fun I M H σ env G v d r Q Qd k ⟨xs, e, hl, q⟩ => ?_⟩
  have r' := r.nrm
  rw [e] at r'
  obtain ⟨a, vs, rfl, h1, h2⟩ := r'.tup_inv
  exact ⟨a, vs, rfl, G.at_.sqT h1, by rw [h2.length]; exact hl, s I M H σ env G vs xs h2 Q Qd k q⟩
/-- o[i] = .. of a list of the store -/
def gdSub (da db : DE) : DG := fun d env M Q => da env M fun o M1 => db env M1 fun i M2 => ∃ p xs k j, o = .ref p ∧ i = .int k ∧ M2 p = some (.lst xs) ∧ ixN xs.length k = some j ∧ Q env (mset M2 p (.lst (xs.set j d)))
theorem pdg_sub {o i : Expr} (ho : PDe X Δ o to da) (hi : PDe X Δ i ti db) (walk : PE X o to → PE X i ti → PG X (.Subscript o i pos) (gSub to ti rSetL) := by exact fun a b => pg_sub a b set_list) : PDg X Δ (.Subscript o i pos) (gSub to ti rSetL) (gdSub da db) := by
  obtain ⟨po, so⟩ := ho
  obtain ⟨pi, si⟩ := hi
  refine ⟨walk po pi, fun I M H σ env G v d r Q Qd k q => so I M H σ env G _ _ (fun d1 M1 I1 H1 v1 x1 G1 r1 q1 => si I1 M1 H1 σ env G1 _ _ (fun d2 M2 I2 H2 v2 x2 G2 r2 q2 => ?_) q1) q⟩
  obtain ⟨p, xs, z, j, e1, e2, hm, hj, q3⟩ := q2
  subst e1 e2
  have r1' := r1.ext x2
  rw [r2.int_inv, r1'.ref_inv]
  obtain ⟨hI, vs, hv, rs⟩ := G2.at_.mem _ _ hm
  have rd := r.ext (x1.trans x2)
  refine ⟨p, vs, z, j, rfl, rfl, hv, by rw [rs.length]; exact hj, k _ _ _ _ _ (x1.trans x2) (G2.go (Ext.refl I2) (G2.at_.write (m' := .lst (xs.set j d)) hm (fun _ z => by cases z) ⟨_, upd_same, rs.set j rd⟩)) q3⟩
def dAsg (de : DE) (g : DG) : DS := fun T env M => de env M fun d M1 => g d env M1 T.nx
theorem pds_asg {tg e : Expr} {dg : DG} (he : PDe X Δ e te de) (hg : PDg X Δ tg g dg) (hs : swapsWithSole [tg] e pos.line X.env = pure false := by rfl) (hw : swappedStores [tg] e X.env = pure none := by rfl)
    (h1 : (assignEach [tg] X.env).map (·.2) = [assign tg X.env] := by rfl) : PDs X Δ (.Assign [tg] e pos) (tAsg te g) (dAsg de dg) := by
  obtain ⟨pe, se⟩ := he
  obtain ⟨pg, sg⟩ := hg
  exact ⟨ps_asg pe pg hs hw h1, fun I M H σ env G T Td R q => se I M H σ env G _ _ (fun d M1 I1 H1 v x1 G1 r1 q1 => sg I1 M1 H1 σ env G1 v d r1 _ _ (fun env' M' I' H' σ' x G' q' => R.nx _ _ _ _ _ (x1.trans x) G' q') q1) q⟩
def dSet (i : Nat) (de : DE) : DS := fun T env M => de env M fun d M1 => T.nx (env.set i (some d)) M1
theorem pds_set {i : Nat} {x : Str} {e : Expr} {pos' : Pos} (hN : X.N.Nodup) (hi : X.N[i]? = some x) (hx : Loc X.env.scope x) (he : PDe X Δ e te de) (hs : swapsWith e (some (.Name x pos')) pos.line X.env = pure false := by rfl) (hf : X.fn x = true ∨ X.env.scope.names.lookup x = some .local := by first | exact .inl rfl | exact .inr rfl | assumption) :
    PDs X Δ (.Assign [.Name x pos'] e pos) (tAsg te (gName i)) (dSet i de) := by
  obtain ⟨pe, se⟩ := he
  exact ⟨ps_set hN hi hx pe hs hf, fun I M H σ env G T Td R q => se I M H σ env G _ _ (fun d M1 I1 H1 v x1 G1 r1 q1 => R.nx _ _ _ _ _ x1 (G1.set r1) q1) q⟩
def dPar (i j : Nat) (da db : DE) : DS := fun T env M => da env M fun d M1 => db env M1 fun e M2 => T.nx ((env.set i (some d)).set j (some e)) M2
theorem pds_par {i j : Nat} {x y : Str} {a b : Expr} {px py pt : Pos} {kt k2 pt2} (hc : X.calm = true) (hN : X.N.Nodup) (hi : X.N[i]? = some x) (hj : X.N[j]? = some y) (hij : i ≠ j)
    (hx : X.env.scope.names.lookup x = some .local) (hy : X.env.scope.names.lookup y = some .local) (ha : PDe X Δ a ta da) (hb : PDe X Δ b tb db)
    (hw : swappedStores [.Tuple [.Name x px, .Name y py] kt pt] (.Tuple [a, b] k2 pt2) X.env = pure (some [x, y]) := by rfl)
    (hs : swapsWithSole [.Tuple [.Name x px, .Name y py] kt pt] (.Tuple [a, b] k2 pt2) pos.line X.env = pure false := by rfl)
    (he1 : starEach [a, b] X.env = (false, eval a X.env) :: starEach [b] X.env := by rfl) (he2 : starEach [b] X.env = (false, eval b X.env) :: starEach [] X.env := by rfl) :
    PDs X Δ (.Assign [.Tuple [.Name x px, .Name y py] kt pt] (.Tuple [a, b] k2 pt2) pos) (tPar i j (tCons ta (tCons tb tNil))) (dPar i j da db) := by
  obtain ⟨pa, sa⟩ := ha
  obtain ⟨pb, sb⟩ := hb
  refine ⟨ps_par hc hN hi hj hij hx hy (pa_cons pa (pa_cons pb pa_nil he2) he1) hw hs, fun I M H σ env G T Td R q => sa I M H σ env G _ _ (fun d M1 I1 H1 v x1 G1 r1 q1 => sb I1 M1 H1 σ env G1 _ _ (fun e M2 I2 H2 u x2 G2 r2 q2 => ?_) q1) q⟩
  exact ⟨v, u, rfl, R.nx _ _ _ _ _ (x1.trans x2) ((G2.set (r1.ext x2)).set r2) q2⟩

/-! ### loops -/
/-- what is walked: items ds, while keep holds of the store -/
structure ItOk (K : PySem.W.Frag) (I1 : Hp) (J : It) (xs : List D) (keep : Mem → Prop) : Prop where
  go : ∀ F i I M H, Ext I1 I → At K F I M H → keep M → i < xs.length → J.go i H
  stop : ∀ F I M H, Ext I1 I → At K F I M H → keep M → J.stop xs.length H
  yld : ∀ F i d x I M H H', Ext I1 I → At K F I M H → keep M → xs[i]? = some d → J.yld i H x H' → ∃ I', Ext I I' ∧ At K F I' M H' ∧ Rp K I' x d
abbrev DI := Env → Mem → (List D → (Mem → Prop) → Mem → Prop) → Prop
def SndI (X : Cx) (Δ : DC) (wi : TI) (di : DI) : Prop := ∀ I M H σ env, Gd X.K Δ I M H σ env → ∀ (R : It → Hp → Prop) (Rd : List D → (Mem → Prop) → Mem → Prop),
  (∀ xs keep M1 J I1 H1, Ext I I1 → Gd X.K Δ I1 M1 H1 σ env → ItOk X.K I1 J xs keep → Rd xs keep M1 → R J H1) → di env M Rd → wi σ H R
def PDi (X : Cx) (Δ : DC) (tg iter : Expr) (wi : TI) (di : DI) : Prop := PI X tg iter wi ∧ SndI X Δ wi di
def dFor (di : DI) (g : DG) (u : DS) : DS := fun T env M => di env M fun xs keep M1 => ∃ P : Nat → Env → Mem → Prop, P 0 env M1 ∧ (∀ i env M, P i env M → keep M) ∧
  (∀ i d env M, xs[i]? = some d → P i env M → g d env M fun env' M' => u { T with nx := FzS (P (i + 1)), ct := FzS (P (i + 1)), bk := T.nx } env' M') ∧ ∀ env M, P xs.length env M → T.nx env M
theorem pds_for {tg iter : Expr} {body : List Stmt} {di : DI} {dg : DG} {u : DS} (hp : PassesOwn (model X.prog X.w) X.A X.env X.xe) (hc : X.calm = true) (hi : PDi X Δ tg iter wi di) (hg : PDg X Δ tg g dg) (hb : PDss X Δ body ts u)
    (hs : ∀ x, foldedSetIterable iter X.env x = pure x := by intro _; rfl) : PDs X Δ (.For tg iter body [] pos) (tFor wi g ts) (dFor di dg u) := by
  obtain ⟨pi, si⟩ := hi
  obtain ⟨pg, sg⟩ := hg
  obtain ⟨pb, sb⟩ := hb
  refine ⟨ps_for hp hc pi pg pb hs, fun I M H σ env G T Td R q => si I M H σ env G _ _ (fun xs keep M1 J I1 H1 x1 G1 ok q1 => ?_) q⟩
  obtain ⟨P, p0, pk, ps, pd⟩ := q1
  refine ⟨fun i m σ H => m = xs.length - i ∧ i ≤ xs.length ∧ ∃ I M env, Ext I1 I ∧ Gd X.K Δ I M H σ env ∧ P i env M, ⟨xs.length, by simp, Nat.zero_le _, I1, M1, env, Ext.refl _, G1, p0⟩, ?_⟩
  rintro i m σ2 H2 ⟨rfl, hi, I2, M2, env2, x2, G2, p2⟩
  have hk := pk i env2 M2 p2
  by_cases hlt : i < xs.length
  · refine .inr ⟨ok.go Δ.F i I2 M2 H2 x2 G2.at_ hk hlt, fun σ H => ∃ I M env, Ext I1 I ∧ Gd X.K Δ I M H σ env ∧ P (i + 1) env M, fun σ' H' w => ⟨xs.length - (i + 1), by omega, rfl, hlt, w⟩, fun x H' y => ?_⟩
    have hd : xs[i]? = some xs[i] := by simp [hlt]
    obtain ⟨I3, x3, A3, r3⟩ := ok.yld Δ.F i xs[i] x I2 M2 H2 H' x2 G2.at_ hk hd y
    have G3 := G2.go x3 A3
    refine sg I3 M2 H' σ2 env2 G3 x xs[i] r3 _ _ (fun env4 M4 I4 H4 σ4 x4 G4 q4 => ?_) (ps i xs[i] env2 M2 hd p2)
    refine sb I4 M4 H4 σ4 env4 G4 _ { Td with nx := FzS (P (i + 1)), ct := FzS (P (i + 1)), bk := Td.nx } ⟨fun env5 M5 I5 H5 σ5 x5 G5 q5 => ?_, fun env5 M5 I5 H5 σ5 x5 G5 q5 => ?_, fun env5 M5 I5 H5 σ5 x5 G5 q5 => ?_, fun d5 M5 I5 H5 v5 x5 b5 A5 r5 q5 => ?_⟩ q4
    · obtain ⟨I6, M6, env6, x6, G6, q6⟩ := fzs q5 G5
      exact ⟨I6, M6, env6, (((x2.trans x3).trans x4).trans x5).trans x6, G6, q6⟩
    · exact R.nx _ _ _ _ _ ((((x1.trans x2).trans x3).trans x4).trans x5) G5 q5
    · obtain ⟨I6, M6, env6, x6, G6, q6⟩ := fzs q5 G5
      exact ⟨I6, M6, env6, (((x2.trans x3).trans x4).trans x5).trans x6, G6, q6⟩
    · exact R.rt _ _ _ _ _ ((((x1.trans x2).trans x3).trans x4).trans x5) b5 A5 r5 q5
  · have e : i = xs.length := by omega
    subst e
    exact .inl ⟨ok.stop Δ.F I2 M2 H2 x2 G2.at_ hk, R.nx _ _ _ _ _ (x1.trans x2) G2 (pd env2 M2 p2)⟩
def dWhile (t : DT) (u : DS) : DS := fun T env M => ∃ P : Nat → Env → Mem → Prop, (∃ m, P m env M) ∧ ∀ m env M, P m env M → t env M fun b M1 =>
  if b = true then u { T with nx := FzS fun env M => ∃ m', m' < m ∧ P m' env M, ct := FzS fun env M => ∃ m', m' < m ∧ P m' env M, bk := T.nx } env M1 else T.nx env M1
theorem pds_while {body : List Stmt} {u : DS} (hp : PassesOwn (model X.prog X.w) X.A X.env X.xe) (hc : PDt X Δ c t1 dt) (hb : PDss X Δ body ts u) : PDs X Δ (.While c body [] pos) (tWhile t1 ts) (dWhile dt u) := by
  obtain ⟨pc, sc⟩ := hc
  obtain ⟨pb, sb⟩ := hb
  refine ⟨ps_while hp pc pb, fun I M H σ env G T Td R q => ?_⟩
  obtain ⟨P, ⟨m0, p0⟩, step⟩ := q
  refine ⟨fun m σ H => ∃ I' M env, Ext I I' ∧ Gd X.K Δ I' M H σ env ∧ P m env M, ⟨m0, I, M, env, Ext.refl _, G, p0⟩, ?_⟩
  rintro m σ2 H2 ⟨I2, M2, env2, x2, G2, p2⟩
  refine sc I2 M2 H2 σ2 env2 G2 _ _ (fun b M3 I3 H3 x3 G3 q3 => ?_) (step m env2 M2 p2)
  cases b with
  | true =>
    rw [if_pos rfl] at q3 ⊢
    refine ⟨fun σ H => ∃ m', m' < m ∧ ∃ I' M env, Ext I I' ∧ Gd X.K Δ I' M H σ env ∧ P m' env M, fun σ' H' w => w, ?_⟩
    refine sb I3 M3 H3 σ2 env2 G3 _ { Td with nx := FzS fun env M => ∃ m', m' < m ∧ P m' env M, ct := FzS fun env M => ∃ m', m' < m ∧ P m' env M, bk := Td.nx } ⟨fun env5 M5 I5 H5 σ5 x5 G5 q5 => ?_, fun env5 M5 I5 H5 σ5 x5 G5 q5 => ?_, fun env5 M5 I5 H5 σ5 x5 G5 q5 => ?_, fun d5 M5 I5 H5 v5 x5 b5 A5 r5 q5 => ?_⟩ q3
    · obtain ⟨I6, M6, env6, x6, G6, m', hm, w⟩ := fzs q5 G5
      exact ⟨m', hm, I6, M6, env6, ((x2.trans x3).trans x5).trans x6, G6, w⟩
    · exact R.nx _ _ _ _ _ ((x2.trans x3).trans x5) G5 q5
    · obtain ⟨I6, M6, env6, x6, G6, m', hm, w⟩ := fzs q5 G5
      exact ⟨m', hm, I6, M6, env6, ((x2.trans x3).trans x5).trans x6, G6, w⟩
    · exact R.rt _ _ _ _ _ ((x2.trans x3).trans x5) b5 A5 r5 q5
  | false =>
    rw [if_neg Bool.false_ne_true] at q3 ⊢
    exact R.nx _ _ _ _ _ (x2.trans x3) G3 q3

/-! ### what is walked -/
/-- a list, a tuple or a text, whichever it is -/
def iSeq (K : PySem.W.Frag) (tl : TE) : TI := fun σ H R => tl σ H fun x H1 => (∃ a, x = .ref a ∧ (∃ xs, SqL K H1 a xs) ∧ R (Itl K a) H1) ∨ (∃ a, x = .ref a ∧ (∃ xs, SqT K H1 a xs) ∧ R (Itt K a) H1) ∨ ∃ z, x = .str z ∧ R (Its z) H1
theorem pi_seq {tg l : Expr} {tl : TE} (hl : PE X l tl) : PI X tg l (iSeq X.K tl) :=
  ⟨fun pins s σ H R I w => thn (hl.run pins s σ H _ I w) fun
    | _, s1, ⟨_, H1, I1, same, .inl ⟨a, isRef, ⟨_, hq⟩, q⟩⟩ => by
      cases isRef; cases same
      have ⟨_, _, at1, _⟩ := I1.list hq
      exact wpAny_pyIter_list at1.isList (pi_one (tk := s1.toks) I1 _ (turn_list a _) ⟨_, Heap.get?_push_size _ rfl, rfl, rfl⟩ q)
    | _, s1, ⟨_, H1, I1, same, .inr (.inl ⟨a, isRef, ⟨_, hq⟩, q⟩)⟩ => by
      cases isRef; cases same
      have ⟨its, _, at1, _⟩ := I1.tuple hq
      exact wpAny_pyIter_tuple (items := its.toArray) at1 (pi_one (tk := s1.toks) I1 _ (turn_tuple a _) ⟨_, Heap.get?_push_size _ rfl, rfl, rfl⟩ q)
    | _, s1, ⟨_, H1, I1, same, .inr (.inr ⟨y, isTxt, q⟩)⟩ => by
      cases isTxt
      obtain ⟨t, rfl⟩ := same
      by_cases narrow : y.cps.all (· < 128) = true
      · exact wpAny_pyIter_ascii narrow (pi_one (tk := s1.toks) I1 _ (turn_str _ y t "str_ascii_iterator" (.inl rfl)) ⟨_, Heap.get?_push_size _ rfl, rfl, rfl⟩ q)
      · exact wpAny_pyIter_wide (Bool.eq_false_iff.mpr narrow) (pi_one (tk := s1.toks) I1 _ (turn_str _ y t "str_iterator" (.inr rfl)) ⟨_, Heap.get?_push_size _ rfl, rfl, rfl⟩ q)⟩
def signs (z : Str) : List D := z.cps.toList.map fun c => .str ⟨#[c]⟩
def dSeqI (de : DE) : DI := fun env M R => de env M fun d M1 => match d with
  | .tup xs => R xs (fun _ => True) M1
  | .lst xs => R xs (fun _ => True) M1
  | .frz xs => R xs (fun _ => True) M1
  | .str z => R (signs z) (fun _ => True) M1
  | .ref p => ∃ xs, M1 p = some (.lst xs) ∧ R xs (fun M => M p = some (.lst xs)) M1
  | _ => False
theorem pdi_seq {tg : Expr} (he : PDe X Δ e te de) : PDi X Δ tg e (iSeq X.K te) (dSeqI de) := by
  obtain ⟨pe, se⟩ := he
  refine ⟨pi_seq pe, fun I M H σ env G R Rd k q => se I M H σ env G _ _ (fun d M1 I1 H1 v x1 G1 r1 q1 => ?_) q⟩
  cases d with
  | tup xs =>
    obtain ⟨a, vs, rfl, h1, h2⟩ := r1.tup_inv
    refine .inr (.inl ⟨a, rfl, ⟨vs, G1.at_.sqT h1⟩, k xs _ M1 _ I1 H1 x1 G1 ⟨fun F i I M H x A _ hi => ?_, fun F I M H x A _ => ?_, fun F i d x' I M H H' x A _ hd y => ?_⟩ q1⟩)
    · exact ⟨vs, vs[i]'(by rw [h2.length]; exact hi), A.sqT (x.sqT h1), by simp [h2.length, hi]⟩
    · exact ⟨vs, A.sqT (x.sqT h1), Nat.le_of_eq h2.length⟩
    · obtain ⟨e, y⟩ := y
      subst e
      have := y vs (A.sqT (x.sqT h1))
      obtain ⟨d', hd', rd⟩ := (h2.ext x).get' this
      rw [hd] at hd'; cases hd'
      exact ⟨I, Ext.refl I, A, rd⟩
  | lst xs =>
    obtain ⟨a, vs, rfl, h1, h2⟩ := r1.lst_inv
    refine .inl ⟨a, rfl, ⟨vs, .inl (.inl (G1.at_.ex _ _ h1))⟩, k xs _ M1 _ I1 H1 x1 G1 ⟨fun F i I M H x A _ hi => ?_, fun F I M H x A _ => ?_, fun F i d x' I M H H' x A _ hd y => ?_⟩ q1⟩
    · exact ⟨vs, vs[i]'(by rw [h2.length]; exact hi), .inl (.inl (A.ex _ _ (x.lst h1))), by simp [h2.length, hi]⟩
    · exact ⟨vs, .inl (.inl (A.ex _ _ (x.lst h1))), Nat.le_of_eq h2.length⟩
    · obtain ⟨e, y⟩ := y
      subst e
      have := y vs (.inl (.inl (A.ex _ _ (x.lst h1))))
      obtain ⟨d', hd', rd⟩ := (h2.ext x).get' this
      rw [hd] at hd'; cases hd'
      exact ⟨I, Ext.refl I, A, rd⟩
  | frz xs =>
    obtain ⟨a, vs, rfl, h1, h2⟩ := r1.frz_inv
    refine .inl ⟨a, rfl, ⟨vs, G1.at_.sqL h1⟩, k xs _ M1 _ I1 H1 x1 G1 ⟨fun F i I M H x A _ hi => ?_, fun F I M H x A _ => ?_, fun F i d x' I M H H' x A _ hd y => ?_⟩ q1⟩
    · exact ⟨vs, vs[i]'(by rw [h2.length]; exact hi), A.sqL (x.sqL h1), by simp [h2.length, hi]⟩
    · exact ⟨vs, A.sqL (x.sqL h1), Nat.le_of_eq h2.length⟩
    · obtain ⟨e, y⟩ := y
      subst e
      have := y vs (A.sqL (x.sqL h1))
      obtain ⟨d', hd', rd⟩ := (h2.ext x).get' this
      rw [hd] at hd'; cases hd'
      exact ⟨I, Ext.refl I, A, rd⟩
  | str z =>
    rw [r1.str_inv]
    refine .inr (.inr ⟨z, rfl, k (signs z) _ M1 _ I1 H1 x1 G1 ⟨fun F i I M H x A _ hi => ?_, fun F I M H x A _ => ?_, fun F i d x' I M H H' x A _ hd y => ?_⟩ q1⟩)
    · show i < z.cps.size
      simpa [signs] using hi
    · show z.cps.size ≤ (signs z).length
      simp [signs]
    · obtain ⟨e, c, hc, rfl⟩ := y
      subst e
      have : d = .str ⟨#[c]⟩ := by
        simp only [signs, List.getElem?_map] at hd
        rw [show z.cps.toList[i]? = some c by simpa using hc] at hd
        simpa using hd.symm
      subst this
      exact ⟨I, Ext.refl I, A, .str _⟩
  | ref p =>
    obtain ⟨xs, hm, q1⟩ := q1
    rw [r1.ref_inv]
    obtain ⟨_, vs0, h0, _⟩ := G1.at_.mem _ _ hm
    refine .inl ⟨p, rfl, ⟨vs0, .inl (.inl h0)⟩, k xs _ M1 _ I1 H1 x1 G1 ⟨fun F i I M H x A hk hi => ?_, fun F I M H x A hk => ?_, fun F i d x' I M H H' x A hk hd y => ?_⟩ q1⟩
    · obtain ⟨_, vs, h1, h2⟩ := A.mem _ _ hk
      exact ⟨vs, vs[i]'(by rw [h2.length]; exact hi), .inl (.inl h1), by simp [h2.length, hi]⟩
    · obtain ⟨_, vs, h1, h2⟩ := A.mem _ _ hk
      exact ⟨vs, .inl (.inl h1), Nat.le_of_eq h2.length⟩
    · obtain ⟨e, y⟩ := y
      subst e
      obtain ⟨_, vs, h1, h2⟩ := A.mem _ _ hk
      have := y vs (.inl (.inl h1))
      obtain ⟨d', hd', rd⟩ := h2.get' this
      rw [hd] at hd'; cases hd'
      exact ⟨I, Ext.refl I, A, rd⟩
  | _ => exact q1.elim
/-- range(n), range(a, b) -/
def rngD (lo : Int) (n : Nat) : List D := (List.range n).map fun i => .int (lo + (i : Nat))
theorem itr_ok {K : PySem.W.Frag} {I1 : Hp} {lo : Int} {n : Nat} : ItOk K I1 (Itr lo n) (rngD lo n) (fun _ => True) := by
  refine ⟨fun F i I M H x A _ hi => ?_, fun F I M H x A _ => ?_, fun F i d x' I M H H' x A _ hd y => ?_⟩
  · show i < n
    simpa [rngD] using hi
  · show n ≤ (rngD lo n).length
    simp [rngD]
  · obtain ⟨e, rfl⟩ := y
    subst e
    have hlt : i < n := by
      have := (List.getElem?_eq_some_iff.mp hd).1
      simpa [rngD] using this
    have : d = .int (lo + (i : Nat)) := by
      simp only [rngD, List.getElem?_map, List.getElem?_range hlt] at hd
      simpa using hd.symm
    subst this
    exact ⟨I, Ext.refl I, A, .int _⟩
def dRng1 (dl : DA) : DI := fun env M R => dl env M fun ds M1 => ∃ j : Int, ds = [.int j] ∧ -(2 ^ 62) ≤ j ∧ j < 2 ^ 62 ∧ R (rngD 0 j.toNat) (fun _ => True) M1
def dRng2 (dl : DA) : DI := fun env M R => dl env M fun ds M1 => ∃ i j : Int, ds = [.int i, .int j] ∧ (-(2 ^ 62) ≤ i ∧ i < 2 ^ 62 ∧ -(2 ^ 62) ≤ j ∧ j < 2 ^ 62) ∧ R (rngD i (j - i).toNat) (fun _ => True) M1
theorem pdi_rng1 {tg a : Expr} {dl : DA} {p pos : Pos} (hg : Gl X "range") (hm : X.mg "range" = none) (ha : PDa X Δ [a] tl dl) (hs : starEach [a] X.env = [(false, eval a X.env)] := by rfl) : PDi X Δ tg (.Call (.Name "range" p) [a] [] pos) (iRng1 tl) (dRng1 dl) := by
  obtain ⟨pa, s⟩ := ha
  refine ⟨pi_range1 hg hm pa hs, fun I M H σ env G R Rd k q => s I M H σ env G _ _ (fun ds M1 I1 H1 vs x1 G1 r1 ⟨j, e, h1, h2, q1⟩ => ?_) q⟩
  subst e
  obtain ⟨v, rfl, rv⟩ := r1.one_inv
  rw [rv.int_inv]
  exact ⟨j, rfl, h1, h2, k _ _ M1 _ I1 H1 x1 G1 itr_ok q1⟩
theorem pdi_rng2 {tg a b : Expr} {dl : DA} {p pos : Pos} (hg : Gl X "range") (hm : X.mg "range" = none) (ha : PDa X Δ [a, b] tl dl) (hs : starEach [a, b] X.env = [(false, eval a X.env), (false, eval b X.env)] := by rfl) (hs2 : starEach [b] X.env = [(false, eval b X.env)] := by rfl) :
    PDi X Δ tg (.Call (.Name "range" p) [a, b] [] pos) (iRng2 tl) (dRng2 dl) := by
  obtain ⟨pa, s⟩ := ha
  refine ⟨pi_range2 hg hm pa hs hs2, fun I M H σ env G R Rd k q => s I M H σ env G _ _ (fun ds M1 I1 H1 vs x1 G1 r1 ⟨i, j, e, h1, q1⟩ => ?_) q⟩
  subst e
  obtain ⟨v, u, rfl, rv, ru⟩ := r1.two_inv
  rw [rv.int_inv, ru.int_inv]
  exact ⟨i, j, rfl, h1, k _ _ M1 _ I1 H1 x1 G1 itr_ok q1⟩
end
end BB

set_option maxHeartbeats 2000000
namespace BB
open L2 PySem PySem.Spec PyProof.Rows

/-! ### the store's lists and the fixed ones as sequences -/
def lstOf (M : Mem) : D → Option (List D)
  | .lst xs => some xs
  | .ref p => match M p with | some (.lst xs) => some xs | _ => none
  | _ => none
def seqOf (M : Mem) : D → Option (List D)
  | .tup xs => some xs
  | .frz xs => some xs
  | .lst xs => some xs
  | .ref p => match M p with | some (.lst xs) => some xs | _ => none
  | _ => none
theorem lstOf_ref {M : Mem} {p : Addr} {xs : List D} (h : M p = some (.lst xs)) : lstOf M (.ref p) = some xs := by simp [lstOf, h]
theorem seqOf_ref {M : Mem} {p : Addr} {xs : List D} (h : M p = some (.lst xs)) : seqOf M (.ref p) = some xs := by simp [seqOf, h]
section
variable {K : PySem.W.Frag} {F I H : Hp} {M : Mem} {v : V} {d : D} {xs : List D}
theorem lst_of (A : At K F I M H) (r : Rp K I v d) (h : lstOf M d = some xs) : ∃ a vs, v = .ref a ∧ H a = some (.lst vs) ∧ Rps K I vs xs := by
  cases d with
  | lst ys => cases h; obtain ⟨a, vs, rfl, h1, h2⟩ := r.lst_inv; exact ⟨a, vs, rfl, A.ex _ _ h1, h2⟩
  | ref p =>
    have h' : (match M p with | some (.lst xs) => some xs | _ => none) = some xs := h
    split at h'
    · rename_i ys e
      cases h'
      obtain ⟨_, vs, h1, h2⟩ := A.mem _ _ e
      exact ⟨p, vs, r.ref_inv, h1, h2⟩
    · cases h'
  | _ => cases h
theorem seq_of (A : At K F I M H) (r : Rp K I v d) (h : seqOf M d = some xs) : ∃ a vs, v = .ref a ∧ (SqL K H a vs ∨ SqT K H a vs) ∧ Rps K I vs xs := by
  cases d with
  | tup ys => cases h; obtain ⟨a, vs, rfl, h1, h2⟩ := r.tup_inv; exact ⟨a, vs, rfl, .inr (A.sqT h1), h2⟩
  | frz ys => cases h; obtain ⟨a, vs, rfl, h1, h2⟩ := r.frz_inv; exact ⟨a, vs, rfl, .inl (A.sqL h1), h2⟩
  | lst ys => cases h; obtain ⟨a, vs, rfl, h1, h2⟩ := r.lst_inv; exact ⟨a, vs, rfl, .inl (.inl (.inl (A.ex _ _ h1))), h2⟩
  | ref p =>
    have h' : (match M p with | some (.lst xs) => some xs | _ => none) = some xs := h
    split at h'
    · rename_i ys e
      cases h'
      obtain ⟨_, vs, h1, h2⟩ := A.mem _ _ e
      exact ⟨p, vs, r.ref_inv, .inl (.inl (.inl h1)), h2⟩
    · cases h'
  | _ => cases h
end

/-! ### a + b -/
def addD (M : Mem) : D → D → Option D
  | .int i, .int j => some (.int (i + j))
  | .str a, .str b => if a.length + b.length ≤ sizeLine then some (.str (a ++ b)) else none
  | .tup a, .tup b => if a.length + b.length ≤ sizeLine then some (.tup (a ++ b)) else none
  | x, y => match lstOf M x, lstOf M y with
    | some a, some b => if a.length + b.length ≤ sizeLine then some (.lst (a ++ b)) else none
    | _, _ => none
theorem addD_str {M : Mem} {a b : Str} (h : a.length + b.length ≤ sizeLine) : addD M (.str a) (.str b) = some (.str (a ++ b)) := if_pos h
theorem addD_tup {M : Mem} {a b : List D} (h : a.length + b.length ≤ sizeLine) : addD M (.tup a) (.tup b) = some (.tup (a ++ b)) := if_pos h
theorem addD_lst {M : Mem} {a b : List D} (h : a.length + b.length ≤ sizeLine) : addD M (.lst a) (.lst b) = some (.lst (a ++ b)) := if_pos h
/-- a pure operation -/
def rdO (f : Mem → D → D → Option D) : RD2 := fun x y M Q => ∃ d, f M x y = some d ∧ Q d M
abbrev rAddA (K : PySem.W.Frag) : R2 := fun x y H Q => (∃ i j, x = .int i ∧ y = .int j ∧ Q (.int (i + j)) H) ∨ (∃ i j, x = .str i ∧ y = .str j ∧ i.length + j.length ≤ sizeLine ∧ Q (.str (i ++ j)) H) ∨ rCatA K x y H Q ∨ rCat x y H Q
section
variable {X : Cx}
theorem op_addA : OpR X (binaryOp .Add) (rAddA X.K) := OpR.or op_add (OpR.or op_add_str (OpR.or op_catA op_cat))
theorem snd_add : SndR X (rAddA X.K) (rdO addD) := by
  intro Δ I M H σ env G x y dx dy rx ry Q Qd k ⟨d, e, q⟩
  have lists : ∀ {a b : List D}, lstOf M dx = some a → lstOf M dy = some b → (if a.length + b.length ≤ sizeLine then some (D.lst (a ++ b)) else none) = some d → rAddA X.K x y H Q := fun {a b} ha hb hd => by
    by_cases hz : a.length + b.length ≤ sizeLine
    · rw [if_pos hz] at hd
      cases hd
      obtain ⟨p1, v1, rfl, h1, r1⟩ := lst_of G.at_ rx ha
      obtain ⟨p2, v2, rfl, h2, r2⟩ := lst_of G.at_ ry hb
      refine .inr (.inr (.inr ⟨p1, p2, v1, v2, rfl, rfl, h1, h2, by rw [r1.length, r2.length]; exact hz, fun p hp => ?_⟩))
      obtain ⟨x2, G2⟩ := G.newI hp (.lst (v1 ++ v2))
      exact k _ _ _ _ _ x2 G2 (.lst upd_same ((r1.append r2).ext x2)) q
    · rw [if_neg hz] at hd; cases hd
  unfold addD at e
  split at e
  · cases e
    rw [rx.int_inv, ry.int_inv]
    exact .inl ⟨_, _, rfl, rfl, k _ _ _ _ _ (Ext.refl I) G (.int _) q⟩
  · rename_i a b
    by_cases hz : a.length + b.length ≤ sizeLine
    · rw [if_pos hz] at e
      cases e
      rw [rx.str_inv, ry.str_inv]
      exact .inr (.inl ⟨_, _, rfl, rfl, hz, k _ _ _ _ _ (Ext.refl I) G (.str _) q⟩)
    · rw [if_neg hz] at e; cases e
  · rename_i a b
    by_cases hz : a.length + b.length ≤ sizeLine
    · rw [if_pos hz] at e
      cases e
      obtain ⟨p1, v1, rfl, h1, r1⟩ := rx.tup_inv
      obtain ⟨p2, v2, rfl, h2, r2⟩ := ry.tup_inv
      refine .inr (.inr (.inl ⟨p1, p2, v1, v2, rfl, rfl, G.at_.sqT h1, G.at_.sqT h2, by rw [r1.length, r2.length]; exact hz, fun hx => ?_, fun hx hy => ?_, fun hx hy p hp => ?_⟩))
      · subst hx
        cases r1
        exact k _ _ _ _ _ (Ext.refl I) G (.tup h2 r2) q
      · subst hy
        cases r2
        exact k _ _ _ _ _ (Ext.refl I) G (.tup h1 (by rw [List.append_nil]; exact r1)) q
      · obtain ⟨x2, G2⟩ := G.newI hp (.tup (v1 ++ v2))
        exact k _ _ _ _ _ x2 G2 (.tup (.inl (.inl upd_same)) ((r1.append r2).ext x2)) q
    · rw [if_neg hz] at e; cases e
  · split at e
    · rename_i ha hb
      exact lists ha hb e
    · cases e

/-! ### ints: -, *, //, % -/
def subD (M : Mem) : D → D → Option D
  | .int i, .int j => some (.int (i - j))
  | _, _ => none
theorem snd_sub : SndR X (rI0 fun i j => .int (i - j)) (rdO subD) := by
  intro Δ I M H σ env G x y dx dy rx ry Q Qd k ⟨d, e, q⟩
  unfold subD at e
  split at e
  · cases e; rw [rx.int_inv, ry.int_inv]; exact ⟨_, _, rfl, rfl, k _ _ _ _ _ (Ext.refl I) G (.int _) q⟩
  · cases e
/-- remainders and quotients by a positive number -/
def modD (M : Mem) : D → D → Option D
  | .int i, .int j => if 0 < j then some (.int (i % j)) else none
  | _, _ => none
def divD (M : Mem) : D → D → Option D
  | .int i, .int j => if 0 < j ∧ j < 1073741824 then some (.int (i / j)) else none
  | _, _ => none
theorem modD_int {M : Mem} {i j : Int} (h : 0 < j) : modD M (.int i) (.int j) = some (.int (i % j)) := if_pos h
theorem divD_int {M : Mem} {i j : Int} (h : 0 < j ∧ j < 1073741824) : divD M (.int i) (.int j) = some (.int (i / j)) := if_pos h
theorem snd_mod : SndR X (rI (fun _ j => 0 < j) fun i j => .int (i % j)) (rdO modD) := by
  intro Δ I M H σ env G x y dx dy rx ry Q Qd k ⟨d, e, q⟩
  unfold modD at e
  split at e
  · rename_i i j
    by_cases h : 0 < j
    · rw [if_pos h] at e
      cases e; rw [rx.int_inv, ry.int_inv]; exact ⟨_, _, rfl, rfl, h, k _ _ _ _ _ (Ext.refl I) G (.int _) q⟩
    · rw [if_neg h] at e; cases e
  · cases e
theorem snd_div : SndR X (rI CDiv fun i j => .int (i / j)) (rdO divD) := by
  intro Δ I M H σ env G x y dx dy rx ry Q Qd k ⟨d, e, q⟩
  unfold divD at e
  split at e
  · rename_i i j
    by_cases h : 0 < j ∧ j < 1073741824
    · rw [if_pos h] at e
      cases e; rw [rx.int_inv, ry.int_inv]; exact ⟨_, _, rfl, rfl, h, k _ _ _ _ _ (Ext.refl I) G (.int _) q⟩
    · rw [if_neg h] at e; cases e
  · cases e
/-- ints of which one is small; a fixed list n times -/
def mulD (M : Mem) : D → D → Option D
  | .int i, .int j => if (-(2 ^ 64) < i ∧ i < 2 ^ 64) ∨ (-(2 ^ 64) < j ∧ j < 2 ^ 64) then some (.int (i * j)) else none
  | .lst xs, .int k => if -(2 ^ 63) ≤ k ∧ k < 2 ^ 63 ∧ xs.length * k.toNat ≤ sizeLine then some (.lst (List.replicate k.toNat xs).flatten) else none
  | _, _ => none
theorem mulD_lst {M : Mem} {xs : List D} {k : Int} (h : -(2 ^ 63) ≤ k ∧ k < 2 ^ 63 ∧ xs.length * k.toNat ≤ sizeLine) : mulD M (.lst xs) (.int k) = some (.lst (List.replicate k.toNat xs).flatten) := if_pos h
theorem Rps.rep {K : PySem.W.Frag} {I : Hp} {vs : List V} {ds : List D} (r : Rps K I vs ds) : ∀ n : Nat, Rps K I (List.replicate n vs).flatten (List.replicate n ds).flatten
  | 0 => .nil
  | n + 1 => by
    rw [List.replicate_succ, List.flatten_cons, List.replicate_succ, List.flatten_cons]
    exact r.append (Rps.rep r n)
abbrev rMulA : R2 := fun x y H Q => (rI CMul fun i j => .int (i * j)) x y H Q ∨ rRep x y H Q
theorem op_mulA : OpR X (binaryOp .Mult) rMulA := OpR.or op_mul op_rep
theorem snd_mul : SndR X rMulA (rdO mulD) := by
  intro Δ I M H σ env G x y dx dy rx ry Q Qd k ⟨d, e, q⟩
  unfold mulD at e
  split at e
  · rename_i i j
    by_cases h : (-(2 ^ 64) < i ∧ i < 2 ^ 64) ∨ (-(2 ^ 64) < j ∧ j < 2 ^ 64)
    · rw [if_pos h] at e
      cases e; rw [rx.int_inv, ry.int_inv]; exact .inl ⟨_, _, rfl, rfl, h, k _ _ _ _ _ (Ext.refl I) G (.int _) q⟩
    · rw [if_neg h] at e; cases e
  · rename_i xs z
    by_cases h : -(2 ^ 63) ≤ z ∧ z < 2 ^ 63 ∧ xs.length * z.toNat ≤ sizeLine
    · rw [if_pos h] at e
      cases e
      obtain ⟨a, vs, rfl, h1, r1⟩ := rx.lst_inv
      rw [ry.int_inv]
      refine .inr ⟨a, z, vs, rfl, rfl, G.at_.ex _ _ h1, h.1, h.2.1, by rw [r1.length]; exact h.2.2, fun p hp => ?_⟩
      obtain ⟨x2, G2⟩ := G.newI hp (.lst (List.replicate z.toNat vs).flatten)
      exact k _ _ _ _ _ x2 G2 (.lst upd_same ((r1.rep z.toNat).ext x2)) q
    · rw [if_neg h] at e; cases e
  · cases e

/-! ### comparisons -/
mutual
/-- data that == tells apart -/
def toPy : D → Option PyData
  | .non => some .none
  | .bl b => some (.bool b)
  | .int i => some (.int i)
  | .str x => some (.str x)
  | .tup xs => (toPys xs).map .tuple
  | .lst xs => (toPys xs).map .list
  | .ntup xs => (toPys xs).map .tuple
  | .htup xs => (toPys xs).map .tuple
  | .frz xs => (toPys xs).map .list
  | _ => none
def toPys : List D → Option (List PyData)
  | [] => some []
  | d :: ds => match toPy d, toPys ds with
    | some p, some ps => some (p :: ps)
    | _, _ => none
end
mutual
theorem dp_of {K : PySem.W.Frag} {F I H : Hp} {M : Mem} (A : At K F I M H) : ∀ (d : D) {v : V} {p : PyData}, Rp K I v d → toPy d = some p → Dp K H v p
  | .non, _, _, r, h => by rw [toPy] at h; cases h; rw [r.non_inv]; exact .non
  | .bl b, _, _, r, h => by rw [toPy] at h; cases h; rw [r.bl_inv]; exact .bl b
  | .int i, _, _, r, h => by rw [toPy] at h; cases h; rw [r.int_inv]; exact .int i
  | .str x, _, _, r, h => by rw [toPy] at h; cases h; rw [r.str_inv]; exact .str x
  | .tup xs, v, p, r, h => by
    obtain ⟨a, vs, rfl, h1, r1⟩ := r.tup_inv
    rw [toPy] at h
    cases e : toPys xs with
    | none => rw [e] at h; exact nomatch h
    | some ps => rw [e] at h; cases h; exact .tup (A.sqT h1) (dps_of A xs r1 e)
  | .lst xs, v, p, r, h => by
    obtain ⟨a, vs, rfl, h1, r1⟩ := r.lst_inv
    rw [toPy] at h
    cases e : toPys xs with
    | none => rw [e] at h; exact nomatch h
    | some ps => rw [e] at h; cases h; exact .lst (.inl (.inl (A.ex _ _ h1))) (dps_of A xs r1 e)
  | .frz xs, v, p, r, h => by
    obtain ⟨a, vs, rfl, h1, r1⟩ := r.frz_inv
    rw [toPy] at h
    cases e : toPys xs with
    | none => rw [e] at h; exact nomatch h
    | some ps => rw [e] at h; cases h; exact .lst (A.sqL h1) (dps_of A xs r1 e)
  | .htup xs, v, p, r, h => by
    obtain ⟨a, vs, rfl, h1, r1⟩ := r.htup_inv
    rw [toPy] at h
    cases e : toPys xs with
    | none => rw [e] at h; exact nomatch h
    | some ps => rw [e] at h; cases h; exact .tup (A.sqT (.inl (.inl h1))) (dps_of A xs r1 e)
  | .ntup xs, v, p, r, h => by
    obtain ⟨a, ob, vs, rfl, h1, _, _, r1⟩ := r.ntup_inv
    rw [toPy] at h
    cases e : toPys xs with
    | none => rw [e] at h; exact nomatch h
    | some ps => rw [e] at h; cases h; exact .tup (A.sqT (.inl (.inr ⟨ob, h1⟩))) (dps_of A xs r1 e)
  | .dK _, _, _, _, h => by rw [toPy] at h <;> first | cases h | (intros; intro z; cases z)
  | .dT _, _, _, _, h => by rw [toPy] at h <;> first | cases h | (intros; intro z; cases z)
  | .ins _ _, _, _, _, h => by rw [toPy] at h <;> first | cases h | (intros; intro z; cases z)
  | .ref _, _, _, _, h => by rw [toPy] at h <;> first | cases h | (intros; intro z; cases z)
  | .ty _, _, _, _, h => by rw [toPy] at h <;> first | cases h | (intros; intro z; cases z)
  | .exc _ _, _, _, _, h => by rw [toPy] at h <;> first | cases h | (intros; intro z; cases z)
theorem dps_of {K : PySem.W.Frag} {F I H : Hp} {M : Mem} (A : At K F I M H) : ∀ (ds : List D) {vs : List V} {ps : List PyData}, Rps K I vs ds → toPys ds = some ps → DpAll K H vs ps
  | [], _, _, r, h => by rw [toPys] at h; cases h; rw [r.nil_inv]; exact .nil
  | d :: ds, _, _, r, h => by
    obtain ⟨v, vs, rfl, rv, rr⟩ := r.cons_inv
    rw [toPys] at h
    cases e1 : toPy d with
    | none => rw [e1] at h; cases h
    | some p =>
      cases e2 : toPys ds with
      | none => rw [e1, e2] at h; cases h
      | some ps => rw [e1, e2] at h; cases h; exact .cons (dp_of A d rv e1) (dps_of A ds rr e2)
end
/-- a value, or a list of the store, as data -/
def pyOf (M : Mem) : D → Option PyData
  | .ref p => match M p with | some (.lst xs) => (toPys xs).map .list | _ => none
  | d => toPy d
theorem pyOf_dp {K : PySem.W.Frag} {F I H : Hp} {M : Mem} (A : At K F I M H) {v : V} {d : D} {p : PyData} (r : Rp K I v d) (h : pyOf M d = some p) : Dp K H v p := by
  unfold pyOf at h
  split at h
  · rename_i a
    split at h
    · rename_i xs e
      cases e2 : toPys xs with
      | none => rw [e2] at h; cases h
      | some ps =>
        rw [e2] at h
        cases h
        obtain ⟨_, vs, h1, h2⟩ := A.mem _ _ e
        rw [r.ref_inv]
        exact .lst (.inl (.inl h1)) (dps_of A xs h2 e2)
    · cases h
  · exact dp_of A d r h
def rdEq : RD2 := fun x y M Q => ∃ p q, pyOf M x = some p ∧ pyOf M y = some q ∧ SeqAt.shaped p = true ∧ SeqAt.shaped q = true ∧ Q (.bl (PyData.eqv p q)) M
def rdNe : RD2 := fun x y M Q => ∃ p q, pyOf M x = some p ∧ pyOf M y = some q ∧ SeqAt.shaped p = true ∧ SeqAt.shaped q = true ∧ Q (.bl (!PyData.eqv p q)) M
theorem snd_eq : SndR X (rEqD X.K) rdEq := by
  intro Δ I M H σ env G x y dx dy rx ry Q Qd k ⟨p, q, h1, h2, s1, s2, h⟩
  exact ⟨p, q, pyOf_dp G.at_ rx h1, pyOf_dp G.at_ ry h2, s1, s2, k _ _ _ _ _ (Ext.refl I) G (.bl _) h⟩
theorem snd_ne : SndR X (rNeD X.K) rdNe := by
  intro Δ I M H σ env G x y dx dy rx ry Q Qd k ⟨p, q, h1, h2, s1, s2, h⟩
  exact ⟨p, q, pyOf_dp G.at_ rx h1, pyOf_dp G.at_ ry h2, s1, s2, k _ _ _ _ _ (Ext.refl I) G (.bl _) h⟩
/-- an order of ints, of texts -/
def cmpD (pi : Int → Int → Bool) (ps : Str → Str → Bool) (M : Mem) : D → D → Option D
  | .int i, .int j => some (.bl (pi i j))
  | .str i, .str j => some (.bl (ps i j))
  | _, _ => none
def ltS (a b : Str) : Bool := decide (a.cps.toList < b.cps.toList)
abbrev rLtA : R2 := fun x y H Q => (rI0 fun i j => .bl (decide (i < j))) x y H Q ∨ ∃ i j, x = .str i ∧ y = .str j ∧ Q (.bl (decide (i.cps.toList < j.cps.toList))) H
theorem op_ltA : OpR X (compareOp .Lt) rLtA := OpR.or op_lt op_lt_str
theorem snd_lt : SndR X rLtA (rdO (cmpD (fun i j => decide (i < j)) ltS)) := by
  intro Δ I M H σ env G x y dx dy rx ry Q Qd k ⟨d, e, q⟩
  unfold cmpD at e
  split at e
  · cases e; rw [rx.int_inv, ry.int_inv]; exact .inl ⟨_, _, rfl, rfl, k _ _ _ _ _ (Ext.refl I) G (.bl _) q⟩
  · cases e; rw [rx.str_inv, ry.str_inv]; exact .inr ⟨_, _, rfl, rfl, k _ _ _ _ _ (Ext.refl I) G (.bl _) q⟩
  · cases e
def intD (p : Int → Int → Bool) (M : Mem) : D → D → Option D
  | .int i, .int j => some (.bl (p i j))
  | _, _ => none
theorem snd_int {p : Int → Int → Bool} : SndR X (rI0 fun i j => .bl (p i j)) (rdO (intD p)) := by
  intro Δ I M H σ env G x y dx dy rx ry Q Qd k ⟨d, e, q⟩
  unfold intD at e
  split at e
  · cases e; rw [rx.int_inv, ry.int_inv]; exact ⟨_, _, rfl, rfl, k _ _ _ _ _ (Ext.refl I) G (.bl _) q⟩
  · cases e
def isNon : D → Bool
  | .non => true
  | _ => false
def isD (M : Mem) : D → D → Option D
  | x, .non => some (.bl (isNon x))
  | _, _ => none
def isntD (M : Mem) : D → D → Option D
  | x, .non => some (.bl (!isNon x))
  | _, _ => none
theorem isNon_of {K : PySem.W.Frag} {I : Hp} {v : V} {d : D} (r : Rp K I v d) : decide (v = .non) = isNon d := by
  cases r <;> first | rfl | simp [isNon]
theorem snd_is : SndR X (fun x y H Q => y = .non ∧ Q (.bl (decide (x = .non))) H) (rdO isD) := by
  intro Δ I M H σ env G x y dx dy rx ry Q Qd k ⟨d, e, q⟩
  unfold isD at e
  split at e
  · cases e; rw [ry.non_inv]; exact ⟨rfl, k _ _ _ _ _ (Ext.refl I) G (by rw [isNon_of rx]; exact .bl _) q⟩
  · cases e
theorem snd_isnt : SndR X (fun x y H Q => y = .non ∧ Q (.bl (!decide (x = .non))) H) (rdO isntD) := by
  intro Δ I M H σ env G x y dx dy rx ry Q Qd k ⟨d, e, q⟩
  unfold isntD at e
  split at e
  · cases e; rw [ry.non_inv]; exact ⟨rfl, k _ _ _ _ _ (Ext.refl I) G (by rw [isNon_of rx]; exact .bl _) q⟩
  · cases e
/-! in, not in: flat things; one sign in a text -/
def flatD : D → Bool
  | .non | .bl _ | .int _ | .str _ => true
  | _ => false
def eqF : D → D → Bool
  | .non, .non => true
  | .bl a, .bl b => a == b
  | .bl a, .int b => (if a then 1 else 0) == b | .int a, .bl b => a == (if b then 1 else 0)
  | .int a, .int b => a == b
  | .str a, .str b => a == b
  | _, _ => false
def inF (x : D) (xs : List D) : Bool := xs.any fun y => eqF y x
theorem flat_of {K : PySem.W.Frag} {I : Hp} {v : V} {d : D} (r : Rp K I v d) (h : flatD d = true) : flatV v = true := by
  cases r <;> first | rfl | cases h
theorem eqF_of {K : PySem.W.Frag} {I : Hp} {v u : V} {d e : D} (r : Rp K I v d) (r' : Rp K I u e) (h : flatD d = true) (h' : flatD e = true) : eqV v u = eqF d e := by
  cases r <;> cases r' <;> first | rfl | cases h | cases h'
theorem flats_of {K : PySem.W.Frag} {I : Hp} : ∀ {vs : List V} {ds : List D}, Rps K I vs ds → ds.all flatD = true → vs.all flatV = true
  | _, _, .nil, _ => rfl
  | _, _, .cons a b, h => by
    rw [List.all_cons, Bool.and_eq_true] at h ⊢
    exact ⟨flat_of a h.1, flats_of b h.2⟩
theorem inF_of {K : PySem.W.Frag} {I : Hp} {v : V} {d : D} (r : Rp K I v d) (h : flatD d = true) : ∀ {vs : List V} {ds : List D}, Rps K I vs ds → ds.all flatD = true → inV v vs = inF d ds
  | _, _, .nil, _ => rfl
  | _, _, .cons a b, q => by
    rw [List.all_cons, Bool.and_eq_true] at q
    have ih := inF_of r h b q.2
    unfold inV inF at ih ⊢
    rw [List.any_cons, List.any_cons, eqF_of a r q.1 h, ih]
def rdIn (neg : Bool) : RD2 := fun x y M Q => (∃ xs, seqOf M y = some xs ∧ flatD x = true ∧ xs.all flatD = true ∧ Q (.bl (if neg then !inF x xs else inF x xs)) M) ∨
  ∃ c z, x = .str ⟨#[c]⟩ ∧ y = .str z ∧ Q (.bl (if neg then !decide (c ∈ z.cps.toList) else decide (c ∈ z.cps.toList))) M
abbrev rInA (K : PySem.W.Frag) (neg : Bool) : R2 := fun x y H Q => rIn K neg x y H Q ∨ ∃ (c : Nat) (z : Str), x = .str ⟨#[c]⟩ ∧ y = .str z ∧ Q (.bl (if neg then !decide (c ∈ z.cps.toList) else decide (c ∈ z.cps.toList))) H
theorem op_inA : OpR X (compareOp .In) (rInA X.K false) := OpR.or op_in_seq op_in_sign
theorem op_notInA : OpR X (compareOp .NotIn) (rInA X.K true) := OpR.or op_notIn_seq op_notIn_sign
theorem snd_in {neg : Bool} : SndR X (rInA X.K neg) (rdIn neg) := by
  intro Δ I M H σ env G x y dx dy rx ry Q Qd k h
  rcases h with ⟨xs, e, fx, fs, q⟩ | ⟨c, z, e1, e2, q⟩
  · obtain ⟨a, vs, rfl, h1, r1⟩ := seq_of G.at_ ry e
    refine .inl ⟨a, vs, rfl, h1, flat_of rx fx, flats_of r1 fs, k _ _ _ _ _ (Ext.refl I) G ?_ q⟩
    rw [inF_of rx fx r1 fs]
    exact .bl _
  · subst e1 e2
    rw [rx.str_inv, ry.str_inv]
    exact .inr ⟨c, z, rfl, rfl, k _ _ _ _ _ (Ext.refl I) G (.bl _) q⟩

/-! ### a[i] -/
def ixD (M : Mem) : D → D → Option D
  | .str z, .int i => if z.length ≤ sizeLine then (atI z.cps.toList i).map fun c => .str ⟨#[c]⟩ else none
  | x, .int i => (seqOf M x).bind fun xs => atI xs i
  | _, _ => none
theorem at_of {K : PySem.W.Frag} {I : Hp} {vs : List V} {ds : List D} (r : Rps K I vs ds) {i : Int} {d : D} (h : atI ds i = some d) : ∃ v, atI vs i = some v ∧ Rp K I v d := by
  unfold atI at h ⊢
  rw [r.length]
  cases e : ixN ds.length i with
  | none => rw [e] at h; exact nomatch h
  | some j => rw [e] at h; exact r.get h
theorem snd_ix : SndR X (rIx X.K) (rdO ixD) := by
  intro Δ I M H σ env G x y dx dy rx ry Q Qd k ⟨d, e, q⟩
  unfold ixD at e
  split at e
  · rename_i z i
    by_cases h : z.length ≤ sizeLine
    · rw [if_pos h] at e
      cases e2 : atI z.cps.toList i with
      | none => rw [e2] at e; cases e
      | some c =>
        rw [e2] at e
        cases e
        rw [rx.str_inv, ry.int_inv]
        exact .inr (.inr ⟨z, i, c, rfl, rfl, h, e2, k _ _ _ _ _ (Ext.refl I) G (.str _) q⟩)
    · rw [if_neg h] at e; cases e
  · rename_i i _
    cases e2 : seqOf M dx with
    | none => rw [e2] at e; cases e
    | some xs =>
      rw [e2] at e
      obtain ⟨a, vs, rfl, h1, r1⟩ := seq_of G.at_ rx e2
      obtain ⟨v, h2, rv⟩ := at_of r1 e
      rw [ry.int_inv]
      rcases h1 with h1 | h1
      · exact .inl ⟨a, vs, i, v, rfl, rfl, h1, h2, k _ _ _ _ _ (Ext.refl I) G rv q⟩
      · exact .inr (.inl ⟨a, vs, i, v, rfl, rfl, h1, h2, k _ _ _ _ _ (Ext.refl I) G rv q⟩)
  · cases e
variable {Δ : DC} {e a b c : Expr} {de da db dc : DE} {pos p2 : Pos}
variable {ta tb tc te to ti : TE} {t1 t2 : TT} {tl : TA}
variable {tlo thi : TO}
theorem pd_ix (ha : PDe X Δ a ta da) (hb : PDe X Δ b tb db) (hs : PlainIx b := by exact fun _ _ => rfl) : PDe X Δ (.Subscript a b pos) (tOp (rIx X.K) ta tb) (dOp (rdO ixD) da db) := by
  obtain ⟨pa, sa⟩ := ha
  obtain ⟨pb, sb⟩ := hb
  exact ⟨pe_ix ix_seq pa pb hs, snd_op snd_ix sa sb⟩

/-! ### a[i:j] -/
abbrev DO := Env → Mem → (Option Int → Mem → Prop) → Prop
def SndO (X : Cx) (Δ : DC) (to : TO) (d : DO) : Prop := ∀ I M H σ env, Gd X.K Δ I M H σ env → ∀ (Q : Option Int → Hp → Prop) (Qd : Option Int → Mem → Prop),
  (∀ o M' I' H', Ext I I' → Gd X.K Δ I' M' H' σ env → Qd o M' → Q o H') → d env M Qd → to σ H Q
def PDo (X : Cx) (Δ : DC) (e : Option Expr) (t : TO) (d : DO) : Prop := PO X e t ∧ SndO X Δ t d
def dNoPart : DO := fun _ M Q => Q none M
def dPart (de : DE) : DO := fun env M Q => de env M fun x M1 => ∃ i, x = .int i ∧ Q (some i) M1
theorem pdo_none : PDo X Δ none tNoPart dNoPart := ⟨po_none, fun I M H σ env G Q Qd k q => k _ _ _ _ (Ext.refl I) G q⟩
theorem pdo_some (h : PDe X Δ e te de) : PDo X Δ (some e) (tPart te) (dPart de) := by
  obtain ⟨p, s⟩ := h
  refine ⟨po_some p, fun I M H σ env G Q Qd k q => s I M H σ env G _ _ (fun d M1 I1 H1 v x1 G1 r1 ⟨i, e1, q1⟩ => ?_) q⟩
  subst e1
  exact ⟨i, r1.int_inv, k _ _ _ _ x1 G1 q1⟩
def cutD {α : Type} (xs : List α) (lo hi : Option Int) : List α := (xs.drop (HT.sIx xs.length 0 lo)).take (HT.sIx xs.length xs.length hi - HT.sIx xs.length 0 lo)
/-- a text's slice; a tuple's; a list's (a new one) -/
def slD (M : Mem) (x : D) (lo hi : Option Int) : Option D := match x with
  | .str z => if z.length ≤ sizeLine then some (.str (cutS z lo hi)) else none
  | .tup xs => some (.tup (cutD xs lo hi))
  | .frz xs => some (.lst (cutD xs lo hi))
  | x => (lstOf M x).map fun xs => .lst (cutD xs lo hi)
abbrev rSlAll (K : PySem.W.Frag) : V → Option Int → Option Int → Hp → VK → Prop := fun x lo hi H Q => rSlS x lo hi H Q ∨ rSlA K x lo hi H Q ∨ rSlL K x lo hi H Q
theorem sl_all : SlR X (rSlAll X.K) := SlR.or sl_str (SlR.or sl_tupA sl_list)
def dSl (de : DE) (dl dh : DO) : DE := fun env M Q => de env M fun x M1 => dl env M1 fun l M2 => dh env M2 fun u M3 => ∃ d, slD M3 x l u = some d ∧ Q d M3
theorem Rps.cut {K : PySem.W.Frag} {I : Hp} {vs : List V} {ds : List D} (r : Rps K I vs ds) (lo hi : Option Int) : Rps K I (cutV vs lo hi) (cutD ds lo hi) := by
  unfold cutV cutD
  rw [r.length]
  exact (r.drop _).take _
theorem sIx_whole {α : Type} {xs : List α} {lo hi : Option Int} (h : HT.sIx xs.length 0 lo = 0 ∧ HT.sIx xs.length xs.length hi = xs.length) : cutD xs lo hi = xs := by
  unfold cutD
  rw [h.1, h.2, List.drop_zero, Nat.sub_zero, List.take_length]
theorem pd_slice {lo hi : Option Expr} {dl dh : DO} (he : PDe X Δ e te de) (hl : PDo X Δ lo tlo dl) (hu : PDo X Δ hi thi dh) : PDe X Δ (.Subscript e (.Slice lo hi none p2) pos) (tSl (rSlAll X.K) te tlo thi) (dSl de dl dh) := by
  obtain ⟨pe, se⟩ := he
  obtain ⟨pl, sl⟩ := hl
  obtain ⟨ph, sh⟩ := hu
  refine ⟨pe_slice sl_all pe pl ph, fun I M H σ env G Q Qd k q => se I M H σ env G _ _ (fun x M1 I1 H1 v x1 G1 r1 q1 => sl I1 M1 H1 σ env G1 _ _ (fun l M2 I2 H2 x2 G2 q2 => sh I2 M2 H2 σ env G2 _ _ (fun u M3 I3 H3 x3 G3 h3 => ?_) q2) q1) q⟩
  obtain ⟨d, e3, q3⟩ := h3
  have r3 := r1.ext (x2.trans x3)
  have x13 := (x1.trans x2).trans x3
  unfold slD at e3
  split at e3
  · rename_i z
    by_cases h : z.length ≤ sizeLine
    · rw [if_pos h] at e3
      cases e3
      exact .inl ⟨z, r3.str_inv, h, k _ _ _ _ _ x13 G3 (.str _) q3⟩
    · rw [if_neg h] at e3; cases e3
  · rename_i xs
    cases e3
    obtain ⟨a, vs, rfl, h1, h2⟩ := r3.tup_inv
    refine .inr (.inl ⟨a, vs, rfl, G3.at_.sqT h1, fun hw => ?_, fun _ p hp => ?_⟩)
    · rw [h2.length] at hw
      exact k _ _ _ _ _ x13 G3 (by rw [sIx_whole hw]; exact r3) q3
    · obtain ⟨x4, G4⟩ := G3.newI hp (.tup (cutV vs l u))
      exact k _ _ _ _ _ (x13.trans x4) G4 (.tup (.inl (.inl upd_same)) ((h2.cut l u).ext x4)) q3
  · cases e3
    obtain ⟨a, vs, rfl, h1, h2⟩ := r3.frz_inv
    refine .inr (.inr ⟨a, vs, rfl, G3.at_.sqL h1, fun p hp => ?_⟩)
    obtain ⟨x4, G4⟩ := G3.newI hp (.lst (cutV vs l u))
    exact k _ _ _ _ _ (x13.trans x4) G4 (.lst upd_same ((h2.cut l u).ext x4)) q3
  · cases e4 : lstOf M3 x with
    | none => rw [e4] at e3; exact nomatch e3
    | some xs =>
      rw [e4] at e3
      cases e3
      obtain ⟨a, vs, rfl, h1, h2⟩ := lst_of G3.at_ r3 e4
      refine .inr (.inr ⟨a, vs, rfl, .inl (.inl h1), fun p hp => ?_⟩)
      obtain ⟨x4, G4⟩ := G3.newI hp (.lst (cutV vs l u))
      exact k _ _ _ _ _ (x13.trans x4) G4 (.lst upd_same ((h2.cut l u).ext x4)) q3
end
end BB

set_option maxHeartbeats 2000000
namespace BB
open L2 PySem PySem.Spec PyProof.Rows

/-! ### comprehensions -/
def wipeD (env : Env) : List Nat → Env
  | [] => env
  | v :: vs => (wipeD env vs).set v none
theorem wipe_get {σ : L2.St} {j : Nat} : ∀ {vs : List Nat}, (wipe σ vs)[j]? = if j ∈ vs then (σ[j]?).map (fun _ => none) else σ[j]?
  | [] => by simp [wipe]
  | v :: vs => by
    unfold wipe
    by_cases h : v = j
    · subst h
      rw [List.getElem?_set]
      simp only [if_true, List.mem_cons, true_or, wipe_length]
      by_cases hl : v < σ.length
      · rw [if_pos hl, List.getElem?_eq_getElem hl]; rfl
      · rw [if_neg hl, List.getElem?_eq_none (by omega)]; rfl
    · rw [List.getElem?_set_ne h, wipe_get (vs := vs)]
      have : (j ∈ v :: vs) ↔ j ∈ vs := by simp [Ne.symm h]
      simp only [this]
theorem wipe_set {σ : L2.St} {i : Nat} {x : Option V} {vs : List Nat} (h : i ∈ vs) : wipe (σ.set i x) vs = wipe σ vs := by
  apply List.ext_getElem?
  intro j
  rw [wipe_get, wipe_get]
  by_cases hj : j ∈ vs
  · rw [if_pos hj, if_pos hj, List.getElem?_set]
    by_cases e : i = j
    · subst e
      rw [if_pos rfl]
      by_cases hl : i < σ.length
      · rw [if_pos hl, List.getElem?_eq_getElem hl]; rfl
      · rw [if_neg hl, List.getElem?_eq_none (by omega)]
    · rw [if_neg e]
  · rw [if_neg hj, if_neg hj, List.getElem?_set_ne (by rintro rfl; exact hj h)]
theorem wipe_idem {σ : L2.St} {vs : List Nat} : wipe (wipe σ vs) vs = wipe σ vs := by
  apply List.ext_getElem?
  intro j
  rw [wipe_get, wipe_get]
  by_cases hj : j ∈ vs
  · rw [if_pos hj, if_pos hj]; cases σ[j]? <;> rfl
  · rw [if_neg hj, if_neg hj]
theorem EnvR.wipe {K : PySem.W.Frag} {I : Hp} {σ : L2.St} {env : Env} (R : EnvR K I σ env) : ∀ vs : List Nat, EnvR K I (L2.wipe σ vs) (wipeD env vs)
  | [] => R
  | v :: vs => (EnvR.wipe R vs).setN
section
variable {X : Cx} {Δ : DC} {e a b c : Expr} {de da db dc : DE} {dt du : DT} {pos : Pos}
variable {ta tb tc te to ti : TE} {t1 t2 : TT} {tl : TA} {dl : DA} {wi : TI} {di : DI} {g g1 : TG} {g2 : TGs} {dg : DG}
/-- what holds within a block -/
abbrev DC.blk (Δ : DC) (F : Hp) : DC := { F := F, I0 := Δ.I0, W := fun _ _ _ _ => False, Wd := fun _ _ _ _ => False }
theorem xok_blk {X : Cx} {F I0 : Hp} : XOk X { F := F, I0 := I0, W := fun _ _ _ _ => False, Wd := fun _ _ _ _ => False } := ⟨fun _ _ x => by
  let ⟨_, _, _, _, _, _, _, _, _, _, _, _, _, _, _, _, z⟩ := x; exact z.elim, fun _ _ z => z.elim⟩
/-- a target whose names are the block's own -/
def SndW (X : Cx) (Δ : DC) (vs : List Nat) (g : TG) (dg : DG) : Prop := ∀ I M H σ env, Gd X.K Δ I M H σ env → ∀ v d, Rp X.K I v d → ∀ (Q : L2.St → Hp → Prop) (Qd : Env → Mem → Prop),
  (∀ env' M' I' H' σ', Ext I I' → Gd X.K Δ I' M' H' σ' env' → L2.wipe σ' vs = L2.wipe σ vs → Qd env' M' → Q σ' H') → dg d env M Qd → g v σ H Q
def SndWs (X : Cx) (Δ : DC) (vs : List Nat) (g : TGs) (dg : DGs) : Prop := ∀ I M H σ env, Gd X.K Δ I M H σ env → ∀ v d, Rps X.K I v d → ∀ (Q : L2.St → Hp → Prop) (Qd : Env → Mem → Prop),
  (∀ env' M' I' H' σ', Ext I I' → Gd X.K Δ I' M' H' σ' env' → L2.wipe σ' vs = L2.wipe σ vs → Qd env' M' → Q σ' H') → dg d env M Qd → g v σ H Q
def PDgw (X : Cx) (Δ : DC) (vs : List Nat) (tg : Expr) (g : TG) (dg : DG) : Prop := PG X tg g ∧ SndW X Δ vs g dg
def PDgws (X : Cx) (Δ : DC) (vs : List Nat) (ts : List Expr) (g : TGs) (dg : DGs) : Prop := PGs X ts g ∧ SndWs X Δ vs g dg
theorem pdgw_name {vs : List Nat} {i : Nat} {tg : Expr} (h : PG X tg (gName i)) (hi : i ∈ vs) : PDgw X Δ vs tg (gName i) (gdName i) := ⟨h, fun I M H σ env G v d r Q Qd k q => k _ _ _ _ _ (Ext.refl I) (G.set r) (wipe_set hi) q⟩
theorem pdgws_nil {vs : List Nat} : PDgws X Δ vs [] gNil gdNil := ⟨pgs_nil, fun I M H σ env G v d r Q Qd k ⟨e, q⟩ => by
  subst e
  exact ⟨r.nil_inv, k _ _ _ _ _ (Ext.refl I) G rfl q⟩⟩
theorem pdgws_cons {vs : List Nat} {e : Expr} {es : List Expr} {t : DG} {u : DGs} (h1 : PDgw X Δ vs e g1 t) (h2 : PDgws X Δ vs es g2 u)
    (hs : (assignEach (e :: es) X.env).map (·.2) = assign e X.env :: (assignEach es X.env).map (·.2) := by rfl) : PDgws X Δ vs (e :: es) (gCons g1 g2) (gdCons t u) := by
  obtain ⟨p1, s1⟩ := h1
  obtain ⟨p2, s2⟩ := h2
  refine ⟨pgs_cons p1 p2 hs, fun I M H σ env G vs ds r Q Qd k ⟨d, dr, e, q⟩ => ?_⟩
  subst e
  obtain ⟨v, vr, rfl, rv, rr⟩ := r.cons_inv
  exact ⟨v, vr, rfl, s1 I M H σ env G v d rv _ _ (fun env' M' I' H' σ' x G' w' q' => s2 I' M' H' σ' env' G' vr dr (rr.ext x) Q Qd (fun e2 M2 I2 H2 σ2 x2 G2 w2 => k e2 M2 I2 H2 σ2 (x.trans x2) G2 (w2.trans w')) q') q⟩
theorem pdgw_tup {vs : List Nat} {es : List Expr} {k : Nat} {t : DGs} {n : Nat} (hc : X.calm = true) (h : PDgws X Δ vs es g2 t)
    (hn : (assignEach es X.env).length = n := by rfl) (hst : (assignEach es X.env).findIdx? (·.1) = none := by rfl) : PDgw X Δ vs (.Tuple es k pos) (gTup X.K n g2) (gdTup n t) := by
  obtain ⟨p, s⟩ := h
  refine ⟨pg_tup hc p hn hst, fun I M H σ env G v d r Q Qd k ⟨xs, e, hl, q⟩ => ?_⟩
  have r' := r.nrm
  rw [e] at r'
  obtain ⟨a, vs, rfl, h1, h2⟩ := r'.tup_inv
  exact ⟨a, vs, rfl, G.at_.sqT h1, by rw [h2.length]; exact hl, s I M H σ env G vs xs h2 Q Qd k q⟩
/-- a clause's tests -/
def PDts (X : Cx) (Δ : DC) (ifs : List Expr) (t : TT) (dt : DT) : Prop := PTs X ifs t ∧ SndT X Δ t dt
def dYes : DT := fun _ M Q => Q true M
theorem pdts_nil : PDts X Δ [] tYes dYes := ⟨pts_nil, fun I M H σ env G Q Qd k q => k _ _ _ _ (Ext.refl I) G q⟩
theorem pdts_one (h : PDt X Δ c t1 dt) : PDts X Δ [c] t1 dt := ⟨pts_one h.1, h.2⟩

def dLc (di : DI) (dg : DG) (dt : DT) (de : DE) (vs : List Nat) : DE := fun env M Q => di env M fun xs keep M1 => xs.length ≤ sizeLine ∧ ∃ P : Nat → List D → Mem → Prop, P 0 [] M1 ∧ (∀ i acc M, P i acc M → keep M) ∧
  (∀ i d acc M, xs[i]? = some d → P i acc M → dg d (wipeD env vs) M fun env2 M2 => dt env2 M2 fun b M3 => if b = true then de env2 M3 fun y M4 => P (i + 1) (acc ++ [y]) M4 else P (i + 1) acc M3) ∧ ∀ acc M, P xs.length acc M → Q (.lst acc) M
theorem fr_ne {K : PySem.W.Frag} {F I H : Hp} {M : Mem} (A : At K F I M H) {p : Addr} {o : HO} (hp : F p = some o) : I p = none ∧ M p = none ∧ H p = some o := let ⟨a, b, c⟩ := A.fr _ _ hp; ⟨b, c, a⟩
/-- an object of the frame is written -/
theorem At.writeF {K : PySem.W.Frag} {F I H : Hp} {M : Mem} (A : At K F I M H) {p : Addr} {o o' : HO} (hp : F p = some o) (ho : ∃ xs, o' = .lst xs) : At K (upd F p o') I M (upd H p o') where
  nt := fun b xs e => by
    by_cases hb : b = p
    · subst hb; rw [upd_same] at e; exact Option.some.inj e ▸ ho
    · rw [upd_ne hb] at e; exact A.nt _ _ e
  ex := fun b u e => by
    have hb : b ≠ p := fun z => by subst z; rw [(A.fr _ _ hp).2.1] at e; cases e
    rw [upd_ne hb]; exact A.ex _ _ e
  mem := fun b u e => by
    have hM := (A.fr _ _ hp).2.2
    have hb : b ≠ p := mem_ne e hM
    refine ⟨(A.mem _ _ e).1, (A.mem _ _ e).2.mono (Ext.refl I) (fun c v hc hv => ?_) (fun c hc => hc)⟩
    rcases hc with rfl | hc
    · rw [upd_ne hb]; exact hv
    · rw [upd_ne (mem_ne hc hM)]; exact hv
  fr := fun b u e => by
    by_cases hb : b = p
    · subst hb; rw [upd_same] at e; cases e; exact ⟨upd_same, (A.fr _ _ hp).2.1, (A.fr _ _ hp).2.2⟩
    · rw [upd_ne hb] at e ⊢; exact A.fr _ _ e
/-- a new object of the frame; one that is fixed now -/
theorem At.newF {K : PySem.W.Frag} {F I H : Hp} {M : Mem} (A : At K F I M H) {p : Addr} (h : H p = none) (o : HO) (ho : ∃ xs, o = .lst xs) : At K (upd F p o) I M (upd H p o) where
  nt := fun b xs e => by
    by_cases hb : b = p
    · subst hb; rw [upd_same] at e; exact Option.some.inj e ▸ ho
    · rw [upd_ne hb] at e; exact A.nt _ _ e
  ex := fun b u e => by rw [upd_ne (ne_of_none (A.ex _ _ e) h)]; exact A.ex _ _ e
  mem := fun b u e => by
    refine ⟨(A.mem _ _ e).1, (A.mem _ _ e).2.mono (Ext.refl I) (fun c v _ hc => ?_) (fun c hc => hc)⟩
    rw [upd_ne (ne_of_none hc h)]; exact hc
  fr := fun b u e => by
    by_cases hb : b = p
    · subst hb; rw [upd_same] at e; cases e; exact ⟨upd_same, A.freeI h, A.freeM h⟩
    · rw [upd_ne hb] at e ⊢; exact A.fr _ _ e
theorem At.fixF {K : PySem.W.Frag} {F F0 I H : Hp} {M : Mem} (A : At K F I M H) {p : Addr} {o : HO} (hp : F p = some o) (hF : ∀ b u, F0 b = some u → b ≠ p ∧ F b = some u) : At K F0 (upd I p o) M H ∧ Ext I (upd I p o) := by
  obtain ⟨h1, h2, h3⟩ := A.fr _ _ hp
  have x : Ext I (upd I p o) := Ext.new h2
  refine ⟨⟨fun b u e => ?_, fun b u e => ?_, fun b u e => ?_, fun b xs e => A.nt b xs (hF _ _ e).2⟩, x⟩
  · by_cases hb : b = p
    · subst hb; rw [upd_same] at e; cases e; exact h1
    · rw [upd_ne hb] at e; exact A.ex _ _ e
  · have hb : b ≠ p := mem_ne e h3
    exact ⟨by rw [upd_ne hb]; exact (A.mem _ _ e).1, (A.mem _ _ e).2.mono x (fun c v _ hv => hv) (fun c hc => hc)⟩
  · obtain ⟨hb, e⟩ := hF b u e
    obtain ⟨q1, q2, q3⟩ := A.fr _ _ e
    exact ⟨q1, by rw [upd_ne hb]; exact q2, q3⟩
theorem snd_lc {vs : List Nat} (si : SndI X Δ wi di) (sg : ∀ F, SndW X (Δ.blk F) vs g dg) (st : ∀ F, SndT X (Δ.blk F) t1 dt) (se : ∀ F, SndE X (Δ.blk F) te de) : SndE X Δ (tLc wi g t1 te vs) (dLc di dg dt de vs) := fun I M H σ env G Q Qd k q =>
  si I M H σ env G _ _ (fun xs keep M1 J I1 H1 x1 G1 ok ⟨hz, P, p0, pk, ps, pd⟩ => by
    intro D hD
    have A1 := G1.at_.newF hD (.lst []) ⟨_, rfl⟩
    have F0 : ∀ (o : HO) b u, Δ.F b = some u → b ≠ D ∧ (upd Δ.F D o) b = some u := fun o b u e => by
      have hb : b ≠ D := ne_of_none (G1.at_.fr _ _ e).1 hD
      exact ⟨hb, by rw [upd_ne hb]; exact e⟩
    refine ⟨fun i m H => m = xs.length - i ∧ i ≤ xs.length ∧ ∃ I M acc us, Ext I1 I ∧ Gd X.K (Δ.blk (upd Δ.F D (.lst us))) I M H (L2.wipe σ vs) (wipeD env vs) ∧ Rps X.K I us acc ∧ acc.length ≤ i ∧ P i acc M,
      ⟨xs.length, by simp, Nat.zero_le _, I1, M1, [], [], Ext.refl _, ⟨G1.base, A1, G1.env.wipe vs⟩, .nil, Nat.le_refl _, p0⟩, ?_⟩
    rintro i m H2 ⟨rfl, hi, I2, M2, acc, us, x2, G2, r2, ha, p2⟩
    have hk := pk i acc M2 p2
    by_cases hlt : i < xs.length
    · refine .inr ⟨ok.go _ i I2 M2 H2 x2 G2.at_ hk hlt, fun H => ∃ I M acc us, Ext I1 I ∧ Gd X.K (Δ.blk (upd Δ.F D (.lst us))) I M H (L2.wipe σ vs) (wipeD env vs) ∧ Rps X.K I us acc ∧ acc.length ≤ i + 1 ∧ P (i + 1) acc M, fun H' w => ⟨xs.length - (i + 1), by omega, rfl, hlt, w⟩, fun x H' y => ?_⟩
      have hd : xs[i]? = some xs[i] := by simp [hlt]
      obtain ⟨I3, x3, A3, r3⟩ := ok.yld _ i xs[i] x I2 M2 H2 H' x2 G2.at_ hk hd y
      have G3 := G2.go x3 A3
      refine sg _ I3 M2 H' _ _ G3 x xs[i] r3 _ _ (fun env4 M4 I4 H4 σ4 x4 G4 w4 q4 => ⟨w4.trans wipe_idem, ?_⟩) (ps i xs[i] acc M2 hd p2)
      refine st _ I4 M4 H4 σ4 env4 G4 _ _ (fun b M5 I5 H5 x5 G5 q5 => ?_) q4
      have back : ∀ {I6 M6 H6 F6}, Gd X.K (Δ.blk F6) I6 M6 H6 σ4 env4 → Ext I2 I6 → Gd X.K (Δ.blk F6) I6 M6 H6 (L2.wipe σ vs) (wipeD env vs) := fun {I6 M6 H6 F6} G6 x6 => ⟨G6.base, G6.at_, G2.env.ext x6⟩
      cases b with
      | true =>
        rw [if_pos rfl] at q5 ⊢
        refine se _ I5 M5 H5 σ4 env4 G5 _ _ (fun y M6 I6 H6 u x6 G6 r6 q6 => ?_) q5
        have hFD : (upd Δ.F D (.lst us)) D = some (.lst us) := upd_same
        obtain ⟨hD1, hD2, hD3⟩ := G6.at_.fr _ _ hFD
        refine ⟨us, hD1, by rw [r2.length]; omega, I6, M6, acc ++ [y], us ++ [u], (((x2.trans x3).trans x4).trans x5).trans x6, ?_, (r2.ext (((x3.trans x4).trans x5).trans x6)).append (.cons r6 .nil), by simp; omega, q6⟩
        have A6 := G6.at_.writeF (o' := .lst (us ++ [u])) hFD ⟨_, rfl⟩
        have e : upd (upd Δ.F D (.lst us)) D (.lst (us ++ [u])) = upd Δ.F D (.lst (us ++ [u])) := upd_upd
        rw [e] at A6
        exact ⟨G6.base, A6, G2.env.ext (((x3.trans x4).trans x5).trans x6)⟩
      | false =>
        rw [if_neg Bool.false_ne_true] at q5 ⊢
        exact ⟨I5, M5, acc, us, ((x2.trans x3).trans x4).trans x5, back G5 ((x3.trans x4).trans x5), r2.ext ((x3.trans x4).trans x5), by omega, q5⟩
    · have e : i = xs.length := by omega
      subst e
      refine .inl ⟨ok.stop _ I2 M2 H2 x2 G2.at_ hk, ?_⟩
      obtain ⟨A7, x7⟩ := G2.at_.fixF (F0 := Δ.F) (p := D) upd_same (F0 _)
      exact k _ _ _ _ _ ((x1.trans x2).trans x7) ⟨G1.base.trans (x2.trans x7), A7, G1.env.ext (x2.trans x7)⟩ (.lst upd_same (r2.ext x7)) (pd acc M2 p2)) q
theorem pd_lc {elt tg iter : Expr} {ifs : List Expr} {scope : Scope} {own : List (Str × Nat)} {pos : Pos} (hc : X.calm = true) (hN : X.N.Nodup) (hi : PDi X Δ tg iter wi di) (ok : BlkOk X.N X.env.scope scope own)
    (hg : ∀ (s : Shared) (H : Hp) (C : Addr) (cl : List (Str × Addr)) (fp : List Addr) (F : Hp), PDgw (X.blk s H scope (compEnvC scope cl C X.env) fp) (Δ.blk F) (own.map (·.2)) tg g dg) (ht : ∀ (s : Shared) (H : Hp) (C : Addr) (cl : List (Str × Addr)) (fp : List Addr) (F : Hp), PDts (X.blk s H scope (compEnvC scope cl C X.env) fp) (Δ.blk F) ifs t1 dt)
    (he : ∀ (s : Shared) (H : Hp) (C : Addr) (cl : List (Str × Addr)) (fp : List Addr) (F : Hp), PDe (X.blk s H scope (compEnvC scope cl C X.env) fp) (Δ.blk F) elt te de) (hs : ∀ x, foldedSetIterable iter X.env x = pure x := by intro _; rfl) :
    PDe X Δ (.ListComp elt [⟨tg, iter, ifs, 0⟩] scope pos) (tLc wi g t1 te (own.map (·.2))) (dLc di dg dt de (own.map (·.2))) :=
  ⟨pe_lc hc hN hi.1 ok (fun s H C cl fp => (hg s H C cl fp Δ.F).1) (fun s H C cl fp => (ht s H C cl fp Δ.F).1) (fun s H C cl fp => (he s H C cl fp Δ.F).1) hs,
    snd_lc hi.2 (fun F => (hg X.s_0 X.H_0 0 [] [] F).2) (fun F => (ht X.s_0 X.H_0 0 [] [] F).2) (fun F => (he X.s_0 X.H_0 0 [] [] F).2)⟩
/-- y = [..] -/
theorem pds_setLc {i : Nat} {y : Str} {py : Pos} {elt tg iter : Expr} {ifs : List Expr} {scope : Scope} {own : List (Str × Nat)} {pos spos : Pos} (hc : X.calm = true) (hN : X.N.Nodup) (hy : X.N[i]? = some y) (hyl : X.env.scope.names.lookup y = some .local)
    (hsw : swapsWith (.ListComp elt [⟨tg, iter, ifs, 0⟩] scope pos) (some (.Name y py)) spos.line X.env = pure true) (hi : PDi X Δ tg iter wi di) (ok : BlkOk X.N X.env.scope scope own)
    (hg : ∀ (s : Shared) (H : Hp) (C : Addr) (cl : List (Str × Addr)) (fp : List Addr) (F : Hp), PDgw (X.blk s H scope (compEnvC scope cl C X.env) fp) (Δ.blk F) (own.map (·.2)) tg g dg) (ht : ∀ (s : Shared) (H : Hp) (C : Addr) (cl : List (Str × Addr)) (fp : List Addr) (F : Hp), PDts (X.blk s H scope (compEnvC scope cl C X.env) fp) (Δ.blk F) ifs t1 dt)
    (he : ∀ (s : Shared) (H : Hp) (C : Addr) (cl : List (Str × Addr)) (fp : List Addr) (F : Hp), PDe (X.blk s H scope (compEnvC scope cl C X.env) fp) (Δ.blk F) elt te de) (hs : ∀ x, foldedSetIterable iter X.env x = pure x := by intro _; rfl) :
    PDs X Δ (.Assign [.Name y py] (.ListComp elt [⟨tg, iter, ifs, 0⟩] scope pos) spos) (tAsg (tLc wi g t1 te (own.map (·.2))) (gName i)) (dSet i (dLc di dg dt de (own.map (·.2)))) :=
  ⟨ps_setLc hc hN hy hyl hsw hi.1 ok (fun s H C cl fp => (hg s H C cl fp Δ.F).1) (fun s H C cl fp => (ht s H C cl fp Δ.F).1) (fun s H C cl fp => (he s H C cl fp Δ.F).1) hs,
    fun I M H σ env G T Td R q => snd_lc hi.2 (fun F => (hg X.s_0 X.H_0 0 [] [] F).2) (fun F => (ht X.s_0 X.H_0 0 [] [] F).2) (fun F => (he X.s_0 X.H_0 0 [] [] F).2) I M H σ env G _ _
      (fun d M1 I1 H1 v x1 G1 r1 q1 => R.nx _ _ _ _ _ x1 (G1.set r1) q1) q⟩

/-! ### calls of built-ins -/
abbrev RDC := List D → Mem → DKt → Prop
def SndC (X : Cx) (r : List V → Hp → VK → Prop) (rd : RDC) : Prop := ∀ (Δ : DC) I M H σ env, Gd X.K Δ I M H σ env → ∀ vs ds, Rps X.K I vs ds → ∀ (Q : VK) (Qd : DKt),
  (∀ d M' I' H' v, Ext I I' → Gd X.K Δ I' M' H' σ env → Rp X.K I' v d → Qd d M' → Q v H') → rd ds M Qd → r vs H Q
def dCB (rd : RDC) (dl : DA) : DE := fun env M Q => dl env M fun ds M1 => rd ds M1 Q
theorem snd_cb {r : List V → Hp → VK → Prop} {rd : RDC} (hr : SndC X r rd) (sl : SndA X Δ tl dl) : SndE X Δ (tCB r tl) (dCB rd dl) := fun I M H σ env G Q Qd k q =>
  sl I M H σ env G _ _ (fun ds M1 I1 H1 vs x1 G1 r1 q1 => hr Δ I1 M1 H1 σ env G1 vs ds r1 Q Qd (fun d M' I' H' v x => k d M' I' H' v (x1.trans x)) q1) q
theorem pd_callB {es : List Expr} {id : String} {x : Str} {p : Pos} {r : List V → Hp → VK → Prop} {rd : RDC} (hc : CallR X (.builtin id) r) (hr : SndC X r rd) (hg : Gl X x) (hm : X.mg x = none) (hv : bootBuiltins x = some (.builtin id)) (ha : PDa X Δ (e :: es) tl dl) (hn : x ≠ "__name__" := by decide) (hdb : (x == ("__debug__" : Str)) = false := by decide)
    (he : starEach (e :: es) X.env = (false, eval e X.env) :: starEach es X.env := by rfl) (hpl : (backTo pos (starEach es X.env)).any (·.1) = false := by rfl) : PDe X Δ (.Call (.Name x p) (e :: es) [] pos) (tCB r tl) (dCB rd dl) :=
  ⟨pe_callB hc hg hm hv ha.1 hn hdb he hpl, snd_cb hr ha.2⟩
theorem pd_callTy {es : List Expr} {T : String} {x : Str} {p : Pos} {r : List V → Hp → VK → Prop} {rd : RDC} (hc : CallR X (.type T) r) (hr : SndC X r rd) (hg : Gl X x) (hm : X.mg x = none) (hv : bootBuiltins x = some (.type T)) (ha : PDa X Δ (e :: es) tl dl) (hn : x ≠ "__name__" := by decide) (hdb : (x == ("__debug__" : Str)) = false := by decide)
    (he : starEach (e :: es) X.env = (false, eval e X.env) :: starEach es X.env := by rfl) (hpl : (backTo pos (starEach es X.env)).any (·.1) = false := by rfl) : PDe X Δ (.Call (.Name x p) (e :: es) [] pos) (tCB r tl) (dCB rd dl) :=
  ⟨pe_callTy hc hg hm hv ha.1 hn hdb he hpl, snd_cb hr ha.2⟩
/-- of one value, by a function -/
def rd1 (f : Mem → D → Option D) : RDC := fun ds M Q => ∃ x, ds = [x] ∧ ∃ d, f M x = some d ∧ Q d M
def lenD (M : Mem) : D → Option D
  | .str z => if z.length ≤ sizeLine then some (.int z.length) else none
  | x => (seqOf M x).map fun xs => .int xs.length
abbrev rLenA (K : PySem.W.Frag) : List V → Hp → VK → Prop := fun xs H Q => (∃ p ys, xs = [.ref p] ∧ (SqL K H p ys ∨ SqT K H p ys) ∧ Q (.int ys.length) H) ∨ ∃ z, xs = [.str z] ∧ z.length ≤ sizeLine ∧ Q (.int z.length) H
theorem call_lenA : CallR X (.builtin "len") (rLenA X.K) := CallR.or call_len_seq call_len_str
theorem snd_len : SndC X (rLenA X.K) (rd1 lenD) := by
  intro Δ I M H σ env G vs ds r Q Qd k ⟨x, e, d, e2, q⟩
  subst e
  obtain ⟨v, rfl, rv⟩ := r.one_inv
  unfold lenD at e2
  split at e2
  · rename_i z
    by_cases h : z.length ≤ sizeLine
    · rw [if_pos h] at e2; cases e2; rw [rv.str_inv]; exact .inr ⟨z, rfl, h, k _ _ _ _ _ (Ext.refl I) G (.int _) q⟩
    · rw [if_neg h] at e2; cases e2
  · cases e3 : seqOf M x with
    | none => rw [e3] at e2; cases e2
    | some xs =>
      rw [e3] at e2
      cases e2
      obtain ⟨a, us, rfl, h1, h2⟩ := seq_of G.at_ rv e3
      exact .inl ⟨a, us, rfl, h1, k _ _ _ _ _ (Ext.refl I) G (by rw [h2.length]; exact .int _) q⟩
def absD (M : Mem) : D → Option D
  | .int i => some (.int (if i < 0 then -i else i)) | _ => none
theorem snd_abs : SndC X (fun xs H Q => ∃ i, xs = [.int i] ∧ Q (.int (if i < 0 then -i else i)) H) (rd1 absD) := by
  intro Δ I M H σ env G vs ds r Q Qd k ⟨x, e, d, e2, q⟩
  subst e
  obtain ⟨v, rfl, rv⟩ := r.one_inv
  unfold absD at e2
  split at e2
  · cases e2; rw [rv.int_inv]; exact ⟨_, rfl, k _ _ _ _ _ (Ext.refl I) G (.int _) q⟩
  · cases e2
def intOfD (M : Mem) : D → Option D
  | .int i => some (.int i)
  | .bl b => some (.int (if b then 1 else 0))
  | _ => none
theorem snd_intOf : SndC X (fun xs H Q => (∃ i, xs = [.int i] ∧ Q (.int i) H) ∨ ∃ k, xs = [.bl k] ∧ Q (.int (if k then 1 else 0)) H) (rd1 intOfD) := by
  intro Δ I M H σ env G vs ds r Q Qd k ⟨x, e, d, e2, q⟩
  subst e
  obtain ⟨v, rfl, rv⟩ := r.one_inv
  unfold intOfD at e2
  split at e2
  · cases e2; rw [rv.int_inv]; exact .inl ⟨_, rfl, k _ _ _ _ _ (Ext.refl I) G (.int _) q⟩
  · cases e2; rw [rv.bl_inv]; exact .inr ⟨_, rfl, k _ _ _ _ _ (Ext.refl I) G (.int _) q⟩
  · cases e2
def tupD (M : Mem) (x : D) : Option D := (seqOf M x).map .tup
def listD (M : Mem) (x : D) : Option D := (seqOf M x).map .lst
theorem snd_tup : SndC X (fun xs H Q => ∃ p ys, xs = [.ref p] ∧ ((SqL X.K H p ys ∧ ∀ l, H l = none → Q (.ref l) (upd H l (.tup ys))) ∨ (SqT X.K H p ys ∧ Q (.ref p) H))) (rd1 tupD) := by
  intro Δ I M H σ env G vs ds r Q Qd k ⟨x, e, d, e2, q⟩
  subst e
  obtain ⟨v, rfl, rv⟩ := r.one_inv
  unfold tupD at e2
  have lists : ∀ {xs}, lstOf M x = some xs → d = .tup xs → _ := fun {xs} (h : lstOf M x = some xs) (ed : d = .tup xs) => show (∃ p ys, [v] = [V.ref p] ∧ ((SqL X.K H p ys ∧ ∀ l, H l = none → Q (.ref l) (upd H l (.tup ys))) ∨ (SqT X.K H p ys ∧ Q (.ref p) H))) from by
    obtain ⟨a, us, rfl, h1, h2⟩ := lst_of G.at_ rv h
    subst ed
    refine ⟨a, us, rfl, .inl ⟨.inl (.inl h1), fun l hl => ?_⟩⟩
    obtain ⟨x2, G2⟩ := G.newI hl (.tup us)
    exact k _ _ _ _ _ x2 G2 (.tup (.inl (.inl upd_same)) (h2.ext x2)) q
  cases x with
  | tup xs =>
    cases e2
    obtain ⟨a, us, rfl, h1, h2⟩ := rv.tup_inv
    exact ⟨a, us, rfl, .inr ⟨G.at_.sqT h1, k _ _ _ _ _ (Ext.refl I) G (.tup h1 h2) q⟩⟩
  | frz xs =>
    cases e2
    obtain ⟨a, us, rfl, h1, h2⟩ := rv.frz_inv
    refine ⟨a, us, rfl, .inl ⟨G.at_.sqL h1, fun l hl => ?_⟩⟩
    obtain ⟨x2, G2⟩ := G.newI hl (.tup us)
    exact k _ _ _ _ _ x2 G2 (.tup (.inl (.inl upd_same)) (h2.ext x2)) q
  | lst xs => cases e2; exact lists rfl rfl
  | ref p =>
    cases e3 : seqOf M (.ref p) with
    | none => rw [e3] at e2; cases e2
    | some xs => rw [e3] at e2; cases e2; exact lists (xs := xs) e3 rfl
  | _ => cases e2
theorem snd_list : SndC X (fun xs H Q => ∃ p ys, xs = [.ref p] ∧ (SqL X.K H p ys ∨ SqT X.K H p ys) ∧ ∀ l, H l = none → Q (.ref l) (upd H l (.lst ys))) (rd1 listD) := by
  intro Δ I M H σ env G vs ds r Q Qd k ⟨x, e, d, e2, q⟩
  subst e
  obtain ⟨v, rfl, rv⟩ := r.one_inv
  unfold listD at e2
  cases e3 : seqOf M x with
  | none => rw [e3] at e2; cases e2
  | some xs =>
    rw [e3] at e2
    cases e2
    obtain ⟨a, us, rfl, h1, h2⟩ := seq_of G.at_ rv e3
    refine ⟨a, us, rfl, h1, fun l hl => ?_⟩
    obtain ⟨x2, G2⟩ := G.newI hl (.lst us)
    exact k _ _ _ _ _ x2 G2 (.lst upd_same (h2.ext x2)) q
/-- two ints -/
def rdMax : RDC := fun ds M Q => ∃ i j, ds = [.int i, .int j] ∧ Q (.int (if j > i then j else i)) M
def rdMin : RDC := fun ds M Q => ∃ i j, ds = [.int i, .int j] ∧ Q (.int (if j < i then j else i)) M
theorem snd_max : SndC X (fun xs H Q => ∃ i j, xs = [.int i, .int j] ∧ Q (.int (if j > i then j else i)) H) rdMax := by
  intro Δ I M H σ env G vs ds r Q Qd k ⟨i, j, e, q⟩
  subst e
  obtain ⟨v, u, rfl, rv, ru⟩ := r.two_inv
  rw [rv.int_inv, ru.int_inv]
  exact ⟨i, j, rfl, k _ _ _ _ _ (Ext.refl I) G (.int _) q⟩
theorem snd_min : SndC X (fun xs H Q => ∃ i j, xs = [.int i, .int j] ∧ Q (.int (if j < i then j else i)) H) rdMin := by
  intro Δ I M H σ env G vs ds r Q Qd k ⟨i, j, e, q⟩
  subst e
  obtain ⟨v, u, rfl, rv, ru⟩ := r.two_inv
  rw [rv.int_inv, ru.int_inv]
  exact ⟨i, j, rfl, k _ _ _ _ _ (Ext.refl I) G (.int _) q⟩
theorem Rps.bls {K : PySem.W.Frag} {I : Hp} : ∀ {bs : List Bool} {vs : List V}, Rps K I vs (bs.map D.bl) → vs = bs.map V.bl
  | [], _, r => r.nil_inv
  | b :: bs, _, r => by
    obtain ⟨v, vr, rfl, a, t⟩ := Rps.cons_inv (show Rps K I _ (.bl b :: bs.map D.bl) from r)
    rw [a.bl_inv, Rps.bls t]
    rfl
theorem Rps.strs {K : PySem.W.Frag} {I : Hp} : ∀ {bs : List Str} {vs : List V}, Rps K I vs (bs.map D.str) → vs = bs.map V.str
  | [], _, r => r.nil_inv
  | b :: bs, _, r => by
    obtain ⟨v, vr, rfl, a, t⟩ := Rps.cons_inv (show Rps K I _ (.str b :: bs.map D.str) from r)
    rw [a.str_inv, Rps.strs t]
    rfl
theorem Rps.ofStrs {K : PySem.W.Frag} {I : Hp} : ∀ (bs : List Str), Rps K I (bs.map V.str) (bs.map D.str)
  | [] => .nil
  | b :: bs => .cons (.str b) (Rps.ofStrs bs)
theorem Rps.ints {K : PySem.W.Frag} {I : Hp} : ∀ {bs : List Int} {vs : List V}, Rps K I vs (bs.map D.int) → vs = bs.map V.int
  | [], _, r => r.nil_inv
  | b :: bs, _, r => by
    obtain ⟨v, vr, rfl, a, t⟩ := Rps.cons_inv (show Rps K I _ (.int b :: bs.map D.int) from r)
    rw [a.int_inv, Rps.ints t]
    rfl
theorem Rps.ofInts {K : PySem.W.Frag} {I : Hp} : ∀ (bs : List Int), Rps K I (bs.map V.int) (bs.map D.int)
  | [] => .nil
  | b :: bs => .cons (.int b) (Rps.ofInts bs)
def rdAll : RDC := fun ds M Q => ∃ x, ds = [x] ∧ ∃ bs : List Bool, lstOf M x = some (bs.map D.bl) ∧ Q (.bl (bs.all id)) M
def rdAny : RDC := fun ds M Q => ∃ x, ds = [x] ∧ ∃ bs : List Bool, lstOf M x = some (bs.map D.bl) ∧ Q (.bl (bs.any id)) M
theorem snd_all : SndC X (rAll X.K) rdAll := by
  intro Δ I M H σ env G vs ds r Q Qd k ⟨x, e, bs, e2, q⟩
  subst e
  obtain ⟨v, rfl, rv⟩ := r.one_inv
  obtain ⟨a, us, rfl, h1, h2⟩ := lst_of G.at_ rv e2
  have e := h2.bls
  subst e
  exact ⟨a, bs, rfl, .inl (.inl h1), k _ _ _ _ _ (Ext.refl I) G (.bl _) q⟩
theorem snd_any : SndC X (rAny X.K) rdAny := by
  intro Δ I M H σ env G vs ds r Q Qd k ⟨x, e, bs, e2, q⟩
  subst e
  obtain ⟨v, rfl, rv⟩ := r.one_inv
  obtain ⟨a, us, rfl, h1, h2⟩ := lst_of G.at_ rv e2
  have e := h2.bls
  subst e
  exact ⟨a, bs, rfl, .inl (.inl h1), k _ _ _ _ _ (Ext.refl I) G (.bl _) q⟩
/-- sorted of a few texts -/
def rdSortS : RDC := fun ds M Q => ∃ x, ds = [x] ∧ ∃ xs : List Str, lstOf M x = some (xs.map D.str) ∧ xs.length < 64 ∧ ∀ ys : List Str, ys.Perm xs → sortedS ys = true → Q (.lst (ys.map D.str)) M
theorem snd_sortS : SndC X (rSortedS X.K) rdSortS := by
  intro Δ I M H σ env G vs ds r Q Qd k ⟨x, e, xs, e2, h64, q⟩
  subst e
  obtain ⟨v, rfl, rv⟩ := r.one_inv
  obtain ⟨a, us, rfl, h1, h2⟩ := lst_of G.at_ rv e2
  have e := h2.strs
  subst e
  refine ⟨a, xs, rfl, .inl (.inl h1), h64, fun ys p hp hs hn => ?_⟩
  obtain ⟨x2, G2⟩ := G.newI hn (.lst (ys.map V.str))
  exact k _ _ _ _ _ x2 G2 (.lst upd_same (Rps.ofStrs ys)) (q ys hp hs)
end
end BB

set_option maxHeartbeats 2000000
namespace BB
open L2 PySem PySem.Spec PyProof.Rows

/-! ### a value that is handed on: what may be let go or fixed with it -/
inductive FzV (Q : DKt) : D → Mem → Prop
  | done {d M} : Q d M → FzV Q d M
  | drop {d M} (p : Addr) {m : MO} : M p = some m → Loose m = true → FzV Q d (mdel M p) → FzV Q d M
  | dropI {d M} (p : Addr) {C fs} : M p = some (.ins C fs) → (∀ dx, M dx = some (.own p) → FzV Q d (mdel (mdel M p) dx)) → FzV Q d M
  | fixL {p M xs} : M p = some (.lst xs) → FzV Q (.lst xs) (mdel M p) → FzV Q (.ref p) M
  | fixK {p M xs} : M p = some (.dK xs) → FzV Q (.dK xs) (mdel M p) → FzV Q (.ref p) M
  | fixT {p M xs} : M p = some (.dT xs) → FzV Q (.dT xs) (mdel M p) → FzV Q (.ref p) M
  | fixI {p M C fs} : M p = some (.ins C fs) → (∀ dx, M dx = some (.own p) → FzV Q (.ins C fs) (mdel (mdel M p) dx)) → FzV Q (.ref p) M
theorem fzv {K : PySem.W.Frag} {F H : Hp} {v : V} {Q : DKt} {d : D} {M : Mem} (h : FzV Q d M) : ∀ {I : Hp}, At K F I M H → Rp K I v d → ∃ I' M' d', Ext I I' ∧ At K F I' M' H ∧ Rp K I' v d' ∧ Q d' M' := by
  induction h with
  | done q => exact fun {I} A r => ⟨I, _, _, Ext.refl I, A, r, q⟩
  | drop p hp hm _ ih => exact fun {I} A r => ih (A.drop hp hm) r
  | dropI p hp _ ih =>
    intro I A r
    obtain ⟨dx, hd, A'⟩ := A.dropI hp
    exact ih dx hd A' r
  | fixL hp _ ih =>
    intro I A r
    obtain ⟨J, x, A', r'⟩ := A.fixL hp
    have e := r.ref_inv
    subst e
    obtain ⟨I', M', d', x', q⟩ := ih A' r'
    exact ⟨I', M', d', x.trans x', q⟩
  | fixK hp _ ih =>
    intro I A r
    obtain ⟨J, x, A', r'⟩ := A.fixK hp
    have e := r.ref_inv
    subst e
    obtain ⟨I', M', d', x', q⟩ := ih A' r'
    exact ⟨I', M', d', x.trans x', q⟩
  | fixT hp _ ih =>
    intro I A r
    obtain ⟨J, x, A', r'⟩ := A.fixT hp
    have e := r.ref_inv
    subst e
    obtain ⟨I', M', d', x', q⟩ := ih A' r'
    exact ⟨I', M', d', x.trans x', q⟩
  | fixI hp _ ih =>
    intro I A r
    obtain ⟨dx, J, hd, x, A', r'⟩ := A.fixI hp
    have e := r.ref_inv
    subst e
    obtain ⟨I', M', d', x', q⟩ := ih dx hd A' r'
    exact ⟨I', M', d', x.trans x', q⟩

/-! ### promises over data -/
abbrev SpD := List D → Mem → DKt → DX → Prop
def liftSp (K : PySem.W.Frag) (sp : SpD) : Sp := fun vs H Q E => ∃ F I M ds Qd Ed, At K F I M H ∧ Rps K I vs ds ∧ sp ds M Qd Ed ∧
  (∀ d M' I' H' v, Ext I I' → At K F I' M' H' → Rp K I' v d → Qd d M' → Q v H') ∧ ∀ c fs M' I' H' dd, Ext I I' → At K F I' M' H' → ExcR K I' fs dd → Ed c fs M' → E c dd H'

section
variable {X : Cx} {Δ : DC} {e a b c o : Expr} {de da db dc : DE} {dt du : DT} {pos p apos : Pos} {es : List Expr}
variable {ta tb tc te to ti : TE} {t1 t2 : TT} {tl : TA} {dl : DA}
variable {k : Nat} {f C : Addr} {fd : FuncData} {ps : List Str} {sp : SpD} {ds : List Value} {dvs : List V} {dds : List D} {x m : Str}
theorem lift_at (xo : XOk X Δ) {I M H σ env} (G : Gd X.K Δ I M H σ env) {vs : List V} {us : List D} (r : Rps X.K I vs us) {Q : VK} {Qd : DKt} (h : sp us M Qd (fun c fs M' => Δ.Wd c fs env M'))
    (k : ∀ d M' I' H' v, Ext I I' → Gd X.K Δ I' M' H' σ env → Rp X.K I' v d → Qd d M' → Q v H') : liftSp X.K sp vs H Q (WE Δ.W σ) :=
  ⟨Δ.F, I, M, us, Qd, _, G.at_, r, h, fun d M' I' H' v x A r' q => k d M' I' H' v x (G.go x A) r' q, fun c fs M' I' H' dd x A er w => xo.link (G.go x A) er w⟩

/-! ### f(e, ..) -/
def dCall (Wd : DW) (sp : SpD) (dds : List D) (dl : DA) : DE := fun env M Q => dl env M fun us M1 => sp (us ++ dds) M1 Q fun c fs M' => Wd c fs env M'
theorem snd_call (xo : XOk X Δ) (hdd : ∀ I, Rps X.K I dvs dds) (sl : SndA X Δ tl dl) : SndE X Δ (tCallSD (liftSp X.K sp) dvs (WE Δ.W) tl) (dCall Δ.Wd sp dds dl) := fun I M H σ env G Q Qd k q =>
  sl I M H σ env G _ _ (fun us M1 I1 H1 vs x1 G1 r1 q1 => lift_at xo G1 (r1.append (hdd I1)) q1 fun d M' I' H' v x => k d M' I' H' v (x1.trans x)) q
/-- how e, .. is read where no part of it is starred -/
abbrev Args1 (X : Cx) (pos : Pos) (e : Expr) (es : List Expr) : Prop := (starEach (e :: es) X.env = (false, eval e X.env) :: starEach es X.env) ∧ (backTo pos (starEach es X.env)).any (·.1) = false
/-- a name other than the one that the compiler keeps for itself -/
abbrev OwnName (x : Str) : Prop := (x == ("__debug__" : Str)) = false
theorem pd_callD (F : FnOk X.prog X.w X.K X.mg X.base (L2.CX X.prog X.w) k f fd ps (liftSp X.K sp)) (hr : Room k X.A) (hg : Gl X x) (hm : X.mg x = some (.ref f)) (hk : PySem.W.keepIn X.K (.ref f) = true) (hb : Binds X.K fd ps ds) (hd : Vals dvs ds) (hdd : ∀ I, Rps X.K I dvs dds) (xo : XOk X Δ)
    (ha : PDa X Δ (e :: es) tl dl) (own : OwnName x := by decide) (read : Args1 X pos e es := by exact ⟨rfl, rfl⟩) : PDe X Δ (.Call (.Name x p) (e :: es) [] pos) (tCallSD (liftSp X.K sp) dvs (WE Δ.W) tl) (dCall Δ.Wd sp dds dl) :=
  ⟨pe_callSD F hr hg hm hk hb hd (passAt xo.takes) ha.1 own read.1 read.2, snd_call xo hdd ha.2⟩
theorem pd_call (F : FnOk X.prog X.w X.K X.mg X.base (L2.CX X.prog X.w) k f fd ps (liftSp X.K sp)) (hr : Room k X.A) (hg : Gl X x) (hm : X.mg x = some (.ref f)) (hk : PySem.W.keepIn X.K (.ref f) = true) (hb : Binds X.K fd ps []) (xo : XOk X Δ)
    (ha : PDa X Δ (e :: es) tl dl) (own : OwnName x := by decide) (read : Args1 X pos e es := by exact ⟨rfl, rfl⟩) : PDe X Δ (.Call (.Name x p) (e :: es) [] pos) (tCallSD (liftSp X.K sp) [] (WE Δ.W) tl) (dCall Δ.Wd sp [] dl) :=
  pd_callD F hr hg hm hk hb .nil (fun _ => .nil) xo ha own read

/-! ### a call's beginning and its end, seen from the caller -/
/-- f(..) of a module's name: the name gives v, and what calls v answers -/
theorem by_name {v : Value} {args : List Expr} {kws : List Keyword} {t : TE} (hg : Gl X x) (hm : X.mg x = some v) (own : OwnName x)
    (go : ∀ pins s σ H Q, Inv X pins σ H s → t σ H Q → wpAny (model X.prog X.w) X.A (callWith pos v [] (backTo pos (starEach args X.env)) (backToKw pos (keywordEach kws X.env))) (EP X pins σ Q) X.xe s) : PE X (.Call (.Name x p) args kws pos) t :=
  ⟨fun pins s σ H Q I q => wpAny_Call_Name_kw (ld_glob I hg hm (go pins s σ H Q I q) own)⟩
/-- what a called thing hands back or raises, turned to the caller's own posts -/
theorem at_end {CX : CXT} {E : XK} {pins : List (Addr × Obj)} {σ : L2.St} {H : Hp} {s : Shared} {Q : VK} {R : Value → Shared → Prop} (hx : PassesAt CX X σ E) (I : Inv X pins σ H s) (back : ∀ u s', EP X pins σ Q u s' → R u s') :
    ∀ r s', CR CX X.stack X.prog X.w H s Q E r s' → (match r with | .ok (.ret u) => R u s' | .ok _ => False | .error e => X.xe e s')
  | .ok (.ret u), s', h => back u s' (I.after h)
  | .error e, s', h => hx pins H s e s' I h
  | .ok .next, _, h => h.elim
  | .ok .brk, _, h => h.elim
  | .ok .cont, _, h => h.elim

/-! ### f(e, .., k = v, ..) -/
theorem run_fnKS {pins : List (Addr × Obj)} {σ : L2.St} {H : Hp} {s : Shared} {Q : VK} {us ws : List Value} {vs zs : List V} {CX : CXT} {n : Nat} {ks : List Str} {g : List Value → List Value → List Value} {gV : List V → List V → List V} {sp : Sp} {E : L2.St → XK} (F : FnOk X.prog X.w X.K X.mg X.base CX k f fd ps sp) (hr : Room k X.A) (hb : KBn X.K fd ps n ks g gV) (hx : PassesAt CX X σ (E σ))
    (I : Inv X pins σ H s) (r : Vals vs us) (rz : Vals zs ws) (l1 : vs.length = n) (l2 : zs.length = ks.length) (h : sp (gV vs zs) H Q (E σ)) : wpAny (model X.prog X.w) X.A (call (.ref f) us (ks.zip ws)) (EP X pins σ Q) X.xe s :=
  have there := F.run X.A X.stack s H ⟨us, ks.zip ws⟩ _ _ Q (E σ) hr I.env0 (hb.to s us ws I.kIn (r.length ▸ l1) (rz.length ▸ l2)) (hb.rel r rz) h
  wpAny_call (codeAny_mono there (at_end hx I fun _ _ q => q))
def tCallKS (n m : Nat) (sp : Sp) (gV : List V → List V → List V) (E : L2.St → XK) (t tk : TA) : TE := fun σ H Q => t σ H fun vs H1 => tk σ H1 fun zs H2 => vs.length = n ∧ zs.length = m ∧ sp (gV vs zs) H2 Q (E σ)
/-- how e, .., k = v, .. is read: no part is starred, the names are ks -/
abbrev ArgsK (X : Cx) (pos : Pos) (e : Expr) (es : List Expr) (kws : List Keyword) (ks : List Str) : Prop :=
  (starEach (e :: es) X.env = (false, eval e X.env) :: starEach es X.env) ∧ (((backTo pos (starEach (e :: es) X.env)).any (·.1) || (backToKw pos (keywordEach kws X.env)).any (·.1.isNone)) = false) ∧
  ((backToKw pos (keywordEach kws X.env)).all (·.1.isSome) = true) ∧ (backToKw pos (keywordEach kws X.env)).filterMap (·.1) = ks
theorem pe_callKS {CX : CXT} {n : Nat} {ks : List Str} {g : List Value → List Value → List Value} {gV : List V → List V → List V} {sp : Sp} {E : L2.St → XK} {kws : List Keyword} {t tk : TA} (F : FnOk X.prog X.w X.K X.mg X.base CX k f fd ps sp) (hr : Room k X.A) (hg : Gl X x) (hm : X.mg x = some (.ref f)) (hk : PySem.W.keepIn X.K (.ref f) = true) (hb : KBn X.K fd ps n ks g gV) (hx : ∀ σ, PassesAt CX X σ (E σ))
    (ha : PA X (e :: es) t) (hkw : PK X kws tk) (own : OwnName x) (read : ArgsK X pos e es kws ks) : PE X (.Call (.Name x p) (e :: es) kws pos) (tCallKS n ks.length sp gV E t tk) := by
  obtain ⟨first, plain, named, rfl⟩ := read
  refine by_name hg hm own fun pins s σ H Q I q => PySem.W.callWith_KW I.ok.mod.kin hk named ?_ plain first
  refine thn (ha.run pos pins s σ H _ I q) fun _ s1 ⟨_, H1, I1, r1, q1⟩ => thn (hkw.run pos pins s1 σ H1 _ I1 q1) fun _ _ ⟨_, _, I2, r2, l1, l2, q2⟩ => ?_
  exact ⟨I2.kIn, run_fnKS F hr hb (hx σ) I2 r1 r2 l1 l2 q2⟩
def PDk (X : Cx) (Δ : DC) (kws : List Keyword) (t : TA) (d : DA) : Prop := PK X kws t ∧ SndA X Δ t d
theorem pdk_nil : PDk X Δ [] tNil dNil := ⟨pk_nil, fun I M H σ env G Q Qd k q => k [] M I H [] (Ext.refl I) G .nil q⟩
theorem pdk_cons {nm : Option Str} {kpos : Pos} {kws : List Keyword} (ha : PDe X Δ e ta da) (hr : PDk X Δ kws tl dl) : PDk X Δ (⟨nm, e, kpos⟩ :: kws) (tCons ta tl) (dCons da dl) := by
  obtain ⟨pa, sa⟩ := ha
  obtain ⟨pr, sr⟩ := hr
  refine ⟨pk_cons pa pr, fun I M H σ env G Q Qd k q => sa I M H σ env G _ _ (fun d M1 I1 H1 v x1 G1 r1 q1 => sr I1 M1 H1 σ env G1 _ _ (fun ds M2 I2 H2 vs x2 G2 r2 q2 => ?_) q1) q⟩
  exact k _ _ _ _ _ (x1.trans x2) G2 (.cons (r1.ext x2) r2) q2
def dCallK (Wd : DW) (n m : Nat) (sp : SpD) (gD : List D → List D → List D) (dl dk : DA) : DE := fun env M Q => dl env M fun us M1 => dk env M1 fun zs M2 => us.length = n ∧ zs.length = m ∧ sp (gD us zs) M2 Q fun c fs M' => Wd c fs env M'
theorem pd_callK {n : Nat} {ks : List Str} {g : List Value → List Value → List Value} {gV : List V → List V → List V} {gD : List D → List D → List D} {kws : List Keyword} {tk : TA} {dk : DA} (F : FnOk X.prog X.w X.K X.mg X.base (L2.CX X.prog X.w) k f fd ps (liftSp X.K sp)) (hr : Room k X.A) (hg : Gl X x) (hm : X.mg x = some (.ref f)) (hk : PySem.W.keepIn X.K (.ref f) = true) (hb : KBn X.K fd ps n ks g gV)
    (hgd : ∀ {I vs us zs ws}, Rps X.K I vs us → Rps X.K I zs ws → Rps X.K I (gV vs zs) (gD us ws)) (xo : XOk X Δ)
    (ha : PDa X Δ (e :: es) tl dl) (hkw : PDk X Δ kws tk dk) (own : OwnName x := by decide) (read : ArgsK X pos e es kws ks := by exact ⟨rfl, rfl, rfl, rfl⟩) :
    PDe X Δ (.Call (.Name x p) (e :: es) kws pos) (tCallKS n ks.length (liftSp X.K sp) gV (WE Δ.W) tl tk) (dCallK Δ.Wd n ks.length sp gD dl dk) :=
  ⟨pe_callKS F hr hg hm hk hb (passAt xo.takes) ha.1 hkw.1 own read, fun I M H σ env G Q Qd k q => ha.2 I M H σ env G _ _ (fun us M1 I1 H1 vs x1 G1 r1 q1 => hkw.2 I1 M1 H1 σ env G1 _ _ (fun zs M2 I2 H2 ws x2 G2 r2 ⟨l1, l2, q2⟩ =>
    ⟨r1.length.trans l1, r2.length.trans l2, lift_at xo G2 (hgd (r1.ext x2) r2) q2 fun d M' I' H' v x => k d M' I' H' v ((x1.trans x2).trans x)⟩) q1) q⟩

/-! ### o.m(e, ..), o.f, o.f = e, C(e, ..) -/
def insOf (M : Mem) : D → Option (Addr × List (Str × D))
  | .ins C fs => some (C, fs)
  | .ref p => match M p with | some (.ins C fs) => some (C, fs) | _ => none
  | _ => none
theorem insOf_ref {M : Mem} {p C : Addr} {fs} (h : M p = some (.ins C fs)) : insOf M (.ref p) = some (C, fs) := by simp [insOf, h]
theorem ins_of {K : PySem.W.Frag} {F I H : Hp} {M : Mem} (A : At K F I M H) {v : V} {d : D} {C fs} (r : Rp K I v d) (h : insOf M d = some (C, fs)) : ∃ a dx fvs, v = .ref a ∧ H a = some (.ins C dx fvs) ∧ RpF K I fvs fs := by
  cases d with
  | ins C' fs' => cases h; obtain ⟨a, dx, fvs, rfl, h1, _, h2⟩ := r.ins_inv; exact ⟨a, dx, fvs, rfl, A.ex _ _ h1, h2⟩
  | ref p =>
    have h' : (match M p with | some (.ins C fs) => some (C, fs) | _ => none) = some (C, fs) := h
    split at h'
    · rename_i e
      cases h'
      obtain ⟨_, dx, fvs, h1, _, _, h2⟩ := A.mem _ _ e
      exact ⟨p, dx, fvs, r.ref_inv, h1, h2⟩
    · cases h'
  | _ => cases h
/-- how o.m(es) is read -/
abbrev AsMeth (X : Cx) (o : Expr) (m : Str) (apos pos : Pos) (es : List Expr) (pl : Sem Bool) : Prop := eval (.Call (.Attribute o m apos) es [] pos) X.env =
  (eval o X.env >>= fun v => standAt apos.atName >>= fun _ => holding [v] (getMethod v m pl) >>= fun
    | (g, pre) => callWith pos g pre (backTo pos (starEach es X.env)) (backToKw pos (keywordEach [] X.env)))
/-- o.m(..) of an own class's instance: the def is found, the instance goes ahead of what is handed on -/
def tOfIns (C : Addr) (m : Str) (ta : TE) (go : V → TE) : TE := fun σ H Q => ta σ H fun x H1 => ∃ a dx fs, x = .ref a ∧ H1 a = some (.ins C dx fs) ∧ fs.lookup m = none ∧ go x σ H1 Q
theorem by_ins {pl : Sem Bool} {go : V → TE} (he : PE X o ta) (c : Cls X.K C) (hm : Meth X.K C m f) (read : AsMeth X o m apos pos es pl)
    (on : ∀ pins s σ H Q a, Inv X pins σ H s → go (.ref a) σ H Q → wpAny (model X.prog X.w) X.A (callWith pos (.ref f) [.ref a] (backTo pos (starEach es X.env)) (backToKw pos (keywordEach [] X.env))) (EP X pins σ Q) X.xe s) : PE X (.Call (.Attribute o m apos) es [] pos) (tOfIns C m ta go) :=
  ⟨fun pins s σ H Q I q => PySem.W.methodCall_KW (pl := pl) (thn (he.run pins s σ H _ I q) fun
    | _, s1, ⟨_, H1, I1, same, a, dx, fs, isRef, at1, free, q1⟩ => by
      cases isRef
      cases same
      exact getmeth_ok I1 at1 c hm free (on pins s1 σ H1 Q a I1 q1)) read⟩
abbrev tMethS (C : Addr) (m : Str) (sp : Sp) (dvs : List V) (E : L2.St → XK) (ta : TE) (t : TA) : TE := tOfIns C m ta fun x σ H Q => t σ H fun vs H2 => sp (x :: (vs ++ dvs)) H2 Q (E σ)
theorem pe_methS {CX : CXT} {sp : Sp} {E : L2.St → XK} {t : TA} {pl : Sem Bool} (he : PE X o ta) (c : Cls X.K C) (hm : Meth X.K C m f) (F : FnOk X.prog X.w X.K X.mg X.base CX k f fd ps sp) (hr : Room k X.A) (hb : Binds X.K fd ps ds) (hd : Vals dvs ds) (hx : ∀ σ, PassesAt CX X σ (E σ)) (ha : PA X (e :: es) t)
    (args : Args1 X pos e es) (read : AsMeth X o m apos pos (e :: es) pl) : PE X (.Call (.Attribute o m apos) (e :: es) [] pos) (tMethS C m sp dvs E ta t) :=
  by_ins he c hm read fun pins s σ H Q a I q => PySem.W.callWith_K I.ok.mod.kin hm.kp (thn (ha.run pos pins s σ H _ I q) fun us _ ⟨vs, _, I2, r, q2⟩ => ⟨I2.kIn, run_fnSD (us := .ref a :: us) (vs := .ref a :: vs) F hr hb hd (hx σ) I2 (.cons rfl r) q2⟩) args.1 args.2
theorem pe_methS0 {CX : CXT} {sp : Sp} {E : L2.St → XK} {pl : Sem Bool} (he : PE X o ta) (c : Cls X.K C) (hm : Meth X.K C m f) (F : FnOk X.prog X.w X.K X.mg X.base CX k f fd ps sp) (hr : Room k X.A) (hb : Binds X.K fd ps ds) (hd : Vals dvs ds) (hx : ∀ σ, PassesAt CX X σ (E σ))
    (read : AsMeth X o m apos pos [] pl) : PE X (.Call (.Attribute o m apos) [] [] pos) (tMethS C m sp dvs E ta tNil) :=
  by_ins he c hm read fun pins s σ H Q a I q => PySem.W.callWith_K0 I.kIn hm.kp (run_fnSD (us := [.ref a]) (vs := [.ref a]) F hr hb hd (hx σ) I (.cons rfl .nil) q)
def dMeth (Wd : DW) (C : Addr) (m : Str) (sp : SpD) (dds : List D) (da : DE) (dl : DA) : DE := fun env M Q => da env M fun x M1 => ∃ fs, insOf M1 x = some (C, fs) ∧ fs.lookup m = none ∧ dl env M1 fun us M2 => sp (x :: (us ++ dds)) M2 Q fun c fs M' => Wd c fs env M'
theorem snd_meth (xo : XOk X Δ) (hdd : ∀ I, Rps X.K I dvs dds) (so : SndE X Δ to da) (sl : SndA X Δ tl dl) : SndE X Δ (tMethS C m (liftSp X.K sp) dvs (WE Δ.W) to tl) (dMeth Δ.Wd C m sp dds da dl) := fun I M H σ env G Q Qd k q =>
  so I M H σ env G _ _ (fun x M1 I1 H1 v x1 G1 r1 ⟨fs, e1, e2, q1⟩ => by
    obtain ⟨a, dx, fvs, rfl, h1, h2⟩ := ins_of G1.at_ r1 e1
    refine ⟨a, dx, fvs, rfl, h1, h2.none e2, sl I1 M1 H1 σ env G1 _ _ (fun us M2 I2 H2 vs x2 G2 r2 q2 => ?_) q1⟩
    exact lift_at xo G2 (.cons (r1.ext x2) (r2.append (hdd I2))) q2 fun d M' I' H' v x => k d M' I' H' v ((x1.trans x2).trans x)) q
theorem pd_meth {pl : Sem Bool} (ho : PDe X Δ o to da) (c : Cls X.K C) (hm : Meth X.K C m f) (F : FnOk X.prog X.w X.K X.mg X.base (L2.CX X.prog X.w) k f fd ps (liftSp X.K sp)) (hr : Room k X.A) (hb : Binds X.K fd ps []) (xo : XOk X Δ) (ha : PDa X Δ (e :: es) tl dl)
    (args : Args1 X pos e es := by exact ⟨rfl, rfl⟩) (read : AsMeth X o m apos pos (e :: es) pl := by rfl) : PDe X Δ (.Call (.Attribute o m apos) (e :: es) [] pos) (tMethS C m (liftSp X.K sp) [] (WE Δ.W) to tl) (dMeth Δ.Wd C m sp [] da dl) :=
  ⟨pe_methS ho.1 c hm F hr hb .nil (passAt xo.takes) ha.1 args read, snd_meth xo (fun _ => .nil) ho.2 ha.2⟩
theorem pd_meth0 {pl : Sem Bool} (ho : PDe X Δ o to da) (c : Cls X.K C) (hm : Meth X.K C m f) (F : FnOk X.prog X.w X.K X.mg X.base (L2.CX X.prog X.w) k f fd ps (liftSp X.K sp)) (hr : Room k X.A) (hb : Binds X.K fd ps []) (xo : XOk X Δ)
    (read : AsMeth X o m apos pos [] pl := by rfl) : PDe X Δ (.Call (.Attribute o m apos) [] [] pos) (tMethS C m (liftSp X.K sp) [] (WE Δ.W) to tNil) (dMeth Δ.Wd C m sp [] da dNil) :=
  ⟨pe_methS0 ho.1 c hm F hr hb .nil (passAt xo.takes) read, snd_meth xo (fun _ => .nil) ho.2 pda_nil.2⟩
def dFld (C : Addr) (f : Str) (da : DE) : DE := fun env M Q => da env M fun x M1 => ∃ fs, insOf M1 x = some (C, fs) ∧ ∃ d, fs.lookup f = some d ∧ Q d M1
theorem pd_fld {fn : Str} (ho : PDe X Δ o to da) (cl : Cls X.K C) (na : NoAttr X.K C fn) (hb : attributeBase o fn X.env (eval o X.env) = eval o X.env := by rfl) : PDe X Δ (.Attribute o fn pos) (tFld X.K to fn) (dFld C fn da) :=
  ⟨pe_fld ho.1 hb, fun I M H σ env G Q Qd k q => ho.2 I M H σ env G _ _ (fun x M1 I1 H1 v x1 G1 r1 ⟨fs, e1, d, e2, q1⟩ => by
    obtain ⟨a, dx, fvs, rfl, h1, h2⟩ := ins_of G1.at_ r1 e1
    obtain ⟨u, e3, ru⟩ := h2.look e2
    exact ⟨a, C, dx, fvs, u, rfl, h1, cl, na, e3, k _ _ _ _ _ x1 G1 ru q1⟩) q⟩
def dSetF (C : Addr) (f : Str) (da de : DE) : DS := fun T env M => de env M fun d M1 => da env M1 fun x M2 => ∃ p fs, x = .ref p ∧ M2 p = some (.ins C fs) ∧ fs.length < 1000 ∧ T.nx env (mset M2 p (.ins C (putD f d fs)))
theorem pds_fld {fn : Str} {value : Expr} {pos' : Pos} (ho : PDe X Δ o to da) (hv : PDe X Δ value te de) (cl : Cls X.K C) (na : NoAttr X.K C fn) (hs : swapsWith value (some (.Attribute o fn pos')) pos.line X.env = pure false := by rfl) :
    PDs X Δ (.Assign [.Attribute o fn pos'] value pos) (sFld X.K to te fn) (dSetF C fn da de) :=
  ⟨ps_fld ho.1 hv.1 hs, fun I M H σ env G T Td R q => hv.2 I M H σ env G _ _ (fun d M1 I1 H1 v x1 G1 r1 q1 => ho.2 I1 M1 H1 σ env G1 _ _ (fun x M2 I2 H2 u x2 G2 r2 ⟨p, fs, e1, e2, hl, q2⟩ => by
    subst e1
    rw [r2.ref_inv]
    obtain ⟨hI, dx, fvs, h1, h2, h3, h4⟩ := G2.at_.mem _ _ e2
    refine ⟨p, C, dx, fvs, rfl, h1, cl, na, by rw [h4.length]; exact hl, R.nx _ _ _ _ _ (x1.trans x2) (G2.go (Ext.refl I2) (G2.at_.write (m' := .ins C (putD fn d fs)) e2 (fun _ z => by cases z) ⟨dx, putF fn v fvs, upd_same, ?_, ?_, (RpF.put (r1.ext x2) h4)⟩)) q2⟩
    · rw [upd_ne (mem_ne2 h3 e2 (by intro z; cases z))]; exact h2
    · rw [mset_ne (mem_ne2 h3 e2 (by intro z; cases z))]; exact h3) q1) q⟩
def tMakeS (C : Addr) (sp : Sp) (dvs : List V) (E : L2.St → XK) (t : TA) : TE := fun σ H Q => t σ H fun vs H1 => ∀ x dx, H1 x = none → H1 dx = none → dx ≠ x →
  sp (.ref x :: (vs ++ dvs)) (upd (upd H1 dx (.own x)) x (.ins C dx [])) (fun v H2 => v = .non ∧ Q (.ref x) H2) (E σ)
theorem run_makeS {CX : CXT} {sp : Sp} {E : XK} {pins : List (Addr × Obj)} {σ : L2.St} {H : Hp} {s : Shared} {Q : VK} {us : List Value} {vs : List V} (mk : Mk X.K C f) (F : FnOk X.prog X.w X.K X.mg X.base CX k f fd ps sp) (hr : Room (k + 1) X.A) (hb : Binds X.K fd ps ds) (hd : Vals dvs ds)
    (hx : PassesAt CX X σ E) (I : Inv X pins σ H s) (r : Vals vs us)
    (all : ∀ x dx, H x = none → H dx = none → dx ≠ x → sp (.ref x :: (vs ++ dvs)) (upd (upd H dx (.own x)) x (.ins C dx [])) (fun v H2 => v = .non ∧ Q (.ref x) H2) E) : wpAny (model X.prog X.w) X.A (call (.ref C) us) (EP X pins σ Q) X.xe s := by
  have nw : ∃ N, N = s.heap.objs.size := ⟨_, rfl⟩
  obtain ⟨N, eN⟩ := nw
  have free : ∀ b, N ≤ b → H b = none := fun b z => I.hok.fresh (eN ▸ z)
  have here := all (N + 1) N (free _ (Nat.le_succ N)) (free N (Nat.le_refl N)) (Nat.ne_of_lt (Nat.lt_succ_self N))
  subst eN
  have made := Inv.made (C := C) I
  have given : Vals (V.ref (s.heap.objs.size + 1) :: (vs ++ dvs)) (Value.ref (s.heap.objs.size + 1) :: us ++ ds) := .cons rfl (r.append hd)
  have run := F.run _ X.stack _ _ ⟨Value.ref (s.heap.objs.size + 1) :: us, []⟩ _ _ _ E (hr.make C us []) (made.env0.make C us []) (hb _ (Value.ref (s.heap.objs.size + 1) :: us) made.kIn (given.length ▸ F.len _ _ _ _ here)) given here
  exact wpAny_call (make_map (f := f) I.kIn mk.makes mk.init (beq_iff_eq.mp mk.fn) (codeAny_mono run fun
    | .ok (.ret u), s', h => by
      obtain ⟨_, H', I3, isNon, rfl, q⟩ := made.after h
      exact ⟨isNon, .ref _, H', I3, rfl, q⟩
    | .error e, s', h => hx pins _ _ e s' made h
    | .ok .next, _, h => h.elim
    | .ok .brk, _, h => h.elim
    | .ok .cont, _, h => h.elim))
theorem pe_makeS {CX : CXT} {sp : Sp} {E : L2.St → XK} {t : TA} (mk : Mk X.K C f) (F : FnOk X.prog X.w X.K X.mg X.base CX k f fd ps sp) (hr : Room (k + 1) X.A) (hg : Gl X x) (hm : X.mg x = some (.ref C)) (hb : Binds X.K fd ps ds) (hd : Vals dvs ds) (hx : ∀ σ, PassesAt CX X σ (E σ))
    (ha : PA X (e :: es) t) (own : OwnName x) (args : Args1 X pos e es) : PE X (.Call (.Name x p) (e :: es) [] pos) (tMakeS C sp dvs E t) :=
  by_name hg hm own fun pins s σ H Q I q => PySem.W.callWith_K I.ok.mod.kin mk.kp (thn (ha.run pos pins s σ H _ I q) fun _ _ ⟨_, _, I1, r, q1⟩ => ⟨I1.kIn, run_makeS mk F hr hb hd (hx σ) I1 r q1⟩) args.1 args.2
def dMake (Wd : DW) (C : Addr) (sp : SpD) (dl : DA) : DE := fun env M Q => dl env M fun us M1 => ∀ p dx, M1 p = none → M1 dx = none → dx ≠ p →
  sp (.ref p :: us) (mset (mset M1 dx (.own p)) p (.ins C [])) (fun v M2 => v = .non ∧ FzV Q (.ref p) M2) fun c fs M' => FzV (fun _ M'' => Wd c fs env M'') .non M'
theorem pd_make (Mk' : Mk X.K C f) (F : FnOk X.prog X.w X.K X.mg X.base (L2.CX X.prog X.w) k f fd ps (liftSp X.K sp)) (hr : Room (k + 1) X.A) (hg : Gl X x) (hm : X.mg x = some (.ref C)) (hb : Binds X.K fd ps []) (xo : XOk X Δ)
    (ha : PDa X Δ (e :: es) tl dl) (own : OwnName x := by decide) (args : Args1 X pos e es := by exact ⟨rfl, rfl⟩) : PDe X Δ (.Call (.Name x p) (e :: es) [] pos) (tMakeS C (liftSp X.K sp) [] (WE Δ.W) tl) (dMake Δ.Wd C sp dl) := by
  refine ⟨pe_makeS Mk' F hr hg hm hb .nil (passAt xo.takes) ha.1 own args, fun I M H σ env G Q Qd k q => ha.2 I M H σ env G _ _ (fun us M1 I1 H1 vs x1 G1 r1 q1 => ?_) q⟩
  intro p dx hp hdx hne
  have A1 := G1.at_
  have A2 : At X.K Δ.F I1 (mset (mset M1 dx (.own p)) p (.ins C [])) (upd (upd H1 dx (.own p)) p (.ins C dx [])) := by
    have B := A1.newM hdx (.own p) (.own p) ⟨_, upd_same, .inl rfl⟩
    refine B.newM (by rw [upd_ne hne.symm]; exact hp) (.ins C dx []) (.ins C []) ⟨dx, [], upd_same, by rw [upd_ne hne, upd_same], by rw [mset_ne hne, mset_same], .nil⟩
  refine ⟨Δ.F, I1, _, .ref p :: us, _, _, A2, .cons (.ref p) (by rw [List.append_nil]; exact r1), q1 p dx (A1.freeM hp) (A1.freeM hdx) hne, fun d M' I' H' v x A r' q => ?_, fun c fs M' I' H' dd x A er w => ?_⟩
  · obtain ⟨e1, q⟩ := q
    subst e1
    refine ⟨r'.non_inv, ?_⟩
    obtain ⟨I2, M2, d', x2, A3, r3, q3⟩ := fzv q A (v := .ref p) (.ref p)
    exact k _ _ _ _ _ ((x1.trans x).trans x2) (G1.go (x.trans x2) A3) r3 q3
  · obtain ⟨I2, M2, d', x2, A3, r3, q3⟩ := fzv w A (v := .non) .non
    refine xo.link (G1.go (x.trans x2) A3) ?_ q3
    cases dd with
    | none => exact er
    | some dd => obtain ⟨fvs, e1, e2⟩ := er; exact ⟨fvs, x2.xd e1, e2.ext x2⟩

/-! ### raise -/
def dRaise (Wd : DW) (C : Addr) : DS := fun _ env M => Wd (.ref C) [] env M
theorem pds_raise {mt : Str} {j : Nat} {p2 cpos : Pos} {bmB : List Value} {B newId initId : String} (F : ExcBaseFacts B newId initId bmB) (q : PySem.W.excIn X.K C bmB newId = true) (gC : X.mg x = some (.ref C)) (kC : PySem.W.keepIn X.K (.ref C) = true) (r : Raises X (.ref C)) (hg : Gl X x) (hc : X.calm = true) (xo : XOk X Δ)
    (hdb : (x == ("__debug__" : Str)) = false := by decide) : PDs X Δ (.Raise (some (.Call (.Name x p) [.Constant (.str mt) j p2] [] cpos)) none pos) (fun _ σ H => Δ.W (.ref C) none σ H) (dRaise Δ.Wd C) :=
  ⟨ps_raise hc xo.takes (pmk_own F q gC kC r hg hdb), fun I M H σ env G T Td R q => xo.link G (d := none) rfl q⟩
theorem At.same {K : PySem.W.Frag} {F I H : Hp} {M : Mem} (A : At K F I M H) {H' : Hp} (hH : ∀ b u, H b = some u → H' b = some u) : At K F I M H' where
  nt := A.nt
  ex := fun b u e => hH _ _ (A.ex _ _ e)
  mem := fun b u e => ⟨(A.mem _ _ e).1, (A.mem _ _ e).2.mono (Ext.refl I) (fun c v _ hc => hH _ _ hc) (fun c hc => hc)⟩
  fr := fun b u e => let ⟨z, h2, h3⟩ := A.fr _ _ e; ⟨hH _ _ z, h2, h3⟩
/-- the promise of an exception's __init__(self, f): self.f = f -/
def spOex (K : PySem.W.Frag) (fn : Str) : Sp := fun vs H Q _ => ∃ (a C : Addr) (y : V), vs = [.ref a, y] ∧ OexC K C ∧ PySem.W.findIn K (.ref C) fn = some none ∧ H a = some (exo a C none) ∧ ∀ dx, H dx = none → dx ≠ a → Q .non (upd (upd H dx (exd dx [(fn, y)])) a (exo a C (some dx)))
def dRaiseI (Wd : DW) (C : Addr) (fn : Str) (de : DE) : DS := fun _ env M => de env M fun d M1 => Wd (.ref C) [(fn, d)] env M1
theorem pds_raiseI {fn : Str} {fI : Addr} {cpos : Pos} (T : OexC X.K C) (iC : PySem.W.findIn X.K (.ref C) "__init__" = some (some (.ref fI))) (tI : PySem.W.typeIn X.K (.ref fI) = some (.type "function"))
    (F1 : FnOk X.prog X.w X.K X.mg X.base CX0 k fI fd ps (spOex X.K fn)) (hno : PySem.W.findIn X.K (.ref C) fn = some none) (hr : Room (k + 1) X.A) (hb : Binds X.K fd ps []) (hg : Gl X x) (hm : X.mg x = some (.ref C)) (hc : X.calm = true) (xo : XOk X Δ) (ha : PDe X Δ e te de)
    (hdb : (x == ("__debug__" : Str)) = false := by decide) (he : starEach [e] X.env = (false, eval e X.env) :: starEach [] X.env := by rfl) (hpl : (backTo cpos (starEach [] X.env)).any (·.1) = false := by rfl) :
    PDs X Δ (.Raise (some (.Call (.Name x p) [e] [] cpos)) none pos) (fun _ σ H => tMkO C (spOex X.K fn) [] (tCons te tNil) σ H fun cls d H' => Δ.W cls d σ H') (dRaiseI Δ.Wd C fn de) := by
  refine ⟨ps_raise hc xo.takes (pmk_oex T iC tI F1 hr hb .nil (fun _ _ _ _ _ _ _ h => h.elim) hg hm (pa_cons ha.1 pa_nil he) hdb he hpl), fun I M H σ env G T' Td R q => ha.2 I M H σ env G _ _ (fun d M1 I1 H1 v x1 G1 r1 q1 => ?_) q⟩
  refine ⟨by show 1 ≤ 1000; omega, fun a ha1 => ⟨a, C, v, rfl, T, hno, upd_same, fun dx hdx hne => ⟨rfl, dx, [(fn, v)], upd_same, by rw [upd_ne hne, upd_same], by rw [upd_ne hne] at hdx; exact hdx, ?_⟩⟩⟩
  have hdx' : H1 dx = none := by rw [upd_ne hne] at hdx; exact hdx
  have x2 : Ext I1 (upd I1 dx (.xd [(fn, v)])) := Ext.new (G1.at_.freeI hdx')
  refine xo.link (fs := [(fn, d)]) (d := some dx) (G1.go x2 ((G1.at_.newI hdx' (.xd [(fn, v)])).same (H' := _) fun b u hb0 => ?_)) ⟨[(fn, v)], upd_same, .cons (r1.ext x2) .nil⟩ q1
  have hda : dx ≠ a := hne
  have hba : b ≠ a := fun z => by rw [z, upd_ne hda.symm, ha1] at hb0; cases hb0
  by_cases hb : b = dx
  · subst hb
    rw [upd_same] at hb0 ⊢
    exact hb0
  · rw [upd_ne hb] at hb0
    rw [upd_ne hb, del_ne hba, upd_ne hba, upd_ne hb, upd_ne hba]
    exact hb0
end

/-! ### a def of the text keeps its promise -/
def startD (N : List Str) (ds : List D) : Env := ds.map some ++ List.replicate (N.length - ds.length) none
theorem envr_start {K : PySem.W.Frag} {I : Hp} {N : List Str} {vs : List V} {ds : List D} (r : Rps K I vs ds) : EnvR K I (L2.start N vs) (startD N ds) := by
  unfold L2.start startD
  have hl := r.length
  refine ⟨by simp [hl], fun i d h => ?_⟩
  by_cases hi : i < ds.length
  · rw [List.getElem?_append_left (by simpa using hi)] at h
    rw [List.getElem?_append_left (by rw [List.length_map, hl]; exact hi)]
    rw [List.getElem?_map] at h ⊢
    cases e : ds[i]? with
    | none => rw [e] at h; exact nomatch h
    | some d' =>
      rw [e] at h
      cases h
      obtain ⟨v, hv, rv⟩ := r.get e
      exact ⟨v, by rw [hv]; rfl, rv⟩
  · rw [List.getElem?_append_right (by simpa using hi)] at h
    rw [List.getElem?_replicate] at h
    split at h <;> cases h
section
variable {base : Heap} {mg : Str → Option Value} {K : PySem.W.Frag} {P : Program} {w : World}
/-- the ends of a def's body: what is handed back may be fixed, what is left let go -/
def ends (Q : DKt) : EndsD := { nx := fun _ M => FzV Q .non M, rt := FzV Q }
theorem fn_mk {x qual : Str} {st : Stmt} {f : Addr} {fd : FuncData} {N ps : List Str} {k : Nat} {sp : SpD} (F : Fun K x qual st f fd) (S : FnScope N ps (defScope st)) (len : ∀ ds M Q E, sp ds M Q E → ds.length = ps.length)
    (hbody : ∀ (X : Cx) (Δ : DC) (M : Mem) (ds : List D) (Q : DKt) (E : DX), (∃ cdv A outer s H Ev, X = cxOf (L2.CX P w) P w K mg base N qual (defScope st) f cdv A outer s H Ev ∧ Room k (A.deeper (envOfC qual (defScope st) s.heap.objs.size f cdv))) → XOk X Δ → (Δ.Wd = fun c fs _ M' => FzV (fun _ M'' => E c fs M'') .non M') → sp ds M Q E →
      ∃ t d, PDss X Δ (defBody st) t d ∧ d (ends Q) (startD N ds) M) : FnOk P w K mg base (L2.CX P w) (k + 1) f fd ps (liftSp K sp) := by
  refine F.okX S (fun vs H Q E ⟨F0, I, M, ds, Qd, Ed, A, r, h, _⟩ => r.length.trans (len _ _ _ _ h)) (fun cdv A outer s H vs Q E hr ⟨F0, I, M, ds, Qd, Ed, At0, r, h, hn, hx⟩ => ?_)
  have hX : ∃ X, X = cxOf (L2.CX P w) P w K mg base N qual (defScope st) f cdv A outer s H E := ⟨_, rfl⟩
  obtain ⟨X, eX⟩ := hX
  have XK : X.K = K := by rw [eX]; rfl
  have tk : Takes X (fun cls d _ H => E cls d H) := by
    subst eX
    exact takes_of rfl rfl rfl rfl
  obtain ⟨t, d, pd, q⟩ := hbody X { F := F0, I0 := I, W := fun cls d _ H => E cls d H, Wd := fun c fs _ M' => FzV (fun _ M'' => Ed c fs M'') .non M' } M ds Qd Ed ⟨cdv, A, outer, s, H, E, eX, hr⟩ ⟨tk, fun {I1 M1 H1 σ1 env1 c fs dd} G er w => by
      rw [XK] at G er
      obtain ⟨I2, M2, d', x2, A3, r3, q3⟩ := fzv w G.at_ (v := .non) .non
      refine hx c fs M2 I2 H1 dd (G.base.trans x2) A3 ?_ q3
      cases dd with
      | none => exact er
      | some dd => obtain ⟨fvs, e1, e2⟩ := er; exact ⟨fvs, x2.xd e1, e2.ext x2⟩⟩ rfl h
  subst eX
  refine ⟨t, pd.1, pd.2 I M H _ _ ⟨Ext.refl I, At0, envr_start r⟩ _ (ends Qd) ⟨fun env' M' I' H' σ' x G q' => ?_, fun _ _ _ _ _ _ _ q' => q', fun _ _ _ _ _ _ _ q' => q', fun d' M' I' H' v x b A' r' q' => ?_⟩ q⟩
  · obtain ⟨I2, M2, d', x2, A3, r3, q3⟩ := fzv q' G.at_ (v := .non) .non
    exact hn _ _ _ _ _ (x.trans x2) A3 r3 q3
  · obtain ⟨I2, M2, d', x2, A3, r3, q3⟩ := fzv q' A' r'
    exact hn _ _ _ _ _ (x.trans x2) A3 r3 q3
end
end BB

set_option maxHeartbeats 2000000

/-! enumerate of one thing, whatever begins -/
namespace BBE
open PySem
theorem meets_enum1 {v : Value} {o : Obj} {H : Heap → Prop} (B : Begins v o H) :
    Meets (Builtin.«enumerate.__new__» ⟨[.type "enumerate", v], []⟩) (fun _ R s => H s.heap ∧
      R (.ok (.ret (.ref (s.heap.push o).objs.size))) { s with heap := (s.heap.push o).push { cls := .type "enumerate", data := .fields #[.none, .bool false, .ref s.heap.objs.size, rawInt 0, .none, .none] } }) :=
  .of_wp fun prog w A R ⟨hp, g, d, tk, os⟩ ⟨hv, back⟩ => by
    have sub := sub_enumerate
    have starts : ∀ {A' : Around} {E Q : Value → Shared → Prop}, Q (.ref hp.objs.size) ⟨hp.push o, g, d, tk, os⟩ → wpAny (model prog w) A' (pyIter v) Q E ⟨hp, g, d, tk, os⟩ := fun q => B.iter prog w _ _ _ _ hv q
    wp_walk using starts
    refine wpAny_stack_any (fun _ => wpAny_pure ?_)
    split
    · rename_i c _ _ _ _ _
      rcases Bool.eq_false_or_eq_true (c == Value.type "enumerate") with z | z <;> (rw [z]; wp_walk using starts; exact ⟨_, rfl, back⟩)
    · wp_walk using starts
      exact ⟨_, rfl, back⟩
theorem enum1 {prog : Program} {w : World} {A : Around} {E : Value → Shared → Prop} {s : Shared} {v : Value} {o : Obj} {H : Heap → Prop} {Q : Value → Shared → Prop} (B : Begins v o H) (hv : H s.heap)
    (h : ∀ h', IsEnum h' (s.heap.objs.size + 1) s.heap.objs.size 0 .none → h'.get? s.heap.objs.size = some o → h'.objs.size = s.heap.objs.size + 2 → (∀ b u, s.heap.get? b = some u → h'.get? b = some u) → Q (.ref (s.heap.objs.size + 1)) { s with heap := h' }) :
    wpAny (model prog w) A (call (.type "enumerate") [v]) Q E s := by
  refine callType_new F.called_enumerate (by decide) (F.typeCall_enumerate_1 _) (F.newCall_enumerate_1 _) (fun obj => F.args_object_init_2 obj _) F.entry_enumerate_new (meets_enum1 B) ⟨hv, ?_⟩
  have sz : (s.heap.push o).objs.size = s.heap.objs.size + 1 := Heap.size_push ..
  rw [sz]
  have ie : IsEnum ((s.heap.push o).push { cls := .type "enumerate", data := .fields #[.none, .bool false, .ref s.heap.objs.size, rawInt 0, .none, .none] }) (s.heap.objs.size + 1) s.heap.objs.size 0 .none := by
    rw [← sz]
    exact Heap.get?_push_size (s.heap.push o) rfl
  exact ⟨⟨_, ie, rfl⟩, h _ ie (Heap.get?_push_of_some _ (Heap.get?_push_size _ B.free)) (by rw [Heap.size_push, sz]) fun b u x => Heap.get?_push_of_some _ (Heap.get?_push_of_some _ x)⟩
end BBE

namespace BB
open L2 PySem PySem.Spec PyProof.Rows

/-! ### rows that are walked: what zip and enumerate give out -/
/-- the sources stand as they stood -/
def SeqAt' (K : PySem.W.Frag) (H : Hp) (a : Addr) (xs : List V) : Prop := SqL K H a xs ∨ SqT K H a xs
def ItR (side : Hp → Prop) (n : Nat) (row : Nat → List V) : It :=
  ⟨fun i H => side H ∧ i < n, fun i H v H' => ∃ T, v = .ref T ∧ H T = none ∧ H' = upd H T (.tup (row i)), fun i H => side H ∧ i = n⟩
theorem turn_rows {P : Program} {w : World} {K : PySem.W.Frag} {tg : Expr} {it : Addr} {fp wr : List Addr} {n : Nat} {row : Nat → List V} {side : Hp → Prop} {tn : Nat → Heap → Prop}
    (mem : it ∈ fp) (wr_fp : ∀ b ∈ wr, b ∈ fp) (obj : ∀ i h, tn i h → ∀ b ∈ fp, ∃ o, h.get? b = some o ∧ ∀ v, o.data ≠ .cell v) (keep : ∀ i h h', tn i h → (∀ b ∈ fp, ∀ o, h.get? b = some o → h'.get? b = some o) → tn i h')
    (big : ∀ i, i < n → (row i).length ≤ 1000)
    (step : ∀ (X : Cx), X.prog = P → X.w = w → X.K = K → X.A.handled = none → ∀ i pins s σ H, Inv X pins σ H s → side H → tn i s.heap → ∃ fp' Y St, GoesN P w X.A tg it fp' wr n Y St ∧ St i s.heap ∧ (∀ h, St (i + 1) h → tn (i + 1) h) ∧
      ∀ h₀ v h, Y i h₀ v h → i < n → ∃ T vals, v = .ref T ∧ h₀.objs.size ≤ T ∧ Vals (row i) vals.toList ∧ h.IsTuple T vals)
    (slf : ∀ (A : Around) (i : Nat) (s : Shared) (Q E : Value → Shared → Prop), tn i s.heap → Q (.ref it) s → wpAny (model P w) A (pyIter (.ref it)) Q E s) : Turn P w K tg (ItR side n row) fp it tn where
  mem := mem
  obj := obj
  keep := keep
  self := slf
  item := fun X hP hw hK hc i pins s σ H E I hf st ⟨hs, hi⟩ => by
    obtain ⟨fp', Y, St, G, st', toTn, hY⟩ := step X hP hw hK (I.ok.hd hc) i pins s σ H I hs st
    subst hP hw hK
    refine G.goes i s (fun u s2 => ∃ x H', Inv X pins σ H' s2 ∧ RelV x u ∧ (ItR side n row).yld i H x H' ∧ tn (i + 1) s2.heap ∧ ∀ b ∈ fp, H' b = none) E hi st' fun v h' tk y st2 hk _ => ?_
    obtain ⟨T, vals, rfl, hT, rv, ht⟩ := hY _ _ _ y hi
    have new : ObjOk X.prog X.w (upd H T (.tup (row i))) h' T (.tup (row i)) := ⟨Nat.le_trans (big i hi) (by rw [sizeLine_eq]; omega), vals.toList, rv, (show vals.toList.toArray = vals from Array.toArray_toList) ▸ ht⟩
    refine ⟨.ref T, _, I.turnedNew (t' := tk) (ch := wr) hk (fun b hb => hf b (wr_fp b hb)) hT new, rfl, ⟨T, rfl, I.hok.fresh hT, rfl⟩, toTn _ st2, fun b hb => ?_⟩
    obtain ⟨o, ho, _⟩ := obj i s.heap st b hb
    rw [upd_ne (Nat.ne_of_lt (Nat.lt_of_lt_of_le (Heap.lt_size ho) hT))]
    exact (hf b hb).1
  done := fun X hP hw hK hc i pins s σ H E I hf st ⟨hs, atEnd⟩ => by
    subst atEnd
    obtain ⟨fp', Y, St, G, st', toTn, hY⟩ := step X hP hw hK (I.ok.hd hc) i pins s σ H I hs st
    subst hP hw hK
    exact G.stops s _ E st' fun h' tk hk _ => I.turnedL (t' := tk) (ch := wr) hk fun b hb => hf b (wr_fp b hb)
/-- a list (false) or a tuple (true): its iterator, its items -/
def itObj (t : Bool) (a : Addr) : Obj := match t with
  | true => { cls := .type "tuple_iterator", data := .fields #[.ref a, .int 0 0] }
  | false => { cls := .type "list_iterator", data := .fields #[.ref a, .int 0 0] }
def itAt (t : Bool) (h : Heap) (it a : Addr) (i : Nat) : Prop := match t with
  | true => h.IsTupleIter it a i
  | false => h.IsListIter it a i
def conAt (t : Bool) (h : Heap) (a : Addr) (its : Array Value) : Prop := match t with
  | true => h.IsTuple a its
  | false => h.IsList a its
def sqAt (t : Bool) (K : PySem.W.Frag) (H : Hp) (a : Addr) (xs : List V) : Prop := match t with
  | true => SqT K H a xs
  | false => SqL K H a xs
theorem con_of {X : Cx} {pins : List (Addr × Obj)} {σ : L2.St} {H : Hp} {s : Shared} {t : Bool} {a : Addr} {xs : List V} (I : Inv X pins σ H s) (h : sqAt t X.K H a xs) : ∃ its : List Value, Vals xs its ∧ conAt t s.heap a its.toArray := by
  cases t with
  | true => obtain ⟨its, rv, p, _⟩ := I.tuple h; exact ⟨its, rv, p⟩
  | false => obtain ⟨its, rv, p, _⟩ := I.list h; exact ⟨its, rv, p.isList⟩
theorem begins_of (t : Bool) (a : Addr) (its : Array Value) : Begins (.ref a) (itObj t a) fun h => conAt t h a its := by
  cases t with
  | true => exact begins_tuple a its
  | false => exact begins_list a its
theorem draws_of {prog : Program} {w : World} {A : Around} (t : Bool) (hh : A.handled = none) (it a : Addr) (hne : a ≠ it) (its : Array Value) : Draws prog w A it [it, a] its.size (fun i v => its[i]? = some v) fun i h => itAt t h it a i ∧ conAt t h a its := by
  cases t with
  | true => exact Draws.tuple hh it a hne its
  | false => exact Draws.list hh it a hne its
theorem itAt_obj {t : Bool} {h : Heap} {it a : Addr} {i : Nat} (x : itAt t h it a i) : ∃ o, h.get? it = some o ∧ ∀ v, o.data ≠ .cell v := by
  cases t <;> (obtain ⟨o, ho, _, hd⟩ := x; exact ⟨o, ho, fun v z => by rw [hd] at z; cases z⟩)
theorem itAt_keep {t : Bool} {h h' : Heap} {it a : Addr} {i : Nat} (x : itAt t h it a i) (k : ∀ o, h.get? it = some o → h'.get? it = some o) : itAt t h' it a i := by
  cases t <;> (obtain ⟨o, ho, hr⟩ := x; exact ⟨o, k o ho, hr⟩)
theorem itAt_new {t : Bool} {h : Heap} {it a : Addr} (e : h.get? it = some (itObj t a)) : itAt t h it a 0 := by
  cases t <;> exact ⟨_, e, rfl, rfl⟩
theorem conAt_lt {t : Bool} {h : Heap} {a : Addr} {its : Array Value} (x : conAt t h a its) : a < h.objs.size := by
  cases t with
  | true => obtain ⟨o, ho, _⟩ := x; exact Heap.lt_size ho
  | false => obtain ⟨o, ho, _⟩ := x; exact Heap.lt_size ho
theorem vals_at {xs : List V} {its : List Value} {i : Nat} {u : Value} (r : Vals xs its) (h : its.toArray[i]? = some u) : ∃ x, xs[i]? = some x ∧ RelV x u := by
  have hi : i < its.length := by
    have := (Array.getElem?_eq_some_iff.mp h).1
    simpa using this
  obtain ⟨w, hw, rw'⟩ := r.get (i := i) (x := xs[i]'(by rw [r.length]; exact hi)) (by simp [r.length, hi])
  have e : w = u := by
    have h2 : its[i]? = some u := by simpa using h
    rw [hw] at h2
    exact Option.some.inj h2
  subst e
  exact ⟨_, by simp [r.length, hi], rw'⟩
section
variable {X : Cx}
/-- an iterator's own objects, where all of them lie behind what stood -/
theorem feet {X : Cx} {pins : List (Addr × Obj)} {σ : L2.St} {H : Hp} {s : Shared} {fp : List Addr} (I : Inv X pins σ H s) (beyond : ∀ b ∈ fp, s.heap.objs.size ≤ b) : ∀ b ∈ fp, FpOk X pins H b :=
  fun b mem => have z := beyond b mem; I.fpOk z (I.hok.fresh z)
theorem turn_enumA {P : Program} {w : World} {K : PySem.W.Frag} {elts : List Expr} {kk : Nat} {tpos : Pos} {t : Bool} {a e it : Addr} {xs : List V} (hei : e ≠ it) (hea : e ≠ a) (hia : a ≠ it) :
    Turn P w K (.Tuple elts kk tpos) (ItR (fun H => sqAt t K H a xs) xs.length fun i => [.int (i : Nat), xs.getD i .non]) [e, it] e (fun i h => (∃ old, IsEnum h e it ((0 : Int) + (i : Int)) old) ∧ itAt t h it a i) := by
  refine turn_rows (wr := [e, it]) (by simp) (fun b hb => hb) (fun i h st b hb => ?_) (fun i h h' st k => ?_) (fun i _ => by simp) (fun X hP hw hK hh i pins s σ H I hs st => ?_) (fun A i s Q E st q => ?_)
  · obtain ⟨⟨old, he⟩, hit⟩ := st
    rcases (by simpa using hb : b = e ∨ b = it) with rfl | rfl
    · exact ⟨_, he, fun v z => nomatch z⟩
    · exact itAt_obj hit
  · obtain ⟨⟨old, he⟩, hit⟩ := st
    exact ⟨⟨old, k e (by simp) _ he⟩, itAt_keep hit fun o q => k it (by simp) o q⟩
  · subst hP hw hK
    obtain ⟨its, rv, hc⟩ := con_of I hs
    have D := draws_of (prog := X.prog) (w := X.w) (A := X.A.in1) t hh it a hia its.toArray
    have hl : its.toArray.size = xs.length := by rw [List.size_toArray]; exact rv.length.symm
    have G := GoesN.enumFrom (elts := elts) (x1 := kk) (pos := tpos) 0 D e hei (by simp [hei, hea]) (by simp)
    rw [hl] at G
    refine ⟨_, _, _, G, ⟨st.1, st.2, hc⟩, fun h x => ⟨x.1, x.2.1⟩, fun h₀ v h y hi => ?_⟩
    obtain ⟨T, tk, u, rfl, hT, hu, ht⟩ := y
    obtain ⟨x, hx, rx⟩ := vals_at rv hu
    refine ⟨T, _, rfl, hT, ?_, ht⟩
    have hx' : xs.getD i .non = x := by rw [List.getD_eq_getElem?_getD, hx]; rfl
    show Vals [.int (i : Nat), xs.getD i .non] [.int (0 + (i : Int)) tk, u]
    rw [hx', Int.zero_add]
    exact .cons ⟨tk, rfl⟩ (.cons rx .nil)
  · obtain ⟨⟨old, he⟩, _⟩ := st
    exact wpAny_pyIter_enum he q
def iEnumA (K : PySem.W.Frag) (ta : TA) : TI := fun σ H R => ta σ H fun vs H1 => ∃ t a xs, vs = [.ref a] ∧ sqAt t K H1 a xs ∧ R (ItR (fun H => sqAt t K H a xs) xs.length fun i => [.int (i : Nat), xs.getD i .non]) H1
theorem pi_enumA {e : Expr} {ta : TA} {p pos tpos : Pos} {elts : List Expr} {kk : Nat} (hg : Gl X "enumerate") (hm : X.mg "enumerate" = none) (ha : PA X [e] ta) (hs : starEach [e] X.env = [(false, eval e X.env)] := by rfl) :
    PI X (.Tuple elts kk tpos) (.Call (.Name "enumerate" p) [e] [] pos) (iEnumA X.K ta) := by
  constructor
  intro pins s σ H R I h
  refine Call_ (ld_blt I hg hm boot_enumerate (PyProof.Rows.callWith_type1 (thn (ha.run pos pins s σ H _ I h) fun us s1 hh => ?_) hs rfl))
  obtain ⟨vs, H1, I1, r1, t, a, xs, rfl, hq, q⟩ := hh
  cases r1 with
  | cons r rr =>
    cases rr
    cases r
    obtain ⟨its, rv, hc⟩ := con_of I1 hq
    have hlt := conAt_lt hc
    refine BBE.enum1 (begins_of t a its.toArray) hc fun h' he hit hsz hk => wpAny_pyIter_enum he ?_
    refine ⟨s1.heap.objs.size + 1, [s1.heap.objs.size + 1, s1.heap.objs.size], _, _, H1, rfl, I1.kept (t' := s1.toks) hk, turn_enumA (t := t) (a := a) (Nat.succ_ne_self _) (by have : a < s1.heap.objs.size + 1 := Nat.lt_succ_of_lt hlt; exact (Nat.ne_of_gt this)) (Nat.ne_of_lt hlt), ⟨⟨.none, he⟩, itAt_new hit⟩, feet I1 fun b mem => ?_, q⟩
    rcases (by simpa using mem : b = s1.heap.objs.size + 1 ∨ b = s1.heap.objs.size) with rfl | rfl
    · exact Nat.le_add_right _ _
    · exact Nat.le_refl _
theorem turn_zipA {P : Program} {w : World} {K : PySem.W.Frag} {elts : List Expr} {kk : Nat} {tpos : Pos} {t1 t2 : Bool} {a1 a2 N : Addr} {xs ys : List V} (h1 : a1 < N) (h2 : a2 < N) :
    Turn P w K (.Tuple elts kk tpos) (ItR (fun H => sqAt t1 K H a1 xs ∧ sqAt t2 K H a2 ys) (min xs.length ys.length) fun i => [xs.getD i .non, ys.getD i .non]) [N + 4, N + 2, N + 3, N, N + 1] (N + 4)
      (fun i h => IsZip h (N + 4) (N + 2) (N + 3) .none ∧ IsTupOf2 h (N + 2) (.ref N) (.ref (N + 1)) ∧ (∃ x y, IsTupOf2 h (N + 3) x y) ∧ itAt t1 h N a1 i ∧ itAt t2 h (N + 1) a2 i) := by
  refine turn_rows (wr := [N + 4, N + 3, N, N + 1]) (by simp) (fun b hb => ?_) (fun i h st b hb => ?_) (fun i h h' st k => ?_) (fun i _ => by simp) (fun X hP hw hK hh i pins s σ H I hs st => ?_) (fun A i s Q E st q => ?_)
  · simp only [List.mem_cons, List.not_mem_nil, or_false] at hb ⊢
    rcases hb with z | z | z | z <;> simp [z]
  · obtain ⟨z1, z2, ⟨x, y, z3⟩, z4, z5⟩ := st
    simp only [List.mem_cons, List.not_mem_nil, or_false] at hb
    rcases hb with rfl | rfl | rfl | rfl | rfl
    · exact ⟨_, z1, fun v z => nomatch z⟩
    · exact ⟨_, z2, fun v z => nomatch z⟩
    · exact ⟨_, z3, fun v z => nomatch z⟩
    · exact itAt_obj z4
    · exact itAt_obj z5
  · obtain ⟨z1, z2, ⟨x, y, z3⟩, z4, z5⟩ := st
    exact ⟨k _ (by simp) _ z1, k _ (by simp) _ z2, ⟨x, y, k _ (by simp) _ z3⟩, itAt_keep z4 fun o q => k _ (by simp) o q, itAt_keep z5 fun o q => k _ (by simp) o q⟩
  · subst hP hw hK
    obtain ⟨its1, rv1, hc1⟩ := con_of I hs.1
    obtain ⟨its2, rv2, hc2⟩ := con_of I hs.2
    have D1 := draws_of (prog := X.prog) (w := X.w) (A := X.A.in1) t1 hh N a1 (Nat.ne_of_lt h1) its1.toArray
    have D2 := draws_of (prog := X.prog) (w := X.w) (A := X.A.in1) t2 hh (N + 1) a2 (Nat.ne_of_lt (Nat.lt_succ_of_lt h2)) its2.toArray
    have G := GoesN.zip2 (elts := elts) (x1 := kk) (pos := tpos) (zip_sep2 (N := N) (fp1 := [a1]) (fp2 := [a2]) (by simpa using h1) (by simpa using h2)) D1 D2
    have l1 : its1.toArray.size = xs.length := by rw [List.size_toArray]; exact rv1.length.symm
    have l2 : its2.toArray.size = ys.length := by rw [List.size_toArray]; exact rv2.length.symm
    rw [l1, l2] at G
    obtain ⟨z1, z2, z3, z4, z5⟩ := st
    refine ⟨_, _, _, G, ⟨z1, z2, z3, ⟨z4, hc1⟩, ⟨z5, hc2⟩⟩, fun h x => ⟨x.1, x.2.1, x.2.2.1, x.2.2.2.1.1, x.2.2.2.2.1⟩, fun h₀ v h y hi => ?_⟩
    obtain ⟨T, u1, u2, rfl, hT, hu1, hu2, ht⟩ := y
    obtain ⟨x1, hx1, rx1⟩ := vals_at rv1 hu1
    obtain ⟨x2, hx2, rx2⟩ := vals_at rv2 hu2
    refine ⟨T, _, rfl, hT, ?_, ht⟩
    have e1 : xs.getD i .non = x1 := by rw [List.getD_eq_getElem?_getD, hx1]; rfl
    have e2 : ys.getD i .non = x2 := by rw [List.getD_eq_getElem?_getD, hx2]; rfl
    show Vals [xs.getD i .non, ys.getD i .non] [u1, u2]
    rw [e1, e2]
    exact .cons rx1 (.cons rx2 .nil)
  · exact wpAny_pyIter_zip st.1 q
def iZip2A (K : PySem.W.Frag) (ta : TA) : TI := fun σ H R => ta σ H fun vs H1 => ∃ t1 t2 a1 a2 xs ys, vs = [.ref a1, .ref a2] ∧ sqAt t1 K H1 a1 xs ∧ sqAt t2 K H1 a2 ys ∧
  R (ItR (fun H => sqAt t1 K H a1 xs ∧ sqAt t2 K H a2 ys) (min xs.length ys.length) fun i => [xs.getD i .non, ys.getD i .non]) H1
theorem pi_zip2A {e1 e2 : Expr} {ta : TA} {p pos tpos : Pos} {elts : List Expr} {kk : Nat} (hg : Gl X "zip") (hm : X.mg "zip" = none) (ha : PA X [e1, e2] ta)
    (hs : starEach [e1, e2] X.env = (false, eval e1 X.env) :: starEach [e2] X.env := by rfl) (hpl : (backTo pos (starEach [e2] X.env)).any (·.1) = false := by rfl) :
    PI X (.Tuple elts kk tpos) (.Call (.Name "zip" p) [e1, e2] [] pos) (iZip2A X.K ta) := by
  constructor
  intro pins s σ H R I h
  refine Call_ (ld_blt I hg hm PyProof.Rows.boot_zip (PyProof.Rows.callWith_type1 (thn (ha.run pos pins s σ H _ I h) fun us s1 hh => ?_) hs hpl))
  obtain ⟨vs, H1, I1, r1, t1, t2, a1, a2, xs, ys, rfl, hq1, hq2, q⟩ := hh
  cases r1 with
  | cons r rr =>
    cases rr with
    | cons r' rr =>
      cases rr
      cases r
      cases r'
      obtain ⟨its1, rv1, hc1⟩ := con_of I1 hq1
      obtain ⟨its2, rv2, hc2⟩ := con_of I1 hq2
      refine zip_begins2 (begins_of t1 a1 its1.toArray) (begins_of t2 a2 its2.toArray) hc1 hc2 fun h' hz hTI hTO g1 g2 hsz hk => wpAny_pyIter_zip hz ?_
      refine ⟨s1.heap.objs.size + 4, _, _, _, H1, rfl, I1.kept (t' := s1.toks) hk, turn_zipA (conAt_lt hc1) (conAt_lt hc2), ⟨hz, hTI, ⟨_, _, hTO⟩, itAt_new g1, itAt_new g2⟩, feet I1 fun b mem => ?_, q⟩
      simp only [List.mem_cons, List.not_mem_nil, or_false] at mem
      rcases mem with rfl | rfl | rfl | rfl | rfl
      · exact Nat.le_add_right _ _
      · exact Nat.le_add_right _ _
      · exact Nat.le_add_right _ _
      · exact Nat.le_refl _
      · exact Nat.le_add_right _ _
theorem turn_zip3A {P : Program} {w : World} {K : PySem.W.Frag} {elts : List Expr} {kk : Nat} {tpos : Pos} {t1 t2 t3 : Bool} {a1 a2 a3 N : Addr} {xs ys zs : List V} (h1 : a1 < N) (h2 : a2 < N) (h3 : a3 < N) :
    Turn P w K (.Tuple elts kk tpos) (ItR (fun H => sqAt t1 K H a1 xs ∧ sqAt t2 K H a2 ys ∧ sqAt t3 K H a3 zs) (min (min xs.length ys.length) zs.length) fun i => [xs.getD i .non, ys.getD i .non, zs.getD i .non]) [N + 5, N + 3, N + 4, N, N + 1, N + 2] (N + 5)
      (fun i h => IsZip h (N + 5) (N + 3) (N + 4) .none ∧ IsTupOf3 h (N + 3) (.ref N) (.ref (N + 1)) (.ref (N + 2)) ∧ (∃ x y z, IsTupOf3 h (N + 4) x y z) ∧ itAt t1 h N a1 i ∧ itAt t2 h (N + 1) a2 i ∧ itAt t3 h (N + 2) a3 i) := by
  refine turn_rows (wr := [N + 5, N + 4, N, N + 1, N + 2]) (by simp) (fun b hb => ?_) (fun i h st b hb => ?_) (fun i h h' st k => ?_) (fun i _ => by simp) (fun X hP hw hK hh i pins s σ H I hs st => ?_) (fun A i s Q E st q => ?_)
  · simp only [List.mem_cons, List.not_mem_nil, or_false] at hb ⊢
    rcases hb with z | z | z | z | z <;> simp [z]
  · obtain ⟨z1, z2, ⟨x, y, z, z3⟩, z4, z5, z6⟩ := st
    simp only [List.mem_cons, List.not_mem_nil, or_false] at hb
    rcases hb with rfl | rfl | rfl | rfl | rfl | rfl
    · exact ⟨_, z1, fun v z => nomatch z⟩
    · exact ⟨_, z2, fun v z => nomatch z⟩
    · exact ⟨_, z3, fun v z => nomatch z⟩
    · exact itAt_obj z4
    · exact itAt_obj z5
    · exact itAt_obj z6
  · obtain ⟨z1, z2, ⟨x, y, z, z3⟩, z4, z5, z6⟩ := st
    exact ⟨k _ (by simp) _ z1, k _ (by simp) _ z2, ⟨x, y, z, k _ (by simp) _ z3⟩, itAt_keep z4 fun o q => k _ (by simp) o q, itAt_keep z5 fun o q => k _ (by simp) o q, itAt_keep z6 fun o q => k _ (by simp) o q⟩
  · subst hP hw hK
    obtain ⟨its1, rv1, hc1⟩ := con_of I hs.1
    obtain ⟨its2, rv2, hc2⟩ := con_of I hs.2.1
    obtain ⟨its3, rv3, hc3⟩ := con_of I hs.2.2
    have D1 := draws_of (prog := X.prog) (w := X.w) (A := X.A.in1) t1 hh N a1 (Nat.ne_of_lt h1) its1.toArray
    have D2 := draws_of (prog := X.prog) (w := X.w) (A := X.A.in1) t2 hh (N + 1) a2 (Nat.ne_of_lt (Nat.lt_succ_of_lt h2)) its2.toArray
    have D3 := draws_of (prog := X.prog) (w := X.w) (A := X.A.in1) t3 hh (N + 2) a3 (Nat.ne_of_lt (Nat.lt_succ_of_lt (Nat.lt_succ_of_lt h3))) its3.toArray
    have G := GoesN.zip3 (elts := elts) (x1 := kk) (pos := tpos) (zip_sep3 (N := N) (fp1 := [a1]) (fp2 := [a2]) (fp3 := [a3]) (by simpa using h1) (by simpa using h2) (by simpa using h3)) D1 D2 D3
    have l1 : its1.toArray.size = xs.length := by rw [List.size_toArray]; exact rv1.length.symm
    have l2 : its2.toArray.size = ys.length := by rw [List.size_toArray]; exact rv2.length.symm
    have l3 : its3.toArray.size = zs.length := by rw [List.size_toArray]; exact rv3.length.symm
    rw [l1, l2, l3] at G
    obtain ⟨z1, z2, z3, z4, z5, z6⟩ := st
    refine ⟨_, _, _, G, ⟨z1, z2, z3, ⟨z4, hc1⟩, ⟨z5, hc2⟩, ⟨z6, hc3⟩⟩, fun h x => ⟨x.1, x.2.1, x.2.2.1, x.2.2.2.1.1, x.2.2.2.2.1.1, x.2.2.2.2.2.1⟩, fun h₀ v h y hi => ?_⟩
    obtain ⟨T, u1, u2, u3, rfl, hT, hu1, hu2, hu3, ht⟩ := y
    obtain ⟨x1, hx1, rx1⟩ := vals_at rv1 hu1
    obtain ⟨x2, hx2, rx2⟩ := vals_at rv2 hu2
    obtain ⟨x3, hx3, rx3⟩ := vals_at rv3 hu3
    refine ⟨T, _, rfl, hT, ?_, ht⟩
    have e1 : xs.getD i .non = x1 := by rw [List.getD_eq_getElem?_getD, hx1]; rfl
    have e2 : ys.getD i .non = x2 := by rw [List.getD_eq_getElem?_getD, hx2]; rfl
    have e3 : zs.getD i .non = x3 := by rw [List.getD_eq_getElem?_getD, hx3]; rfl
    show Vals [xs.getD i .non, ys.getD i .non, zs.getD i .non] [u1, u2, u3]
    rw [e1, e2, e3]
    exact .cons rx1 (.cons rx2 (.cons rx3 .nil))
  · exact wpAny_pyIter_zip st.1 q
def iZip3A (K : PySem.W.Frag) (ta : TA) : TI := fun σ H R => ta σ H fun vs H1 => ∃ t1 t2 t3 a1 a2 a3 xs ys zs, vs = [.ref a1, .ref a2, .ref a3] ∧ sqAt t1 K H1 a1 xs ∧ sqAt t2 K H1 a2 ys ∧ sqAt t3 K H1 a3 zs ∧
  R (ItR (fun H => sqAt t1 K H a1 xs ∧ sqAt t2 K H a2 ys ∧ sqAt t3 K H a3 zs) (min (min xs.length ys.length) zs.length) fun i => [xs.getD i .non, ys.getD i .non, zs.getD i .non]) H1
theorem pi_zip3A {e1 e2 e3 : Expr} {ta : TA} {p pos tpos : Pos} {elts : List Expr} {kk : Nat} (hg : Gl X "zip") (hm : X.mg "zip" = none) (ha : PA X [e1, e2, e3] ta)
    (hs : starEach [e1, e2, e3] X.env = (false, eval e1 X.env) :: starEach [e2, e3] X.env := by rfl) (hpl : (backTo pos (starEach [e2, e3] X.env)).any (·.1) = false := by rfl) :
    PI X (.Tuple elts kk tpos) (.Call (.Name "zip" p) [e1, e2, e3] [] pos) (iZip3A X.K ta) := by
  constructor
  intro pins s σ H R I h
  refine Call_ (ld_blt I hg hm PyProof.Rows.boot_zip (PyProof.Rows.callWith_type1 (thn (ha.run pos pins s σ H _ I h) fun us s1 hh => ?_) hs hpl))
  obtain ⟨vs, H1, I1, r1, t1, t2, t3, a1, a2, a3, xs, ys, zs, rfl, hq1, hq2, hq3, q⟩ := hh
  cases r1 with
  | cons r rr =>
    cases rr with
    | cons r' rr =>
      cases rr with
      | cons r'' rr =>
        cases rr
        cases r
        cases r'
        cases r''
        obtain ⟨its1, rv1, hc1⟩ := con_of I1 hq1
        obtain ⟨its2, rv2, hc2⟩ := con_of I1 hq2
        obtain ⟨its3, rv3, hc3⟩ := con_of I1 hq3
        refine zip_begins3 (begins_of t1 a1 its1.toArray) (begins_of t2 a2 its2.toArray) (begins_of t3 a3 its3.toArray) hc1 hc2 hc3 fun h' hz hTI hTO g1 g2 g3 hsz hk => wpAny_pyIter_zip hz ?_
        refine ⟨s1.heap.objs.size + 5, _, _, _, H1, rfl, I1.kept (t' := s1.toks) hk, turn_zip3A (conAt_lt hc1) (conAt_lt hc2) (conAt_lt hc3), ⟨hz, hTI, ⟨_, _, _, hTO⟩, itAt_new g1, itAt_new g2, itAt_new g3⟩, feet I1 fun b mem => ?_, q⟩
        simp only [List.mem_cons, List.not_mem_nil, or_false] at mem
        rcases mem with rfl | rfl | rfl | rfl | rfl | rfl
        · exact Nat.le_add_right _ _
        · exact Nat.le_add_right _ _
        · exact Nat.le_add_right _ _
        · exact Nat.le_refl _
        · exact Nat.le_add_right _ _
        · exact Nat.le_add_right _ _
end
end BB

set_option maxHeartbeats 4000000

namespace BBE
open L2 PySem PySem.Spec PyProof.Rows
/-- tuple * 1 is the tuple itself; tuple * 0 and less is a new, empty one -/
theorem tup_mul01 (l : Addr) (items : Array Value) (n : Nat) (dd : Option Addr) (sl : Array (Option Value)) (x : Int) (u : Tok) :
    Meets (Builtin.«tuple.__mul__» ⟨[.ref l, .int x u], []⟩) (fun _ R s => s.heap.get? l = some ⟨.type "tuple", dd, .seq items n, sl⟩ ∧
      (x = 1 ∧ R (.ok (.ret (.ref l))) s ∨ (x ≤ 0 ∧ -(2 ^ 63) ≤ x ∧ items.isEmpty = false) ∧ R (.ok (.ret (.ref s.heap.objs.size))) { s with heap := s.heap.push { cls := .type "tuple", data := .seq #[] } })) :=
  .of_wp fun prog w A R ⟨hp, g, d, tk, os⟩ ⟨at1, two⟩ => by
    have ix := AutoSeq1.idx_int
    rcases two with ⟨one, back⟩ | ⟨⟨low, least, some1⟩, back⟩
    · subst one
      have same : (items.isEmpty || (1 : Int) == 1) = true := by cases items.isEmpty <;> rfl
      wp_walk using wpAny_loadPart' at1
      repeat (first
        | exact ⟨_, rfl, back⟩
        | (refine wpAny_ite_true (decide_eq_true same) ?_
           wp_walk using wpAny_loadPart' at1))
    · have inside : (decide (x < -(2 ^ 63)) || decide (x ≥ 2 ^ 63)) = false := by simp only [Bool.or_eq_false_iff, decide_eq_false_iff_not]; omega
      have other : (items.isEmpty || x == 1) = false := by simp only [some1, Bool.false_or, beq_eq_false_iff_ne]; omega
      have none1 : (decide (x ≤ 0) || items.isEmpty) = true := by simp only [low, decide_true, Bool.true_or]
      wp_walk using wpAny_loadPart' at1
      repeat (first
        | exact ⟨_, rfl, back⟩
        | (refine wpAny_ite_false (decide_eq_false (inside ▸ Bool.false_ne_true)) ?_
           wp_walk using wpAny_loadPart' at1)
        | (refine wpAny_ite_false (decide_eq_false (other ▸ Bool.false_ne_true)) ?_
           wp_walk using wpAny_loadPart' at1)
        | (refine wpAny_ite_true (decide_eq_true none1) ?_
           wp_walk using wpAny_loadPart' at1))
end BBE

namespace BB
open L2 PySem PySem.Spec PyProof.Rows
/-! ### tuple * int, whatever the int -/
def rRep01 (K : PySem.W.Frag) : R2 := fun x y H Q => ∃ l k xs, x = .ref l ∧ y = .int k ∧ SqT K H l xs ∧ (k = 1 ∧ Q (.ref l) H ∨ (xs ≠ [] ∧ k ≤ 0 ∧ -(2 ^ 63) ≤ k) ∧ ∀ p, H p = none → Q (.ref p) (upd H p (.tup [])))
section
variable {X : Cx}
theorem op_rep01 : OpR X (binaryOp .Mult) (rRep01 X.K)
  | pins, s, σ, H, _, _, _, _, Q, I, rx, ry, ⟨l, k, xs, isRef, isInt, hT, two⟩ => by
    cases isRef; cases isInt; cases rx
    obtain ⟨t, rfl⟩ := ry
    obtain ⟨its, same, ⟨⟨cls, dd, data, sl⟩, at1, isTup, n, isSeq⟩, _⟩ := I.tuple hT
    cases isTup; cases isSeq
    have filled : xs ≠ [] → its.toArray.isEmpty = false := fun some1 => by
      cases its with
      | nil => cases same; exact absurd rfl some1
      | cons a b => rfl
    refine wpAny_binaryOp_repeat_ref (T := "tuple") (U := "int") (by decide) ⟨_, at1, rfl⟩ (fun s' => typeIs_int s' k t) noFill_tuple_mul F.fills_int_mul F.slot_int_rmul repeat_tuple F.slot_int_index.lookup ?_
    refine call_meets F.slot_int_rmul (typeIs_int s k t) F.entry_int_rmul (F.args_int_rmul_2 _ _) (int_rmul_tuple k t l its.toArray n dd sl) ⟨at1, rfl, ⟨_, at1, rfl⟩, ?_⟩
    refine call_meets F.slot_tuple_mul ⟨_, at1, rfl⟩ F.entry_tuple_mul (F.args_tuple_mul_2 _ _) (BBE.tup_mul01 l its.toArray n dd sl k t) ⟨at1, ?_⟩
    rcases two with ⟨one, q⟩ | ⟨⟨some1, low, least⟩, q⟩
    · exact .inl ⟨one, .ref l, H, I.tok _, rfl, q⟩
    · exact .inr ⟨⟨low, least, filled some1⟩, .ref s.heap.objs.size, _, I.laid (t' := s.toks) (o := .tup []) (fun _ _ e => Heap.get?_push_of_some _ e) (Nat.le_refl _) ⟨Nat.zero_le _, [], .nil, IsTup.new _ _⟩, rfl, q _ (I.hok.fresh (Nat.le_refl _))⟩
/-- two times and more -/
def rRepB (K : PySem.W.Frag) : R2 := fun x y H Q => ∃ l k xs, x = .ref l ∧ y = .int k ∧ SqT K H l xs ∧ (xs ≠ [] ∧ 2 ≤ k ∧ k ≤ 4000 ∧ xs.length ≤ 1000) ∧ ∀ p, H p = none → Q (.ref p) (upd H p (.tup (List.replicate k.toNat xs).flatten))
theorem op_repB : OpR X (binaryOp .Mult) (rRepB X.K)
  | pins, s, σ, H, _, _, _, _, Q, I, rx, ry, ⟨l, k, xs, isRef, isInt, hT, ⟨some1, low, high, few⟩, q⟩ => by
    cases isRef; cases isInt; cases rx
    obtain ⟨t, rfl⟩ := ry
    obtain ⟨its, same, ⟨⟨cls, dd, data, sl⟩, at1, isTup, n, isSeq⟩, _⟩ := I.tuple hT
    cases isTup; cases isSeq
    have len : its.toArray.size = xs.length := (show its.toArray.size = its.length by simp).trans same.length.symm
    have filled : its.toArray.isEmpty = false := by
      cases its with
      | nil => cases same; exact absurd rfl some1
      | cons a b => rfl
    have nat : k.toNat * xs.length ≤ 4000 * 1000 := Nat.mul_le_mul (by omega) few
    have all : ((its.toArray.size : Nat) : Int) * k ≤ 4000000 := by
      have e : k = ((k.toNat : Nat) : Int) := by omega
      have e2 : ((xs.length : Nat) : Int) * ((k.toNat : Nat) : Int) = ((k.toNat * xs.length : Nat) : Int) := by rw [Nat.mul_comm]; exact (Int.natCast_mul _ _).symm
      rw [len, e, e2]
      omega
    have fits : (List.replicate k.toNat xs).flatten.length ≤ sizeLine := by
      rw [PyProof.Rows.lm_len_rep_flat, sizeLine_eq]; omega
    have fits' : (List.replicate k.toNat its).flatten.length ≤ sizeLine := by
      rw [PyProof.Rows.lm_len_rep_flat, ← same.length, sizeLine_eq]; omega
    refine wpAny_binaryOp_repeat_ref (T := "tuple") (U := "int") (by decide) ⟨_, at1, rfl⟩ (fun s' => typeIs_int s' k t) noFill_tuple_mul F.fills_int_mul F.slot_int_rmul repeat_tuple F.slot_int_index.lookup ?_
    refine call_meets F.slot_int_rmul (typeIs_int s k t) F.entry_int_rmul (F.args_int_rmul_2 _ _) (int_rmul_tuple k t l its.toArray n dd sl) ⟨at1, rfl, ⟨_, at1, rfl⟩, ?_⟩
    refine call_meets F.slot_tuple_mul ⟨_, at1, rfl⟩ F.entry_tuple_mul (F.args_tuple_mul_2 _ _) (tuple_mulW l its.toArray n dd sl k t ?_ ?_ ?_ (by omega) ?_ (by rw [size_rep]; exact fits')) ⟨at1, ?_⟩
    · simp only [Bool.or_eq_false_iff, decide_eq_false_iff_not]; omega
    · simp only [filled, Bool.false_or, beq_eq_false_iff_ne]; omega
    · simp only [filled, Bool.or_false, decide_eq_false_iff_not]; omega
    · unfold Builtin.Tuple.tupleTooMany
      exact decide_eq_false (by rw [sizeLine_eq]; omega)
    · rw [size_rep]
      exact ⟨.ref s.heap.objs.size, _, I.laid (t' := s.toks) (o := .tup (List.replicate k.toNat xs).flatten) (fun _ _ e => Heap.get?_push_of_some _ e) (Nat.le_refl _) ⟨fits, _, same.rep k.toNat, IsTup.new _ _⟩, rfl, q _ (I.hok.fresh (Nat.le_refl _))⟩
abbrev rMulB (K : PySem.W.Frag) : R2 := fun x y H Q => rRep01 K x y H Q ∨ rRepB K x y H Q ∨ rMulA x y H Q
theorem op_mulB : OpR X (binaryOp .Mult) (rMulB X.K) := OpR.or op_rep01 (OpR.or op_repB op_mulA)
def mulE (M : Mem) : D → D → Option D
  | .tup xs, .int k => if xs ≠ [] ∧ -(2 ^ 63) ≤ k ∧ k ≤ 4000 ∧ xs.length ≤ 1000 then some (.tup (List.replicate k.toNat xs).flatten) else none
  | x, y => mulD M x y
theorem mulE_tup {M : Mem} {xs : List D} {k : Int} (h : xs ≠ [] ∧ -(2 ^ 63) ≤ k ∧ k ≤ 4000 ∧ xs.length ≤ 1000) : mulE M (.tup xs) (.int k) = some (.tup (List.replicate k.toNat xs).flatten) := if_pos h
theorem snd_mulE : SndR X (rMulB X.K) (rdO mulE) := by
  intro Δ I M H σ env G x y dx dy rx ry Q Qd k ⟨d, e, q⟩
  unfold mulE at e
  split at e
  · rename_i xs z
    by_cases h : xs ≠ [] ∧ -(2 ^ 63) ≤ z ∧ z ≤ 4000 ∧ xs.length ≤ 1000
    · rw [if_pos h] at e
      cases e
      obtain ⟨hne, h1, h2, h3⟩ := h
      obtain ⟨a, vs, rfl, h4, r1⟩ := rx.tup_inv
      rw [ry.int_inv]
      have hT := G.at_.sqT h4
      have hvs : vs ≠ [] := fun z => hne (by subst z; cases r1; rfl)
      by_cases e1 : z = 1
      · subst e1
        refine .inl ⟨a, 1, vs, rfl, rfl, hT, .inl ⟨rfl, k _ _ _ _ _ (Ext.refl I) G ?_ q⟩⟩
        have : (List.replicate (Int.toNat 1) xs).flatten = xs := by simp
        rw [this]
        exact .tup h4 r1
      · by_cases e2 : z ≤ 0
        · refine .inl ⟨a, z, vs, rfl, rfl, hT, .inr ⟨⟨hvs, e2, h1⟩, fun p hp => ?_⟩⟩
          obtain ⟨x2, G2⟩ := G.newI hp (.tup [])
          have : z.toNat = 0 := by omega
          rw [this] at q
          exact k _ _ _ _ _ x2 G2 (.tup (.inl (.inl upd_same)) .nil) q
        · refine .inr (.inl ⟨a, z, vs, rfl, rfl, hT, ⟨hvs, by omega, h2, by rw [r1.length]; exact h3⟩, fun p hp => ?_⟩)
          obtain ⟨x2, G2⟩ := G.newI hp (.tup (List.replicate z.toNat vs).flatten)
          exact k _ _ _ _ _ x2 G2 (.tup (.inl (.inl upd_same)) ((r1.rep z.toNat).ext x2)) q
    · rw [if_neg h] at e; cases e
  · exact .inr (.inr (snd_mul Δ I M H σ env G x y dx dy rx ry Q Qd k ⟨d, e, q⟩))
end

/-! ### any tuple as a tuple -/
def dN (de : DE) : DE := fun env M Q => de env M fun d M1 => Q (nrm d) M1
section
variable {X : Cx} {Δ : DC} {e a b c o : Expr} {de da db dc : DE} {dt du : DT} {pos p apos cpos : Pos} {es : List Expr}
variable {ta tb tc te to ti : TE} {t1 t2 : TT} {tl : TA} {dl : DA} {x : Str}
theorem pd_nrm (h : PDe X Δ e te de) : PDe X Δ e te (dN de) := ⟨h.1, fun I M H σ env G Q Qd k q => h.2 I M H σ env G _ _ (fun d M1 I1 H1 v x1 G1 r1 q1 => k _ _ _ _ _ x1 G1 r1.nrm q1) q⟩

/-! ### tuple(..): a tuple whose object has no dict of its own -/
def rTupN (K : PySem.W.Frag) : List V → Hp → VK → Prop := fun xs H Q => ∃ p ys, xs = [.ref p] ∧ SqL K H p ys ∧ ∀ l (ob : Obj), H l = none → ob.cls = .type "tuple" → ob.dict = none → Q (.ref l) (upd H l (.frz ob (.tup ys)))
theorem call_tupN : CallR X (.type "tuple") (rTupN X.K)
  | pins, s, σ, H, _, _, Q, I, .cons rx .nil, ⟨p, ys, one, hq, q⟩ => by
    cases one; cases rx
    obtain ⟨its, same, isLst, few⟩ := I.list hq
    refine call_tuple_list isLst.isList (fun h' kp => ?_) ?_
    · have J : Inv X pins σ H { s with heap := h' } := I.kept (t' := s.toks) kp
      let ob : Obj := { cls := .type "tuple", data := .seq its.toArray }
      have new : ObjOk X.prog X.w (upd H h'.objs.size (.frz ob (.tup ys))) (h'.push ob) h'.objs.size (.frz ob (.tup ys)) := ⟨Heap.get?_push_size _ rfl, few, its, same, IsTup.new _ _⟩
      exact ⟨.ref h'.objs.size, _, J.laid (t' := s.toks) (fun _ _ e => Heap.get?_push_of_some _ e) (Nat.le_refl _) new, rfl, q _ _ (J.hok.fresh (Nat.le_refl _)) rfl rfl⟩
    · have := same.length
      simp only [List.size_toArray] <;> omega
def rdTupN : RDC := fun ds M Q => ∃ x, ds = [x] ∧ ∃ xs, lstOf M x = some xs ∧ Q (.ntup xs) M
theorem snd_tupN : SndC X (rTupN X.K) rdTupN := by
  intro Δ I M H σ env G vs ds r Q Qd k ⟨x, e, xs, e2, q⟩
  subst e
  obtain ⟨v, rfl, rv⟩ := r.one_inv
  obtain ⟨a, us, rfl, h1, h2⟩ := lst_of G.at_ rv e2
  refine ⟨a, us, rfl, .inl (.inl h1), fun l ob hl hc hd => ?_⟩
  obtain ⟨x2, G2⟩ := G.newI hl (.frz ob (.tup us))
  exact k _ _ _ _ _ x2 G2 (.ntup upd_same hc hd (h2.ext x2)) q

/-- how o.m(e) of a built-in thing is read: on one row, one part, not starred -/
abbrev AsOne (X : Cx) (o : Expr) (m : Str) (apos cpos : Pos) (e : Expr) : Prop := attributeBase o m X.env (eval o X.env) = eval o X.env ∧ (apos.endLine == cpos.line) = true ∧ backTo cpos (starEach [e] X.env) = [(false, eval e X.env)] ∧
  ((backTo cpos (starEach [e] X.env)).all (fun x => !x.1) && (backToKw cpos (keywordEach [] X.env)).all (fun x => x.1.isSome) && decide ([e].length + ([] : List Keyword).length + (if ([] : List Keyword).isEmpty then 0 else 1) < 30)) = true
/-! ### t.index(x) of a tuple of texts -/
def tTupIx (K : PySem.W.Frag) (to te : TE) : TE := fun σ H Q => to σ H fun x H1 => ∃ p ob ys0, x = .ref p ∧ H1 p = some (.frz ob (.tup ys0)) ∧ ob.cls = .type "tuple" ∧ ob.dict = none ∧ te σ H1 fun y H2 =>
  ∃ ys : List Str, ∃ z j, y = .str z ∧ SqT K H2 p (ys.map V.str) ∧ ys[j]? = some z ∧ (∀ m, m < j → ys[m]? ≠ some z) ∧ Q (.int (j : Nat)) H2
theorem pe_tupIx (ho : PE X o to) (ha : PE X e te)
    (read : AsOne X o "index" apos cpos e := by exact ⟨rfl, rfl, rfl, rfl⟩) : PE X (.Call (.Attribute o "index" apos) [e] [] cpos) (tTupIx X.K to te) := by
  constructor
  intro pins s σ H Q I h
  have h1 := ho.run pins s σ H _ I h
  refine wpAny_Call_method_late read.1 read.2.2.2 read.2.1 read.2.2.1 (thn h1 fun v s1 q1 => ?_)
  obtain ⟨x, H1, I1, r1, p, ob, ys0, ex, hp, hc, hd, q1⟩ := q1
  subst ex
  cases r1
  have hob : s1.heap.get? p = some ob := (I1.hok p _ hp).1
  refine ⟨"tuple", "tuple.index", F.plainAttrs_tuple, F.slot_tuple_index, F.type_tuple_index, ⟨ob, hob, hc⟩, fun a ea => ⟨ob, by cases ea; exact hob, hd⟩, ?_⟩
  refine Calls.callWith_builtin rfl (Calls.evalArgs_plain (Calls.spliced_cons ?_))
  refine thn (ha.run pins s1 σ H1 _ I1 q1) fun u s2 q2 => ?_
  obtain ⟨y, H2, I2, r2, ys, z, j, ey, hT, hy, hno, q2⟩ := q2
  subst ey
  exact Calls.spliced_nil (mt_tup_index pins s2 σ H2 (.ref p) [.str z] (.ref p) [u] Q I2 rfl (.cons r2 .nil) ⟨p, ys, z, j, rfl, rfl, hT, hy, hno, q2⟩)
/-- the first place of a text -/
def ixOf (z : Str) : List Str → Nat
  | [] => 0
  | y :: ys => if y = z then 0 else ixOf z ys + 1
theorem ixOf_lt {z : Str} : ∀ {ys : List Str}, z ∈ ys → ixOf z ys < ys.length
  | y :: ys, h => by
    unfold ixOf
    by_cases e : y = z
    · rw [if_pos e]; simp
    · rw [if_neg e, List.length_cons]
      have : z ∈ ys := by
        rcases List.mem_cons.mp h with h | h
        · exact absurd h.symm e
        · exact h
      exact Nat.succ_lt_succ (ixOf_lt this)
theorem ixOf_get {z : Str} : ∀ {ys : List Str}, z ∈ ys → ys[ixOf z ys]? = some z
  | y :: ys, h => by
    unfold ixOf
    by_cases e : y = z
    · rw [if_pos e]; simp [e]
    · rw [if_neg e, List.getElem?_cons_succ]
      have : z ∈ ys := by
        rcases List.mem_cons.mp h with h | h
        · exact absurd h.symm e
        · exact h
      exact ixOf_get this
theorem ixOf_no {z : Str} : ∀ {ys : List Str} {m : Nat}, m < ixOf z ys → ys[m]? ≠ some z
  | [], m, h => by simp
  | y :: ys, 0, h => by
    unfold ixOf at h
    by_cases e : y = z
    · rw [if_pos e] at h; omega
    · simpa using e
  | y :: ys, m + 1, h => by
    unfold ixOf at h
    by_cases e : y = z
    · rw [if_pos e] at h; omega
    · rw [if_neg e] at h
      rw [List.getElem?_cons_succ]
      exact ixOf_no (by omega)
def dTupIx (da de : DE) : DE := fun env M Q => da env M fun x M1 => ∃ ys : List Str, x = .ntup (ys.map .str) ∧ de env M1 fun y M2 => ∃ z, y = .str z ∧ z ∈ ys ∧ Q (.int (ixOf z ys : Nat)) M2
theorem pd_tupIx (ho : PDe X Δ o to da) (ha : PDe X Δ e te de)
    (read : AsOne X o "index" apos cpos e := by exact ⟨rfl, rfl, rfl, rfl⟩) : PDe X Δ (.Call (.Attribute o "index" apos) [e] [] cpos) (tTupIx X.K to te) (dTupIx da de) :=
  ⟨pe_tupIx ho.1 ha.1 read, fun I M H σ env G Q Qd k q => ho.2 I M H σ env G _ _ (fun d M1 I1 H1 v x1 G1 r1 q1 => by
    obtain ⟨ys, e1, q1⟩ := q1
    subst e1
    obtain ⟨a, ob, vs, rfl, h1, hc, hd, rs⟩ := r1.ntup_inv
    have hv := rs.strs
    subst hv
    refine ⟨a, ob, _, rfl, G1.at_.ex _ _ h1, hc, hd, ha.2 I1 M1 H1 σ env G1 _ _ (fun d2 M2 I2 H2 u x2 G2 r2 q2 => ?_) q1⟩
    obtain ⟨z, e2, hz, q2⟩ := q2
    subst e2
    exact ⟨ys, z, ixOf z ys, r2.str_inv, .inl (.inr ⟨ob, G2.at_.ex _ _ (x2.frzT h1)⟩), ixOf_get hz, fun m hm => ixOf_no hm, k _ _ _ _ _ (x1.trans x2) G2 (.int _) q2⟩) q⟩

/-! ### isinstance -/
def tyD (M : Mem) : D → Option String
  | .non => some "NoneType"
  | .bl _ => some "bool"
  | .int _ => some "int"
  | .str _ => some "str"
  | .tup _ => some "tuple"
  | .ntup _ => some "tuple"
  | .htup _ => some "tuple"
  | .lst _ => some "list"
  | .frz _ => some "list"
  | .dK _ => some "dict"
  | .ref p => match M p with
    | .some (.lst _) => some "list"
    | some (.dK _) => some "dict"
    | some (.dT _) => some "dict"
    | _ => none
  | _ => none
theorem sqT_ty {K : PySem.W.Frag} {H : Hp} {a : Addr} {xs : List V} (h : SqT K H a xs) : TyX K H (.ref a) (.type "tuple") := by
  rcases h with (h | ⟨o, h⟩) | ⟨o, its, n, h, hc, _⟩
  · exact .base (.tup h)
  · exact .fTuple h
  · exact .kTuple h hc
theorem sqL_ty {K : PySem.W.Frag} {H : Hp} {a : Addr} {xs : List V} (h : SqL K H a xs) : TyX K H (.ref a) (.type "list") := by
  rcases h with (h | ⟨o, h⟩) | ⟨o, its, n, h, hc, _⟩
  · exact .base (.lst h)
  · exact .base (.frz h)
  · exact .kList h hc
theorem ty_of {K : PySem.W.Frag} {F I H : Hp} {M : Mem} (A : At K F I M H) {v : V} {d : D} {T : String} (r : Rp K I v d) (h : tyD M d = some T) : TyX K H v (.type T) := by
  cases d with
  | non => cases h; rw [r.non_inv]; exact .base .non
  | bl b => cases h; rw [r.bl_inv]; exact .base (.bl b)
  | int b => cases h; rw [r.int_inv]; exact .base (.int b)
  | str b => cases h; rw [r.str_inv]; exact .base (.str b)
  | tup xs => cases h; obtain ⟨a, vs, rfl, h1, h2⟩ := r.tup_inv; exact sqT_ty (A.sqT h1)
  | ntup xs => cases h; obtain ⟨a, ob, vs, rfl, h1, _⟩ := r.ntup_inv; exact .fTuple (A.ex _ _ h1)
  | htup xs => cases h; obtain ⟨a, vs, rfl, h1, _⟩ := r.htup_inv; exact sqT_ty (A.sqT (.inl (.inl h1)))
  | lst xs => cases h; obtain ⟨a, vs, rfl, h1, h2⟩ := r.lst_inv; exact .base (.lst (A.ex _ _ h1))
  | frz xs => cases h; obtain ⟨a, vs, rfl, h1, h2⟩ := r.frz_inv; exact sqL_ty (A.sqL h1)
  | dK xs =>
    cases h
    cases r with
    | dK h1 e1 h2 =>
      rename_i o kvs
      have e2 : o = .dK kvs ∨ ∃ ob, o = .frz ob (.dK kvs) := by
        unfold strip at e1
        split at e1
        · cases e1; exact .inr ⟨_, rfl⟩
        · cases e1
        · exact .inl e1
      rcases e2 with rfl | ⟨ob, rfl⟩
      · exact .base (.dK (A.ex _ _ h1))
      · exact .fDict (A.ex _ _ h1)
  | ref p =>
    rw [r.ref_inv]
    have h' : (match M p with | some (.lst _) => some "list" | some (.dK _) => some "dict" | some (.dT _) => some "dict" | _ => none) = some T := h
    split at h'
    · rename_i e; cases h'; obtain ⟨_, vs, h1, _⟩ := A.mem _ _ e; exact .base (.lst h1)
    · rename_i e; cases h'; obtain ⟨_, vs, h1, _⟩ := A.mem _ _ e; exact .base (.dK h1)
    · rename_i e; cases h'; obtain ⟨_, vs, h1, _⟩ := A.mem _ _ e; exact .base (.dT h1)
    · cases h'
  | _ => cases h
/-- of a built-in type -/
def rdIsi : RDC := fun ds M Q => ∃ x n, ds = [x, .ty n] ∧ ∃ T b, tyD M x = some T ∧ kitB T n = some b ∧ Q (.bl b) M
theorem snd_isi : SndC X (rIsi X.K) rdIsi := by
  intro Δ I M H σ env G vs ds r Q Qd k ⟨x, n, e, T, b, e1, e2, q⟩
  subst e
  obtain ⟨v, u, rfl, rv, ru⟩ := r.two_inv
  rw [ru.ty_inv]
  exact ⟨v, .ty n, .type T, .type n, b, rfl, .ty n, ty_of G.at_ rv e1, kit_ty e2, k _ _ _ _ _ (Ext.refl I) G (.bl b) q⟩
end

/-! ### own classes -/
/-- what isinstance asks of an own class's instances, and of other things -/
structure IsiC (K : PySem.W.Frag) (C : Addr) : Prop where
  cl : Cls K C
  atr : PySem.W.findIn K (.ref C) "__class__" = some (.some (.builtin "object.__class__"))
  got : PySem.W.specialIn K (.builtin "object.__class__") "__get__" = some (.some (.builtin "getset_descriptor.__get__"))
  tak : PySem.W.takesIn K (.builtin "object.__class__") = .some true
  all : PySem.W.mroIn K C (.type "object") = .some true
section
variable {X : Cx}
/-- isinstance(x, C), of instances and built-in things -/
def rdIsiO (K : PySem.W.Frag) : RDC := fun ds M Q => ∃ x C, ds = [x, .ref C] ∧ ((∃ C' fs b, insOf M x = some (C', fs) ∧ IsiC K C' ∧ PySem.W.kitOne K (.ref C') (.ref C) = some b ∧ Q (.bl b) M) ∨
  ∃ T b, tyD M x = some T ∧ PySem.W.kitOne K (.type T) (.ref C) = some b ∧ Q (.bl b) M)
theorem snd_isiO : SndC X (rIsi X.K) (rdIsiO X.K) := by
  intro Δ I M H σ env G vs ds r Q Qd k ⟨x, C, e, q⟩
  subst e
  obtain ⟨v, u, rfl, rv, ru⟩ := r.two_inv
  rw [ru.ref_inv]
  rcases q with ⟨C', fs, b, e1, c, e2, q⟩ | ⟨T, b, e1, e2, q⟩
  · obtain ⟨a, dx, fvs, rfl, h1, _⟩ := ins_of G.at_ rv e1
    exact ⟨.ref a, .ref C, .ref C', .ref C, b, rfl, .own C, .base (.ins h1 c.cl c.atr c.got c.tak c.all), e2, k _ _ _ _ _ (Ext.refl I) G (.bl b) q⟩
  · exact ⟨v, .ref C, .type T, .ref C, b, rfl, .own C, ty_of G.at_ rv e1, e2, k _ _ _ _ _ (Ext.refl I) G (.bl b) q⟩
/-- an own instance and a built-in type -/
def rdIsiB (K : PySem.W.Frag) : RDC := fun ds M Q => ∃ x n, ds = [x, .ty n] ∧ ((∃ C' fs b, insOf M x = some (C', fs) ∧ IsiC K C' ∧ PySem.W.kitOne K (.ref C') (.type n) = some b ∧ Q (.bl b) M) ∨
  ∃ T b, tyD M x = some T ∧ kitB T n = some b ∧ Q (.bl b) M)
theorem snd_isiB : SndC X (rIsi X.K) (rdIsiB X.K) := by
  intro Δ I M H σ env G vs ds r Q Qd k ⟨x, n, e, q⟩
  subst e
  obtain ⟨v, u, rfl, rv, ru⟩ := r.two_inv
  rw [ru.ty_inv]
  rcases q with ⟨C', fs, b, e1, c, e2, q⟩ | ⟨T, b, e1, e2, q⟩
  · obtain ⟨a, dx, fvs, rfl, h1, _⟩ := ins_of G.at_ rv e1
    exact ⟨.ref a, .ty n, .ref C', .type n, b, rfl, .ty n, .base (.ins h1 c.cl c.atr c.got c.tak c.all), e2, k _ _ _ _ _ (Ext.refl I) G (.bl b) q⟩
  · exact ⟨v, .ty n, .type T, .type n, b, rfl, .ty n, ty_of G.at_ rv e1, kit_ty e2, k _ _ _ _ _ (Ext.refl I) G (.bl b) q⟩
end

/-! ### xs.append(e), sep.join(xs) -/
section
variable {X : Cx} {Δ : DC} {e a b c o : Expr} {de da db dc : DE} {pos p apos cpos : Pos} {es : List Expr} {ta tb tc te to ti : TE}
def dApp (da de : DE) : DE := fun env M Q => da env M fun x M1 => ∃ q xs0, x = .ref q ∧ M1 q = some (.lst xs0) ∧ de env M1 fun d M2 => ∃ xs, M2 q = some (.lst xs) ∧ xs.length < sizeLine ∧ Q .non (mset M2 q (.lst (xs ++ [d])))
theorem pd_app (ho : PDe X Δ o to da) (ha : PDe X Δ e te de)
    (walk : PE X o to → PE X e te → PE X (.Call (.Attribute o "append" apos) [e] [] cpos) (tBM X.K "list" rAppend to (tCons te tNil)) := by exact fun a b => pe_bm PySem.F.plainAttrs_list PySem.F.slot_list_append PySem.F.type_list_append mt_append a (pa_cons b pa_nil)) :
    PDe X Δ (.Call (.Attribute o "append" apos) [e] [] cpos) (tBM X.K "list" rAppend to (tCons te tNil)) (dApp da de) :=
  ⟨walk ho.1 ha.1, fun I M H σ env G Q Qd k q => ho.2 I M H σ env G _ _ (fun x M1 I1 H1 v x1 G1 r1 q1 => by
    obtain ⟨p, xs0, e1, m1, q1⟩ := q1
    subst e1
    rw [r1.ref_inv]
    obtain ⟨_, vs0, h0, _⟩ := G1.at_.mem _ _ m1
    refine ⟨.inl ⟨rfl, vs0, .inl (.inl h0)⟩, ha.2 I1 M1 H1 σ env G1 _ _ (fun d M2 I2 H2 u x2 G2 r2 q2 => ?_) q1⟩
    obtain ⟨xs, m2, hz, q2⟩ := q2
    obtain ⟨_, vs, h2, rs⟩ := G2.at_.mem _ _ m2
    exact ⟨p, vs, u, rfl, rfl, h2, by rw [rs.length]; exact hz, k _ _ _ _ _ (x1.trans x2) (G2.go (Ext.refl I2) (G2.at_.write (m' := .lst (xs ++ [d])) m2 (fun _ z => by cases z) ⟨_, upd_same, rs.append (.cons r2 .nil)⟩)) .non q2⟩) q⟩
def dJoin (da de : DE) : DE := fun env M Q => da env M fun x M1 => ∃ a, x = .str a ∧ de env M1 fun y M2 => ∃ ys : List Str, seqOf M2 y = some (ys.map .str) ∧ (ys.map (·.length)).sum + ys.length * a.length ≤ 16777216 ∧ Q (.str (Txt.join a ys)) M2
abbrev rJn (K : PySem.W.Frag) : V → List V → Hp → VK → Prop := fun x xs H Q => ∃ a p, ∃ ys : List Str, x = .str a ∧ xs = [.ref p] ∧ (SqL K H p (ys.map V.str) ∨ SqT K H p (ys.map V.str)) ∧ (ys.map (·.length)).sum + ys.length * a.length ≤ 16777216 ∧ Q (.str (Txt.join a ys)) H
theorem pd_join (ho : PDe X Δ o to da) (he : PDe X Δ e te de) (hs : starEach [e] X.env = [(false, eval e X.env)] := by rfl) (hbase : attributeBase o "join" X.env (eval o X.env) = eval o X.env := by rfl) (hline : (apos.endLine == cpos.line) = true := by rfl) :
    PDe X Δ (.Call (.Attribute o "join" apos) [e] [] cpos) (tM1 (rJn X.K) to te) (dJoin da de) :=
  ⟨pe_join ho.1 he.1 hs hbase hline, fun I M H σ env G Q Qd k q => ho.2 I M H σ env G _ _ (fun x M1 I1 H1 v x1 G1 r1 q1 => by
    obtain ⟨a, e1, q1⟩ := q1
    subst e1
    rw [r1.str_inv]
    refine ⟨⟨a, rfl⟩, he.2 I1 M1 H1 σ env G1 _ _ (fun y M2 I2 H2 u x2 G2 r2 q2 => ?_) q1⟩
    obtain ⟨ys, e2, hz, q2⟩ := q2
    obtain ⟨p, vs, rfl, h1, h2⟩ := seq_of G2.at_ r2 e2
    have hv := h2.strs
    subst hv
    exact ⟨a, p, ys, rfl, rfl, h1, hz, k _ _ _ _ _ (x1.trans x2) G2 (.str _) q2⟩) q⟩
end
end BB

set_option maxHeartbeats 4000000
namespace BB
open L2 PySem PySem.Spec PyProof.Rows

/-! ### enumerate and zip over fixed sequences -/
def fixOf : D → Option (List D)
  | .tup xs => some xs
  | .ntup xs => some xs
  | .lst xs => some xs
  | .frz xs => some xs
  | _ => none
def sqI (t : Bool) (K : PySem.W.Frag) (I : Hp) (a : Addr) (vs : List V) : Prop := match t with
  | true => SqT K I a vs
  | false => SqL K I a vs
theorem sqI_at {K : PySem.W.Frag} {F I J H : Hp} {M : Mem} {t : Bool} {a : Addr} {vs : List V} (h : sqI t K I a vs) (x : Ext I J) (A : At K F J M H) : sqAt t K H a vs := by
  cases t with
  | true => exact A.sqT (x.sqT h)
  | false => exact A.sqL (x.sqL h)
theorem fix_of {K : PySem.W.Frag} {I : Hp} {v : V} {d : D} {xs : List D} (r : Rp K I v d) (h : fixOf d = some xs) : ∃ t a vs, v = .ref a ∧ sqI t K I a vs ∧ Rps K I vs xs := by
  cases d with
  | tup ys => cases h; obtain ⟨a, vs, rfl, h1, h2⟩ := r.tup_inv; exact ⟨true, a, vs, rfl, h1, h2⟩
  | ntup ys => cases h; obtain ⟨a, ob, vs, rfl, h1, _, _, h2⟩ := r.ntup_inv; exact ⟨true, a, vs, rfl, .inl (.inr ⟨ob, h1⟩), h2⟩
  | lst ys => cases h; obtain ⟨a, vs, rfl, h1, h2⟩ := r.lst_inv; exact ⟨false, a, vs, rfl, .inl (.inl h1), h2⟩
  | frz ys => cases h; obtain ⟨a, vs, rfl, h1, h2⟩ := r.frz_inv; exact ⟨false, a, vs, rfl, h1, h2⟩
  | _ => cases h
theorem Rps.getD {K : PySem.W.Frag} {I : Hp} {vs : List V} {ds : List D} (r : Rps K I vs ds) {i : Nat} (h : i < ds.length) : Rp K I (vs.getD i .non) (ds.getD i .non) := by
  obtain ⟨v, hv, rv⟩ := r.get (i := i) (d := ds[i]) (by simp [h])
  rw [List.getD_eq_getElem?_getD, hv, List.getD_eq_getElem?_getD]
  rw [show ds[i]? = some ds[i] by simp [h]]
  exact rv
def rowsD (n : Nat) (f : Nat → List D) : List D := (List.range n).map fun i => .tup (f i)
theorem rowsD_len {n : Nat} {f : Nat → List D} : (rowsD n f).length = n := by simp [rowsD]
theorem rowsD_get {n : Nat} {f : Nat → List D} {i : Nat} {d : D} (h : (rowsD n f)[i]? = some d) : i < n ∧ d = .tup (f i) := by
  have hlt : i < n := by
    have := (List.getElem?_eq_some_iff.mp h).1
    rwa [rowsD_len] at this
  refine ⟨hlt, ?_⟩
  simp only [rowsD, List.getElem?_map, List.getElem?_range hlt] at h
  simpa using h.symm
theorem rows_ok {K : PySem.W.Frag} {I1 : Hp} {side : Hp → Prop} {n : Nat} {row : Nat → List V} {f : Nat → List D} (hs : ∀ F I M H, Ext I1 I → At K F I M H → side H) (hr : ∀ i, i < n → Rps K I1 (row i) (f i)) :
    ItOk K I1 (ItR side n row) (rowsD n f) (fun _ => True) := by
  refine ⟨fun F i I M H x A _ hi => ⟨hs F I M H x A, by rwa [rowsD_len] at hi⟩, fun F I M H x A _ => ⟨hs F I M H x A, rowsD_len⟩, fun F i d x' I M H H' x A _ hd y => ?_⟩
  obtain ⟨hlt, e⟩ := rowsD_get hd
  obtain ⟨T, rfl, hT, rfl⟩ := y
  subst e
  have hI := A.freeI hT
  exact ⟨upd I T (.tup (row i)), Ext.new hI, A.newI hT _, .tup (.inl (.inl upd_same)) ((hr i hlt).ext (x.trans (Ext.new hI)))⟩
section
variable {X : Cx} {Δ : DC} {e e1 e2 e3 : Expr} {pos p tpos : Pos} {elts : List Expr} {kk : Nat} {tl : TA} {dl : DA}
def enumD (xs : List D) : List D := rowsD xs.length fun i => [.int (i : Nat), xs.getD i .non]
def zip2D (xs ys : List D) : List D := rowsD (min xs.length ys.length) fun i => [xs.getD i .non, ys.getD i .non]
def zip3D (xs ys zs : List D) : List D := rowsD (min (min xs.length ys.length) zs.length) fun i => [xs.getD i .non, ys.getD i .non, zs.getD i .non]
def dEnum (dl : DA) : DI := fun env M R => dl env M fun ds M1 => ∃ x xs, ds = [x] ∧ fixOf x = some xs ∧ R (enumD xs) (fun _ => True) M1
theorem pdi_enum (hg : Gl X "enumerate") (hm : X.mg "enumerate" = none) (ha : PDa X Δ [e] tl dl) (hs : starEach [e] X.env = [(false, eval e X.env)] := by rfl) :
    PDi X Δ (.Tuple elts kk tpos) (.Call (.Name "enumerate" p) [e] [] pos) (iEnumA X.K tl) (dEnum dl) :=
  ⟨pi_enumA hg hm ha.1 hs, fun I M H σ env G R Rd k q => ha.2 I M H σ env G _ _ (fun ds M1 I1 H1 vs x1 G1 r1 q1 => by
    obtain ⟨x, xs, e1, e2, q1⟩ := q1
    subst e1
    obtain ⟨v, rfl, rv⟩ := r1.one_inv
    obtain ⟨t, a, us, rfl, h1, h2⟩ := fix_of rv e2
    refine ⟨t, a, us, rfl, sqI_at h1 (Ext.refl I1) G1.at_, k _ _ M1 _ I1 H1 x1 G1 ?_ q1⟩
    have hl := h2.length
    rw [hl]
    exact rows_ok (fun F I M H x A => sqI_at h1 x A) fun i hi => .cons (.int _) (.cons (h2.getD hi) .nil)) q⟩
def dZip2 (dl : DA) : DI := fun env M R => dl env M fun ds M1 => ∃ x y xs ys, ds = [x, y] ∧ fixOf x = some xs ∧ fixOf y = some ys ∧ R (zip2D xs ys) (fun _ => True) M1
theorem pdi_zip2 (hg : Gl X "zip") (hm : X.mg "zip" = none) (ha : PDa X Δ [e1, e2] tl dl)
    (hs : starEach [e1, e2] X.env = (false, eval e1 X.env) :: starEach [e2] X.env := by rfl) (hpl : (backTo pos (starEach [e2] X.env)).any (·.1) = false := by rfl) :
    PDi X Δ (.Tuple elts kk tpos) (.Call (.Name "zip" p) [e1, e2] [] pos) (iZip2A X.K tl) (dZip2 dl) :=
  ⟨pi_zip2A hg hm ha.1 hs hpl, fun I M H σ env G R Rd k q => ha.2 I M H σ env G _ _ (fun ds M1 I1 H1 vs x1 G1 r1 q1 => by
    obtain ⟨x, y, xs, ys, e1, e2, e3, q1⟩ := q1
    subst e1
    obtain ⟨v, u, rfl, rv, ru⟩ := r1.two_inv
    obtain ⟨t1, a1, us1, rfl, h1, h2⟩ := fix_of rv e2
    obtain ⟨t2, a2, us2, rfl, h3, h4⟩ := fix_of ru e3
    refine ⟨t1, t2, a1, a2, us1, us2, rfl, sqI_at h1 (Ext.refl I1) G1.at_, sqI_at h3 (Ext.refl I1) G1.at_, k _ _ M1 _ I1 H1 x1 G1 ?_ q1⟩
    rw [h2.length, h4.length]
    exact rows_ok (fun F I M H x A => ⟨sqI_at h1 x A, sqI_at h3 x A⟩) fun i hi => .cons (h2.getD (by omega)) (.cons (h4.getD (by omega)) .nil)) q⟩
def dZip3 (dl : DA) : DI := fun env M R => dl env M fun ds M1 => ∃ x y z xs ys zs, ds = [x, y, z] ∧ fixOf x = some xs ∧ fixOf y = some ys ∧ fixOf z = some zs ∧ R (zip3D xs ys zs) (fun _ => True) M1
theorem pdi_zip3 (hg : Gl X "zip") (hm : X.mg "zip" = none) (ha : PDa X Δ [e1, e2, e3] tl dl)
    (hs : starEach [e1, e2, e3] X.env = (false, eval e1 X.env) :: starEach [e2, e3] X.env := by rfl) (hpl : (backTo pos (starEach [e2, e3] X.env)).any (·.1) = false := by rfl) :
    PDi X Δ (.Tuple elts kk tpos) (.Call (.Name "zip" p) [e1, e2, e3] [] pos) (iZip3A X.K tl) (dZip3 dl) :=
  ⟨pi_zip3A hg hm ha.1 hs hpl, fun I M H σ env G R Rd k q => ha.2 I M H σ env G _ _ (fun ds M1 I1 H1 vs x1 G1 r1 q1 => by
    obtain ⟨x, y, z, xs, ys, zs, e1, e2, e3, e4, q1⟩ := q1
    subst e1
    obtain ⟨v, r, rfl, rv, rr⟩ := r1.cons_inv
    obtain ⟨u, w, rfl, ru, rw'⟩ := rr.two_inv
    obtain ⟨t1, a1, us1, rfl, h1, h2⟩ := fix_of rv e2
    obtain ⟨t2, a2, us2, rfl, h3, h4⟩ := fix_of ru e3
    obtain ⟨t3, a3, us3, rfl, h5, h6⟩ := fix_of rw' e4
    refine ⟨t1, t2, t3, a1, a2, a3, us1, us2, us3, rfl, sqI_at h1 (Ext.refl I1) G1.at_, sqI_at h3 (Ext.refl I1) G1.at_, sqI_at h5 (Ext.refl I1) G1.at_, k _ _ M1 _ I1 H1 x1 G1 ?_ q1⟩
    rw [h2.length, h4.length, h6.length]
    exact rows_ok (fun F I M H x A => ⟨sqI_at h1 x A, sqI_at h3 x A, sqI_at h5 x A⟩) fun i hi => .cons (h2.getD (by omega)) (.cons (h4.getD (by omega)) (.cons (h6.getD (by omega)) .nil))) q⟩
end
end BB

set_option maxHeartbeats 4000000
namespace BB
open L2 PySem PySem.Spec PyProof.Rows

/-! ### try .. except C as n: .., try .. except C: .. -/
abbrev DC.try_ (Δ : DC) (I0 : Hp) (W : WX) (Wd : DW) : DC := { F := Δ.F, I0 := I0, W := W, Wd := Wd }
abbrev noW : WX := fun _ _ _ _ => False
abbrev noD : DW := fun _ _ _ _ => False
/-- what the clause wishes, over data -/
def wAsD (K : PySem.W.Frag) (c : Value) (i : Nat) (us : Addr → Value → List (Str × D) → DS) (Wout : DW) (T : EndsD) : DW := fun cls fs env M =>
  ∃ b, PySem.W.exmOne K cls c = some b ∧ (b = true → ∀ a, us a cls fs { nx := fun env' M' => T.nx (env'.set i none) M', rt := T.rt, bk := fun env' M' => T.bk (env'.set i none) M', ct := fun env' M' => T.ct (env'.set i none) M' } (env.set i (some (.ref a))) M) ∧
    (b = false → Wout cls fs env M)
def wOnlyD (K : PySem.W.Frag) (c : Value) (us : Addr → Value → List (Str × D) → DS) (Wout : DW) (T : EndsD) : DW := fun cls fs env M =>
  ∃ b, PySem.W.exmOne K cls c = some b ∧ (b = true → ∀ a, us a cls fs T env M) ∧ (b = false → Wout cls fs env M)
section
variable {X : Cx} {Δ : DC} {x n : Str} {c : Value} {i : Nat} {body suite : List Stmt} {b₀ : Stmt} {np pos pos' : Pos} {tb : WX → TS} {db : DW → DS} {ts : Addr → Value → Option Addr → TS} {us : Addr → Value → List (Str × D) → DS}
/-- some context in which a wish is taken -/
theorem some_xe (hs : X.stack = X.env :: X.outer) (hf : X.env.frame = some X.env.locals) (hex : X.ex = []) (W : WX) : ∃ xe, Takes (X.tr X.pn xe) W ∧ PassesOwn (model X.prog X.w) X.A X.env xe := by
  obtain ⟨xe, e⟩ : ∃ xe, xe = fun e s' => wpAny (model X.prog X.w) X.A (leaving X.env e) (fun _ s'' => CX X.prog X.w X.outer X.H_0 X.s_0 (fun cls d H => ∃ σ, W cls d σ H) e s'') (fun _ _ => True) s' := ⟨_, rfl⟩
  refine ⟨xe, ?_, passes_of (X := X.tr X.pn xe) (E₁ := fun _ _ => True) e⟩
  have t := takes_of (X := X.tr X.pn xe) (E := fun cls d H => ∃ σ, W cls d σ H) (E₁ := fun _ _ => True) hs hf hex e
  exact t.imp fun _ _ σ _ h => ⟨σ, h⟩
theorem exc_some (K : PySem.W.Frag) (d : Option Addr) : ∃ I fs, ExcR K I fs d := by
  cases d with
  | none => exact ⟨fun _ => none, [], rfl⟩
  | some dd => exact ⟨fun a => if a = dd then some (.xd []) else none, [], [], if_pos rfl, .nil⟩
abbrev SuiteOk (X : Cx) (Δ : DC) (suite : List Stmt) (ts : Addr → Value → Option Addr → TS) (us : Addr → Value → List (Str × D) → DS) : Prop :=
  ∀ (a : Addr) (oe : Obj) (cls : Value) (d : Option Addr) (pn : List (Addr × Obj)) (I0 : Hp) (fs : List (Str × D)), Zc cls d oe → (∃ vs, oe.data = .fields vs) → ExcR X.K I0 fs d → PDss (X.suite a ((a, oe) :: pn)) (Δ.try_ I0 noW noD) suite (ts a cls d) (us a cls fs)
abbrev BodyOk (X : Cx) (Δ : DC) (body : List Stmt) (tb : WX → TS) (db : DW → DS) : Prop :=
  ∀ (I0 : Hp) (W : WX) (Wd : DW) (pn : List (Addr × Obj)) (xe : Value → Shared → Prop), Ext Δ.I0 I0 → XOk (X.tr pn xe) (Δ.try_ I0 W Wd) → PassesOwn (model X.prog X.w) X.A X.env xe → PDss (X.tr pn xe) (Δ.try_ I0 W Wd) body (tb W) (db Wd)
theorem suite_run (hsu : SuiteOk X Δ suite ts us) {cls : Value} {d : Option Addr} {fs : List (Str × D)} {I I' H' : Hp} {M' : Mem} {σ' : L2.St} {env' : Env} {a : Addr} (x : Ext I I') (G : Gd X.K Δ I' M' H' σ' env') (er : ExcR X.K I' fs d) {T : Ends} {Td : EndsD} (R : EndsR X Δ I T Td)
    (h : us a cls fs Td env' M') : ts a cls d T σ' H' := by
  have oe : ∃ oe : Obj, Zc cls d oe ∧ ∃ vs, oe.data = .fields vs := ⟨{ cls := cls, dict := d, data := .fields #[] }, ⟨rfl, rfl⟩, _, rfl⟩
  obtain ⟨oe, hz, hf⟩ := oe
  refine (hsu a oe cls d [] I' fs hz hf er).2 I' M' H' σ' env' ⟨Ext.refl I', G.at_, G.env⟩ T Td ⟨fun env M I2 H2 σ2 x2 G2 q => ?_, fun env M I2 H2 σ2 x2 G2 q => ?_, fun env M I2 H2 σ2 x2 G2 q => ?_, fun d M I2 H2 v x2 b2 A2 r2 q => ?_⟩ h
  · exact R.nx _ _ _ _ _ (x.trans x2) ⟨G.base.trans x2, G2.at_, G2.env⟩ q
  · exact R.bk _ _ _ _ _ (x.trans x2) ⟨G.base.trans x2, G2.at_, G2.env⟩ q
  · exact R.ct _ _ _ _ _ (x.trans x2) ⟨G.base.trans x2, G2.at_, G2.env⟩ q
  · exact R.rt _ _ _ _ _ (x.trans x2) (G.base.trans x2) A2 r2 q
theorem body_run (hs : X.stack = X.env :: X.outer) (hf : X.env.frame = some X.env.locals) (hex : X.ex = []) (hb : BodyOk X Δ body tb db) {W : WX} {Wd : DW} {I H : Hp} {M : Mem} {σ : L2.St} {env : Env} (G : Gd X.K Δ I M H σ env)
    (link : ∀ {I' M' H' σ' env' c fs d}, Ext I I' → Gd X.K Δ I' M' H' σ' env' → ExcR X.K I' fs d → Wd c fs env' M' → W c d σ' H') {T : Ends} {Td : EndsD} (R : EndsR X Δ I T Td) (h : db Wd Td env M) : tb W T σ H := by
  obtain ⟨xe, tk, po⟩ := some_xe hs hf hex W
  refine (hb I W Wd X.pn xe G.base ⟨tk, fun {I' M' H' σ' env' c fs d} G' er w => link G'.base ⟨G.base.trans G'.base, G'.at_, G'.env⟩ er w⟩ po).2 I M H σ env ⟨Ext.refl I, G.at_, G.env⟩ T Td ⟨fun env M I2 H2 σ2 x2 G2 q => ?_, fun env M I2 H2 σ2 x2 G2 q => ?_, fun env M I2 H2 σ2 x2 G2 q => ?_, fun d M I2 H2 v x2 b2 A2 r2 q => ?_⟩ h
  · exact R.nx _ _ _ _ _ x2 ⟨G.base.trans x2, G2.at_, G2.env⟩ q
  · exact R.bk _ _ _ _ _ x2 ⟨G.base.trans x2, G2.at_, G2.env⟩ q
  · exact R.ct _ _ _ _ _ x2 ⟨G.base.trans x2, G2.at_, G2.env⟩ q
  · exact R.rt _ _ _ _ _ x2 (G.base.trans x2) A2 r2 q
def dTryAs (K : PySem.W.Frag) (c : Value) (i : Nat) (us : Addr → Value → List (Str × D) → DS) (Wd : DW) (db : DW → DS) : DS := fun T env M => db (wAsD K c i us Wd T) T env M
theorem pds_tryAs (hs : X.stack = X.env :: X.outer) (hf : X.env.frame = some X.env.locals) (hex : X.ex = []) (hN : X.N.Nodup) (hi : X.N[i]? = some n) (hln : X.env.kindOf n = some .local) (hc : Names X x c) (xo : XOk X Δ)
    (hb : BodyOk X Δ body tb db) (hsu : SuiteOk X Δ (b₀ :: suite) ts us) :
    PDs X Δ (.Try body [.ExceptHandler (some (.Name x np)) (some n) (b₀ :: suite) pos'] [] [] pos) (fun D σ H => tb (wAs X.K c i ts Δ.W D) D σ H) (dTryAs X.K c i us Δ.Wd db) := by
  refine ⟨ps_try_as hs hf hN hi hln hc xo.takes (fun W pn xe tk po => (hb Δ.I0 W noD pn xe (Ext.refl _) ⟨tk, fun _ _ h => h.elim⟩ po).1) (fun a oe cls d pn hz hd => ?_), fun I M H σ env G T Td R h => ?_⟩
  · obtain ⟨I0, fs, er⟩ := exc_some X.K d
    exact (hsu a oe cls d pn I0 fs hz hd er).1
  · refine body_run hs hf hex hb G (fun {I' M' H' σ' env' cls fs d} x G' er w => ?_) R h
    obtain ⟨b, e, yes, no⟩ := w
    refine ⟨b, e, fun hy a ha => ?_, fun hn => xo.link G' er (no hn)⟩
    refine suite_run hsu (I := I) (Td := { nx := fun env' M' => Td.nx (env'.set i none) M', rt := Td.rt, bk := fun env' M' => Td.bk (env'.set i none) M', ct := fun env' M' => Td.ct (env'.set i none) M' }) x (G'.set (.ref a)) er ⟨fun env M I2 H2 σ2 x2 G2 q => ?_, fun env M I2 H2 σ2 x2 G2 q => ?_, fun env M I2 H2 σ2 x2 G2 q => ?_, R.rt⟩ (yes hy a)
    · exact R.nx _ _ _ _ _ x2 ⟨G2.base, G2.at_, G2.env.setN⟩ q
    · exact R.bk _ _ _ _ _ x2 ⟨G2.base, G2.at_, G2.env.setN⟩ q
    · exact R.ct _ _ _ _ _ x2 ⟨G2.base, G2.at_, G2.env.setN⟩ q
def dTryOnly (K : PySem.W.Frag) (c : Value) (us : Addr → Value → List (Str × D) → DS) (Wd : DW) (db : DW → DS) : DS := fun T env M => db (wOnlyD K c us Wd T) T env M
theorem pds_tryOnly (hs : X.stack = X.env :: X.outer) (hf : X.env.frame = some X.env.locals) (hex : X.ex = []) (hc : Names X x c) (xo : XOk X Δ)
    (hb : BodyOk X Δ body tb db) (hsu : SuiteOk X Δ (b₀ :: suite) ts us) :
    PDs X Δ (.Try body [.ExceptHandler (some (.Name x np)) none (b₀ :: suite) pos'] [] [] pos) (fun D σ H => tb (wOnly X.K c ts Δ.W D) D σ H) (dTryOnly X.K c us Δ.Wd db) := by
  refine ⟨ps_try_only hs hf hc xo.takes (fun W pn xe tk po => (hb Δ.I0 W noD pn xe (Ext.refl _) ⟨tk, fun _ _ h => h.elim⟩ po).1) (fun a oe cls d pn hz hd => ?_), fun I M H σ env G T Td R h => ?_⟩
  · obtain ⟨I0, fs, er⟩ := exc_some X.K d
    exact (hsu a oe cls d pn I0 fs hz hd er).1
  · refine body_run hs hf hex hb G (fun {I' M' H' σ' env' cls fs d} x G' er w => ?_) R h
    obtain ⟨b, e, yes, no⟩ := w
    exact ⟨b, e, fun hy a ha => suite_run hsu x G' er R (yes hy a), fun hn => xo.link G' er (no hn)⟩
/-- e.f in the suite, e the caught exception -/
def dXf (a : Addr) (cls : Value) (C : Addr) (fs : List (Str × D)) (f : Str) (de : DE) : DE := fun env M Q => de env M fun x M1 => x = .ref a ∧ cls = .ref C ∧ ∃ d, fs.lookup f = some d ∧ Q d M1
theorem pd_xf {a C : Addr} {oe : Obj} {cls : Value} {d : Option Addr} {pn : List (Addr × Obj)} {e : Expr} {te : TE} {de : DE} {f : Str} {I0 : Hp} {fs : List (Str × D)} (T : XfC X.K C) (hno : PySem.W.findIn X.K (.ref C) f = some none)
    (hz : Zc cls d oe) (hf : ∃ vs, oe.data = .fields vs) (er : ExcR X.K I0 fs d) (he : PDe (X.suite a ((a, oe) :: pn)) (Δ.try_ I0 noW noD) e te de) (hb : attributeBase e f X.env (eval e X.env) = eval e X.env := by rfl) :
    PDe (X.suite a ((a, oe) :: pn)) (Δ.try_ I0 noW noD) (.Attribute e f pos) (tXf a cls d C f te) (dXf a cls C fs f de) :=
  ⟨pe_xf T hno hz hf he.1 hb, fun I M H σ env G Q Qd k q => he.2 I M H σ env G _ _ (fun x M1 I1 H1 v x1 G1 r1 q1 => by
    obtain ⟨e1, e2, y, e3, q1⟩ := q1
    subst e1
    refine ⟨r1.ref_inv, e2, ?_⟩
    cases d with
    | none => cases er; cases e3
    | some dd =>
      obtain ⟨fvs, h1, h2⟩ := er
      obtain ⟨u, h3, ru⟩ := h2.look e3
      exact ⟨dd, fvs, u, rfl, G1.at_.ex _ _ (G1.base.xd h1), h3, k _ _ _ _ _ x1 G1 (ru.ext G1.base) q1⟩) q⟩
end
end BB

set_option maxHeartbeats 4000000
namespace BB
open L2 PySem PySem.Spec PyProof.Rows

/-! ### further facts of the written part, as truths -/
def oexB (K : PySem.W.Frag) (C : Addr) : Bool := (match K.lookup C with
  | some ⟨.type c, _, .cls cd, sl⟩ => (match cd.mro, sl.toList with
    | .ref C' :: bm, [_, _, _, _, some (.builtin n), _] => decide (c = "type") && (decide (C' = C) && (decide (n = "ValueError.__new__") && (cd.hasDict && (!cd.hasDel && PySem.HandSPX.refsVE bm))))
    | _, _ => false)
  | _ => false) && (He.eqO (PySem.W.findIn K (.ref C) "__setattr__") (some (some (.builtin "object.__setattr__"))) && (decide (PySem.W.subIn K (.ref C) (.type "BaseException") = some true) &&
    (decide (PySem.W.typeIn K (.ref C) = some (.type "type")) && PySem.W.keepIn K (.ref C))))
theorem oexB_ok {K : PySem.W.Frag} {C : Addr} (h : oexB K C = true) : OexC K C := by
  obtain ⟨h1, h⟩ := He.ba h
  obtain ⟨h2, h⟩ := He.ba h
  obtain ⟨h3, h⟩ := He.ba h
  obtain ⟨h4, h5⟩ := He.ba h
  refine ⟨?_, He.eqO_ok h2, of_decide_eq_true h3, of_decide_eq_true h4, h5⟩
  split at h1
  · rename_i c dd cd sl ho
    split at h1
    · rename_i C' bm k0 k1 k2 k3 n k5 hm hs
      obtain ⟨e1, h1⟩ := He.ba h1
      obtain ⟨e2, h1⟩ := He.ba h1
      obtain ⟨e3, h1⟩ := He.ba h1
      obtain ⟨e4, h1⟩ := He.ba h1
      obtain ⟨e5, e6⟩ := He.ba h1
      have e1 := of_decide_eq_true e1
      have e2 := of_decide_eq_true e2
      have e3 := of_decide_eq_true e3
      subst e1 e2 e3
      obtain ⟨nm, bs, mro, ns, qn, hd, sn, sub, ab, col, del⟩ := cd
      dsimp only at hm e4 e5
      subst hm e4
      have e5 : del = false := by simpa using e5
      subst e5
      have hsl : sl = #[k0, k1, k2, k3, some (.builtin "ValueError.__new__"), k5] := by
        obtain ⟨l⟩ := sl
        simp only at hs
        rw [hs]
      subst hsl
      exact ⟨_, _, _, _, _, _, _, _, _, _, _, _, _, _, _, ho, e6⟩
    · cases h1
  · cases h1
inductive Bf where
  | oex (x : Str) | xf (x : Str) | isi (x : Str)
  | fnty (x m : Str)
  | kit (x y : Str) (b : Bool)
  | kitT (T : String) (x : Str) (b : Bool)
  | kitB (x : Str) (T : String) (b : Bool)
  | mthd (x m : Str)
  | bme (x m : Str) (id : String)
  | all (x : Str)
def Bf.ok (K : PySem.W.Frag) : Bf → Bool
  | .oex x => oexB K (He.ga K x)
  | .xf x => xfB K (He.ga K x)
  | .isi x => He.eqO (PySem.W.findIn K (.ref (He.ga K x)) "__class__") (some (some (.builtin "object.__class__"))) && (He.eqO (PySem.W.specialIn K (.builtin "object.__class__") "__get__") (some (some (.builtin "getset_descriptor.__get__"))) &&
      (decide (PySem.W.takesIn K (.builtin "object.__class__") = some true) && decide (PySem.W.mroIn K (He.ga K x) (.type "object") = some true)))
  | .fnty x m => decide (PySem.W.typeIn K (.ref (He.ma K (He.ga K x) m)) = some (.type "function"))
  | .kit x y b => decide (PySem.W.kitOne K (.ref (He.ga K x)) (.ref (He.ga K y)) = some b)
  | .kitT T x b => decide (PySem.W.kitOne K (.type T) (.ref (He.ga K x)) = some b)
  | .kitB x T b => decide (PySem.W.kitOne K (.ref (He.ga K x)) (.type T) = some b)
  | .mthd x m => He.eqO (PySem.W.findIn K (.ref (He.ga K x)) m) (some (some (.ref (He.ma K (He.ga K x) m))))
  | .bme x m id => He.eqO (PySem.W.findIn K (.ref (He.ga K x)) m) (some (some (.builtin id)))
  | .all x => decide (PySem.W.mroIn K (He.ga K x) (.type "object") = some true)
section
variable {K : PySem.W.Frag} {x y m : Str} {T : String} {b : Bool}
theorem oex_ok (c : (Bf.oex x).ok K = true) : OexC K (He.ga K x) := oexB_ok c
theorem xf_ok (c : (Bf.xf x).ok K = true) : XfC K (He.ga K x) := xfB_ok c
theorem isi_ok (cl : (He.Fa.cls x).ok K = true) (c : (Bf.isi x).ok K = true) : IsiC K (He.ga K x) := by
  obtain ⟨h1, c⟩ := He.ba c
  obtain ⟨h2, c⟩ := He.ba c
  obtain ⟨h3, h4⟩ := He.ba c
  exact ⟨He.cls_ok cl, He.eqO_ok h1, He.eqO_ok h2, of_decide_eq_true h3, of_decide_eq_true h4⟩
theorem fnty_ok (c : (Bf.fnty x m).ok K = true) : PySem.W.typeIn K (.ref (He.ma K (He.ga K x) m)) = some (.type "function") := of_decide_eq_true c
theorem kit_ok (c : (Bf.kit x y b).ok K = true) : PySem.W.kitOne K (.ref (He.ga K x)) (.ref (He.ga K y)) = some b := of_decide_eq_true c
theorem kitT_ok (c : (Bf.kitT T x b).ok K = true) : PySem.W.kitOne K (.type T) (.ref (He.ga K x)) = some b := of_decide_eq_true c
theorem kitB_ok (c : (Bf.kitB x T b).ok K = true) : PySem.W.kitOne K (.ref (He.ga K x)) (.type T) = some b := of_decide_eq_true c
theorem mthd_ok (c : (Bf.mthd x m).ok K = true) : PySem.W.findIn K (.ref (He.ga K x)) m = some (some (.ref (He.ma K (He.ga K x) m))) := He.eqO_ok c
theorem bme_ok {id : String} (c : (Bf.bme x m id).ok K = true) : PySem.W.findIn K (.ref (He.ga K x)) m = some (some (.builtin id)) := He.eqO_ok c
theorem all_ok (c : (Bf.all x).ok K = true) : PySem.W.mroIn K (He.ga K x) (.type "object") = some true := of_decide_eq_true c
end
def exB (fs : List Bf) (K : PySem.W.Frag) : Bool := fs.all fun f => f.ok K
theorem exB_ok {fs : List Bf} {K : PySem.W.Frag} (h : exB fs K = true) (i : Nat) {f : Bf} (e : fs[i]? = some f := by rfl) : f.ok K = true := List.all_eq_true.mp h f (List.mem_of_getElem? e)
/-- a class raised by place -/
theorem raises_fa {X : Cx} {x : Str} (c : (He.Fa.exc x).ok X.K = true) : Raises X (.ref (He.ga X.K x)) := raises_own (He.exc_ok c).2.2.1 (He.exc_ok c).2.2.2

/-! ### a def with what may be left out keeps its promise -/
section
variable {base : Heap} {mg : Str → Option Value} {K : PySem.W.Frag} {P : Program} {w : World}
/-- the context of a def's body -/
def CxOf (P : Program) (w : World) (K : PySem.W.Frag) (mg : Str → Option Value) (base : Heap) (N : List Str) (qual : Str) (scope : Scope) (f : Addr) (k : Nat) (X : Cx) : Prop :=
  ∃ cdv A outer s H Ev, X = cxOf (L2.CX P w) P w K mg base N qual scope f cdv A outer s H Ev ∧ Room k (A.deeper (envOfC qual scope s.heap.objs.size f cdv))
theorem fn_mkD {x qual : Str} {params : Arguments} {body : List Stmt} {scope : Scope} {dvs : List V} {kws : List (Str × V)} {f : Addr} {fd : FuncData} {N ps : List Str} {k : Nat} {sp : SpD} (F : FunD K x qual params body scope dvs kws f fd) (S : FnScope N ps scope)
    (len : ∀ ds M Q E, sp ds M Q E → ds.length = ps.length)
    (hbody : ∀ (X : Cx) (Δ : DC) (M : Mem) (ds : List D) (Q : DKt) (E : DX), CxOf P w K mg base N qual scope f k X → XOk X Δ → (Δ.Wd = fun c fs _ M' => FzV (fun _ M'' => E c fs M'') .non M') → sp ds M Q E →
      ∃ t d, PDss X Δ body t d ∧ d (ends Q) (startD N ds) M) : FnOk P w K mg base (L2.CX P w) (k + 1) f fd ps (liftSp K sp) := by
  refine F.ok S (fun vs H Q E ⟨F0, I, M, ds, Qd, Ed, A, r, h, _⟩ => r.length.trans (len _ _ _ _ h)) (fun cdv A outer s H vs Q E hr ⟨F0, I, M, ds, Qd, Ed, At0, r, h, hn, hx⟩ => ?_)
  obtain ⟨X, eX⟩ : ∃ X, X = cxOf (L2.CX P w) P w K mg base N qual scope f cdv A outer s H E := ⟨_, rfl⟩
  have XK : X.K = K := by rw [eX]; rfl
  have tk : Takes X (fun cls d _ H => E cls d H) := by
    subst eX
    exact takes_of rfl rfl rfl rfl
  obtain ⟨t, d, pd, q⟩ := hbody X { F := F0, I0 := I, W := fun cls d _ H => E cls d H, Wd := fun c fs _ M' => FzV (fun _ M'' => Ed c fs M'') .non M' } M ds Qd Ed ⟨cdv, A, outer, s, H, E, eX, hr⟩ ⟨tk, fun {I1 M1 H1 σ1 env1 c fs dd} G er w => by
      rw [XK] at G er
      obtain ⟨I2, M2, d', x2, A3, r3, q3⟩ := fzv w G.at_ (v := .non) .non
      refine hx c fs M2 I2 H1 dd (G.base.trans x2) A3 ?_ q3
      cases dd with
      | none => exact er
      | some dd => obtain ⟨fvs, e1, e2⟩ := er; exact ⟨fvs, x2.xd e1, e2.ext x2⟩⟩ rfl h
  subst eX
  refine ⟨t, pd.1, pd.2 I M H _ _ ⟨Ext.refl I, At0, envr_start r⟩ _ (ends Qd) ⟨fun env' M' I' H' σ' x G q' => ?_, fun _ _ _ _ _ _ _ q' => q', fun _ _ _ _ _ _ _ q' => q', fun d' M' I' H' v x b A' r' q' => ?_⟩ q⟩
  · obtain ⟨I2, M2, d', x2, A3, r3, q3⟩ := fzv q' G.at_ (v := .non) .non
    exact hn _ _ _ _ _ (x.trans x2) A3 r3 q3
  · obtain ⟨I2, M2, d', x2, A3, r3, q3⟩ := fzv q' A' r'
    exact hn _ _ _ _ _ (x.trans x2) A3 r3 q3
end
end BB

set_option maxHeartbeats 4000000
namespace BB
open L2 PySem PySem.Spec PyProof.Rows

/-! ### len(o), o of a class with its own __len__ -/
def rLenO (C : Addr) (sp : Sp) : List V → Hp → VK → Prop := fun xs H Q => ∃ a dx fs, xs = [.ref a] ∧ H a = some (.ins C dx fs) ∧ sp [.ref a] H (fun v H' => ∃ n : Int, v = .int n ∧ 0 ≤ n ∧ n < 2 ^ 62 ∧ Q (.int n) H') (fun _ _ _ => False)
theorem never_at {X : Cx} : Passes (L2.CX X.prog X.w) X (fun _ _ _ => False) := fun _ _ _ _ _ _ _ c => by
  obtain ⟨_, _, _, _, _, _, _, _, _, _, _, _, h⟩ := c
  exact h.elim
section
variable {X : Cx} {Δ : DC} {C f : Addr} {fd : FuncData} {ps : List Str} {k : Nat}
theorem call_lenO {sp : Sp} (F : FnOk X.prog X.w X.K X.mg X.base (L2.CX X.prog X.w) k f fd ps sp) (hr : Room (k + 1) X.A) (hm : Meth X.K C "__len__" f) (hb : Binds X.K fd ps []) : CallR X (.builtin "len") (rLenO C sp) := by
  rintro pins s σ H xs us Q I r ⟨a, dx, fs, rfl, ea, h⟩
  obtain ⟨_, rfl, same⟩ := vals1 r
  cases same
  have ⟨mA, O, _⟩ := ins_get I.hok ea
  have ⟨od, J, _⟩ := O.look
  obtain ⟨m, fr⟩ := I.fr
  refine PySem.W.len_K fr I.ok.mod.kin J hm.at_ hm.fn ?_
  have hl := F.len _ _ _ _ h
  refine wpAny_call (codeAny_mono (F.run X.A.in1 X.stack s H ⟨[.ref a], []⟩ [.ref a] [.ref a] _ _ hr.in1 I.env0.in1 (by
    have := hb s [.ref a] I.kIn (by simpa using hl)
    simpa using this) (.cons rfl .nil) h) fun r s' hq => ?_)
  cases r with
  | error e => exact never_at pins σ H s e s' I hq
  | ok fl =>
    cases fl with
    | ret u =>
      obtain ⟨v, H', I', rv, n, ev, h0, h1, q⟩ := I.after hq
      subst ev
      obtain ⟨t, rfl⟩ := rv
      exact ⟨⟨h0, by omega⟩, .int n, H', I'.tok _, ⟨_, rfl⟩, q⟩
    | next => exact False.elim hq
    | brk => exact False.elim hq
    | cont => exact False.elim hq
def rdLenO (C : Addr) (sp : SpD) : RDC := fun ds M Q => ∃ x fs, ds = [x] ∧ insOf M x = some (C, fs) ∧ sp [x] M (fun v M' => ∃ n : Int, v = .int n ∧ 0 ≤ n ∧ n < 2 ^ 62 ∧ Q (.int n) M') (fun _ _ _ => False)
theorem snd_lenO {sp : SpD} : SndC X (rLenO C (liftSp X.K sp)) (rdLenO C sp) := by
  intro Δ I M H σ env G vs ds r Q Qd k ⟨x, fs, e, e1, q⟩
  subst e
  obtain ⟨v, rfl, rv⟩ := r.one_inv
  obtain ⟨a, dx, fvs, rfl, h1, h2⟩ := ins_of G.at_ rv e1
  refine ⟨a, dx, fvs, rfl, h1, Δ.F, I, M, [x], _, _, G.at_, .cons rv .nil, q, fun d M' I' H' v x A r' q => ?_, fun _ _ _ _ _ _ _ _ _ w => w⟩
  obtain ⟨n, e2, h0, h3, q⟩ := q
  subst e2
  exact ⟨n, r'.int_inv, h0, h3, k _ _ _ _ _ x (G.go x A) (.int n) q⟩
/-- a negative constant -/
def dNeg (de : DE) : DE := fun env M Q => de env M fun x M1 => ∃ i, x = .int i ∧ Q (.int (-i)) M1
theorem pd_neg {e : Expr} {te : TE} {de : DE} {pos : Pos} (h : PDe X Δ e te de) : PDe X Δ (.UnaryOp .USub e pos) (tUn (rU fun i => .int (-i)) te) (dNeg de) :=
  ⟨pe_un un_neg h.1, fun I M H σ env G Q Qd k q => h.2 I M H σ env G _ _ (fun x M1 I1 H1 v x1 G1 r1 ⟨i, e, q1⟩ => by
    subst e
    exact ⟨i, r1.int_inv, k _ _ _ _ _ x1 G1 (.int _) q1⟩) q⟩
end
/-- a comprehension's block, by one look -/
def blkB (N : List Str) (sc scope : Scope) (own : List (Str × Nat)) : Bool := decide (scope.kind = .function) && (scope.names.all (fun y => decide (scope.names.lookup y.1 = some y.2)) && (own.all (fun p => decide (N[p.2]? = some p.1)) &&
  (scope.names.all (fun y => !decide (y.2 = .free) || (decide (sc.names.lookup y.1 = some .cell) || decide (sc.names.lookup y.1 = some .free))) &&
    scope.names.all (fun y => !(decide (y.2 = .local) || decide (y.2 = .cell)) || (decide (y.1 ∈ own.map (·.1)) || decide (y.1 ∉ N))))))
theorem blkB_ok {N : List Str} {sc scope : Scope} {own : List (Str × Nat)} (h : blkB N sc scope own = true) : BlkOk N sc scope own := by
  obtain ⟨h1, h⟩ := He.ba h
  obtain ⟨h2, h⟩ := He.ba h
  obtain ⟨h3, h⟩ := He.ba h
  obtain ⟨h4, h5⟩ := He.ba h
  refine ⟨of_decide_eq_true h1, fun y hy => of_decide_eq_true (List.all_eq_true.mp h2 y hy), fun p hp => of_decide_eq_true (List.all_eq_true.mp h3 p hp), fun y hy e => ?_, fun y hy e => ?_⟩
  · have := List.all_eq_true.mp h4 y hy
    simpa [e] using this
  · have := List.all_eq_true.mp h5 y hy
    rcases e with e | e <;> simpa [e] using this
/-- f(e, .., k = v, ..) of a def without positional defaults -/
theorem kbn_of {K : PySem.W.Frag} {x qual : Str} {params : Arguments} {body : List Stmt} {scope : Scope} {kws : List (Str × V)} {f : Addr} {fd : FuncData} {ps : List Str} (F : FunD K x qual params body scope [] kws f fd) (n : Nat) (ks : List Str)
    (h : ∀ (kV doc pm : Value) (an : Option Addr) (cdv ct : Value) (us ws : List Value), us.length = n → ws.length = ks.length → bindArgs (PySem.W.fnOf x qual params body scope .none kV doc pm an cdv ct) ⟨us, ks.zip ws⟩ = pure (ps.zip (us ++ ws))) :
    KBn K fd ps n ks (fun us ws => us ++ ws) (fun vs zs => vs ++ zs) := by
  obtain ⟨_, _, _, kV, doc, pm, an, cdv, ct, _, rfl, _, _, dflt, _⟩ := F.ex
  rcases dflt with ⟨_, rfl⟩ | ⟨e, _⟩
  · exact ⟨fun s us ws _ l1 l2 => .of_eq (h kV doc pm an cdv ct us ws l1 l2), fun r rz => r.append rz⟩
  · exact absurd rfl e
end BB

set_option maxHeartbeats 4000000
namespace BB
open L2 PySem PySem.Spec PyProof.Rows

/-! ### a reading told by its data alone -/
abbrev still (F I0 : Hp) : DC := { F := F, I0 := I0, W := fun _ _ _ _ => False, Wd := fun _ _ _ _ => False }
def lfE (K : PySem.W.Frag) (I0 : Hp) (de : DE) : TE := fun σ H Q => ∃ F I M env Qd, Gd K (still F I0) I M H σ env ∧ de env M Qd ∧ ∀ d M' I' H' v, Ext I I' → Gd K (still F I0) I' M' H' σ env → Rp K I' v d → Qd d M' → Q v H'
def lfT (K : PySem.W.Frag) (I0 : Hp) (dt : DT) : TT := fun σ H Q => ∃ F I M env Qd, Gd K (still F I0) I M H σ env ∧ dt env M Qd ∧ ∀ b M' I' H', Ext I I' → Gd K (still F I0) I' M' H' σ env → Qd b M' → Q b H'
def lfW (K : PySem.W.Frag) (I0 : Hp) (vs : List Nat) (dg : DG) : TG := fun v σ H Q => ∃ F I M env d Qd, Gd K (still F I0) I M H σ env ∧ Rp K I v d ∧ dg d env M Qd ∧
  ∀ env' M' I' H' σ', Ext I I' → Gd K (still F I0) I' M' H' σ' env' → L2.wipe σ' vs = L2.wipe σ vs → Qd env' M' → Q σ' H'
section
variable {X : Cx} {I0 : Hp} {e tg : Expr} {ifs : List Expr} {de : DE} {dt : DT} {dg : DG} {vs : List Nat}
theorem lf_e (h : ∀ F, ∃ te, PDe X (still F I0) e te de) (F : Hp) : PDe X (still F I0) e (lfE X.K I0 de) de :=
  ⟨⟨fun pins s σ H Q I ⟨F', I1, M, env, Qd, G, q, k⟩ => by
    obtain ⟨te, p, sn⟩ := h F'
    exact p.run pins s σ H Q I (sn I1 M H σ env G Q Qd k q)⟩, fun I M H σ env G Q Qd k q => ⟨F, I, M, env, Qd, G, q, k⟩⟩
theorem lf_t (h : ∀ F, ∃ t, PDts X (still F I0) ifs t dt) (F : Hp) : PDts X (still F I0) ifs (lfT X.K I0 dt) dt :=
  ⟨⟨fun pins s σ H Q I ⟨F', I1, M, env, Qd, G, q, k⟩ => by
    obtain ⟨te, p, sn⟩ := h F'
    exact p.run pins s σ H Q I (sn I1 M H σ env G Q Qd k q)⟩, fun I M H σ env G Q Qd k q => ⟨F, I, M, env, Qd, G, q, k⟩⟩
theorem lf_w (h : ∀ F, ∃ g, PDgw X (still F I0) vs tg g dg) (F : Hp) : PDgw X (still F I0) vs tg (lfW X.K I0 vs dg) dg :=
  ⟨⟨fun pins s σ H v u Q I r ⟨F', I1, M, env, d, Qd, G, rd, q, k⟩ => by
    obtain ⟨te, p, sn⟩ := h F'
    exact p.run pins s σ H v u Q I r (sn I1 M H σ env G v d rd Q Qd k q)⟩, fun I M H σ env G v d r Q Qd k q => ⟨F, I, M, env, d, Qd, G, r, q, k⟩⟩
end
section
variable {X : Cx} {Δ : DC} {de : DE} {dt : DT} {dg : DG} {wi : TI} {di : DI}
theorem pd_lcX {elt tg iter : Expr} {ifs : List Expr} {scope : Scope} {own : List (Str × Nat)} {pos : Pos} (hc : X.calm = true) (hN : X.N.Nodup) (hi : PDi X Δ tg iter wi di) (ok : BlkOk X.N X.env.scope scope own)
    (hg : ∀ (s : Shared) (H : Hp) (C : Addr) (cl : List (Str × Addr)) (fp : List Addr) (F : Hp), ∃ g, PDgw (X.blk s H scope (compEnvC scope cl C X.env) fp) (still F Δ.I0) (own.map (·.2)) tg g dg)
    (ht : ∀ (s : Shared) (H : Hp) (C : Addr) (cl : List (Str × Addr)) (fp : List Addr) (F : Hp), ∃ t, PDts (X.blk s H scope (compEnvC scope cl C X.env) fp) (still F Δ.I0) ifs t dt)
    (he : ∀ (s : Shared) (H : Hp) (C : Addr) (cl : List (Str × Addr)) (fp : List Addr) (F : Hp), ∃ te, PDe (X.blk s H scope (compEnvC scope cl C X.env) fp) (still F Δ.I0) elt te de) (hs : ∀ x, foldedSetIterable iter X.env x = pure x := by intro _; rfl) :
    PDe X Δ (.ListComp elt [⟨tg, iter, ifs, 0⟩] scope pos) (tLc wi (lfW X.K Δ.I0 (own.map (·.2)) dg) (lfT X.K Δ.I0 dt) (lfE X.K Δ.I0 de) (own.map (·.2))) (dLc di dg dt de (own.map (·.2))) :=
  pd_lc hc hN hi ok (fun s H C cl fp F => lf_w (hg s H C cl fp) F) (fun s H C cl fp F => lf_t (ht s H C cl fp) F) (fun s H C cl fp F => lf_e (he s H C cl fp) F) hs
theorem pds_setLcX {i : Nat} {y : Str} {py : Pos} {elt tg iter : Expr} {ifs : List Expr} {scope : Scope} {own : List (Str × Nat)} {pos spos : Pos} (hc : X.calm = true) (hN : X.N.Nodup) (hy : X.N[i]? = some y) (hyl : X.env.scope.names.lookup y = some .local)
    (hsw : swapsWith (.ListComp elt [⟨tg, iter, ifs, 0⟩] scope pos) (some (.Name y py)) spos.line X.env = pure true) (hi : PDi X Δ tg iter wi di) (ok : BlkOk X.N X.env.scope scope own)
    (hg : ∀ (s : Shared) (H : Hp) (C : Addr) (cl : List (Str × Addr)) (fp : List Addr) (F : Hp), ∃ g, PDgw (X.blk s H scope (compEnvC scope cl C X.env) fp) (still F Δ.I0) (own.map (·.2)) tg g dg)
    (ht : ∀ (s : Shared) (H : Hp) (C : Addr) (cl : List (Str × Addr)) (fp : List Addr) (F : Hp), ∃ t, PDts (X.blk s H scope (compEnvC scope cl C X.env) fp) (still F Δ.I0) ifs t dt)
    (he : ∀ (s : Shared) (H : Hp) (C : Addr) (cl : List (Str × Addr)) (fp : List Addr) (F : Hp), ∃ te, PDe (X.blk s H scope (compEnvC scope cl C X.env) fp) (still F Δ.I0) elt te de) (hs : ∀ x, foldedSetIterable iter X.env x = pure x := by intro _; rfl) :
    PDs X Δ (.Assign [.Name y py] (.ListComp elt [⟨tg, iter, ifs, 0⟩] scope pos) spos) (tAsg (tLc wi (lfW X.K Δ.I0 (own.map (·.2)) dg) (lfT X.K Δ.I0 dt) (lfE X.K Δ.I0 de) (own.map (·.2))) (gName i)) (dSet i (dLc di dg dt de (own.map (·.2)))) :=
  pds_setLc hc hN hy hyl hsw hi ok (fun s H C cl fp F => lf_w (hg s H C cl fp) F) (fun s H C cl fp F => lf_t (ht s H C cl fp) F) (fun s H C cl fp F => lf_e (he s H C cl fp) F) hs

/-! ### try -/
variable {x n : Str} {c : Value} {i : Nat} {body suite : List Stmt} {b₀ : Stmt} {np pos pos' : Pos} {db : DW → DS} {us : Addr → Value → List (Str × D) → DS}
abbrev LinkOk (K : PySem.W.Frag) (Δ : DC) : Prop := ∀ {I M H σ env c fs d}, Gd K Δ I M H σ env → ExcR K I fs d → Δ.Wd c fs env M → Δ.W c d σ H
def lfB (X : Cx) (Δ : DC) (db : DW → DS) : WX → TS := fun W T σ H => ∃ I0 Wd I M env Td, Ext Δ.I0 I0 ∧ LinkOk X.K (Δ.try_ I0 W Wd) ∧ Gd X.K (Δ.try_ I0 W Wd) I M H σ env ∧ EndsR X (Δ.try_ I0 W Wd) I T Td ∧ db Wd Td env M
def lfU (X : Cx) (Δ : DC) (us : Addr → Value → List (Str × D) → DS) : Addr → Value → Option Addr → TS := fun a cls d T σ H => ∃ I0 fs I M env Td, ExcR X.K I0 fs d ∧ Gd X.K (Δ.try_ I0 noW noD) I M H σ env ∧ EndsR X (Δ.try_ I0 noW noD) I T Td ∧ us a cls fs Td env M
abbrev BodyX (X : Cx) (Δ : DC) (body : List Stmt) (db : DW → DS) : Prop :=
  ∀ (I0 : Hp) (W : WX) (Wd : DW) (pn : List (Addr × Obj)) (xe : Value → Shared → Prop), Ext Δ.I0 I0 → XOk (X.tr pn xe) (Δ.try_ I0 W Wd) → PassesOwn (model X.prog X.w) X.A X.env xe → ∃ t, PDss (X.tr pn xe) (Δ.try_ I0 W Wd) body t (db Wd)
abbrev SuiteX (X : Cx) (Δ : DC) (suite : List Stmt) (us : Addr → Value → List (Str × D) → DS) : Prop :=
  ∀ (a : Addr) (oe : Obj) (cls : Value) (d : Option Addr) (pn : List (Addr × Obj)) (I0 : Hp) (fs : List (Str × D)), Zc cls d oe → (∃ vs, oe.data = .fields vs) → ExcR X.K I0 fs d → ∃ t, PDss (X.suite a ((a, oe) :: pn)) (Δ.try_ I0 noW noD) suite t (us a cls fs)
theorem bodyX (h : BodyX X Δ body db) : BodyOk X Δ body (lfB X Δ db) db := fun I0 W Wd pn xe x0 xo po =>
  ⟨⟨fun pins s σ H D I ⟨I0', Wd', I1, M, env, Td, x1, lk, G, R, q⟩ => by
    obtain ⟨t, p, sn⟩ := h I0' W Wd' pn xe x1 ⟨xo.takes, fun {I M H σ env c fs d} G' er w => lk G' er w⟩ po
    exact p.run pins s σ H D I (sn I1 M H σ env G D Td ⟨R.nx, R.bk, R.ct, R.rt⟩ q)⟩, fun I M H σ env G T Td R q => ⟨I0, Wd, I, M, env, Td, x0, fun {I M H σ env c fs d} G' er w => xo.link G' er w, G, ⟨R.nx, R.bk, R.ct, R.rt⟩, q⟩⟩
theorem suiteX (h : SuiteX X Δ suite us) : SuiteOk X Δ suite (lfU X Δ us) us := fun a oe cls d pn I0 fs hz hf er =>
  ⟨⟨fun pins s σ H D I ⟨I0', fs', I1, M, env, Td, er', G, R, q⟩ => by
    obtain ⟨t, p, sn⟩ := h a oe cls d pn I0' fs' hz hf er'
    exact p.run pins s σ H D I (sn I1 M H σ env G D Td ⟨R.nx, R.bk, R.ct, R.rt⟩ q)⟩, fun I M H σ env G T Td R q => ⟨I0, fs, I, M, env, Td, er, G, ⟨R.nx, R.bk, R.ct, R.rt⟩, q⟩⟩
theorem pds_tryAsX (hs : X.stack = X.env :: X.outer) (hf : X.env.frame = some X.env.locals) (hex : X.ex = []) (hN : X.N.Nodup) (hi : X.N[i]? = some n) (hln : X.env.kindOf n = some .local) (hc : Names X x c) (xo : XOk X Δ)
    (hb : BodyX X Δ body db) (hsu : SuiteX X Δ (b₀ :: suite) us) :
    PDs X Δ (.Try body [.ExceptHandler (some (.Name x np)) (some n) (b₀ :: suite) pos'] [] [] pos) (fun D σ H => lfB X Δ db (wAs X.K c i (lfU X Δ us) Δ.W D) D σ H) (dTryAs X.K c i us Δ.Wd db) :=
  pds_tryAs hs hf hex hN hi hln hc xo (bodyX hb) (suiteX hsu)
theorem pds_tryOnlyX (hs : X.stack = X.env :: X.outer) (hf : X.env.frame = some X.env.locals) (hex : X.ex = []) (hc : Names X x c) (xo : XOk X Δ)
    (hb : BodyX X Δ body db) (hsu : SuiteX X Δ (b₀ :: suite) us) :
    PDs X Δ (.Try body [.ExceptHandler (some (.Name x np)) none (b₀ :: suite) pos'] [] [] pos) (fun D σ H => lfB X Δ db (wOnly X.K c (lfU X Δ us) Δ.W D) D σ H) (dTryOnly X.K c us Δ.Wd db) :=
  pds_tryOnly hs hf hex hc xo (bodyX hb) (suiteX hsu)
end
end BB

set_option maxHeartbeats 4000000
namespace BB
open L2 PySem PySem.Spec PyProof.Rows

/-! ### stepping through a reading -/
section
variable {env : Env} {M : Mem} {Q : DKt} {T : EndsD} {de da db dc : DE} {dt du : DT} {dl dr : DA} {d : D} {i : Nat}
theorem i_var (h : env[i]? = some (some d)) (q : Q d M) : dVar i env M Q := ⟨d, h, q⟩
theorem i_c (q : Q d M) : dC d env M Q := q
theorem i_n (q : de env M fun x M1 => Q (nrm x) M1) : dN de env M Q := q
theorem i_op {rd : RD2} (q : da env M fun x M1 => db env M1 fun y M2 => rd x y M2 Q) : dOp rd da db env M Q := q
theorem i_rdo {f : Mem → D → D → Option D} {x y : D} (h : f M x y = some d) (q : Q d M) : rdO f x y M Q := ⟨d, h, q⟩
theorem i_test {P : Bool → Mem → Prop} (q : de env M fun x M1 => ∃ k, x = .bl k ∧ P k M1) : dTest de env M P := q
theorem i_chain {rd rd' : RD2} (q : da env M fun x M1 => db env M1 fun y M2 => rd x y M2 fun z M3 => ∃ k, z = .bl k ∧ (if k = true then dc env M3 fun w M4 => rd' y w M4 Q else Q (.bl false) M3)) : dChain rd rd' da db dc env M Q := q
theorem i_tru {P : Bool → Mem → Prop} (q : de env M fun d M1 => ∃ b, dTruth M1 d = some b ∧ P b M1) : dTru de env M P := q
theorem i_and {P : Bool → Mem → Prop} (q : dt env M fun c M1 => if c = true then du env M1 P else P false M1) : dAnd dt du env M P := q
theorem i_or {P : Bool → Mem → Prop} (q : dt env M fun c M1 => if c = true then P true M1 else du env M1 P) : dOr dt du env M P := q
theorem i_not {P : Bool → Mem → Prop} (q : dt env M fun c M1 => P (!c) M1) : dNot dt env M P := q
theorem i_andv (q : da env M fun x M1 => ∃ c, x = .bl c ∧ if c = true then db env M1 Q else Q (.bl false) M1) : dAndV da db env M Q := q
theorem i_orv (q : da env M fun x M1 => ∃ c, x = .bl c ∧ if c = true then Q (.bl true) M1 else db env M1 Q) : dOrV da db env M Q := q
theorem i_notv (q : da env M fun x M1 => ∃ c, dTruth M1 x = some c ∧ Q (.bl (!c)) M1) : dNotV da env M Q := q
theorem i_ifx (q : dt env M fun c M1 => if c = true then da env M1 Q else db env M1 Q) : dIf dt da db env M Q := q
theorem i_nil {P : List D → Mem → Prop} (q : P [] M) : dNil env M P := q
theorem i_cons {P : List D → Mem → Prop} (q : da env M fun x M1 => dr env M1 fun xs M2 => P (x :: xs) M2) : dCons da dr env M P := q
theorem i_tup (q : dl env M fun xs M1 => xs.length ≤ sizeLine ∧ Q (.tup xs) M1) : dTup dl env M Q := q
theorem i_lst (q : dl env M fun xs M1 => xs.length ≤ sizeLine ∧ Q (.lst xs) M1) : dLst dl env M Q := q
theorem i_lstM (q : dl env M fun xs M1 => xs.length ≤ sizeLine ∧ ∀ p, M1 p = none → Q (.ref p) (mset M1 p (.lst xs))) : dLstM dl env M Q := q
theorem i_neg (q : de env M fun x M1 => ∃ i, x = .int i ∧ Q (.int (-i)) M1) : dNeg de env M Q := q
theorem i_cb {rd : RDC} (q : dl env M fun ds M1 => rd ds M1 Q) : dCB rd dl env M Q := q
theorem i_rd1 {f : Mem → D → Option D} {x : D} (h : f M x = some d) (q : Q d M) : rd1 f [x] M Q := ⟨x, rfl, d, h, q⟩
theorem i_call {Wd : DW} {sp : SpD} {dds : List D} (q : dl env M fun us M1 => sp (us ++ dds) M1 Q fun c fs M' => Wd c fs env M') : dCall Wd sp dds dl env M Q := q
theorem i_callK {Wd : DW} {n m : Nat} {sp : SpD} {gD : List D → List D → List D} {dk : DA} (q : dl env M fun us M1 => dk env M1 fun zs M2 => us.length = n ∧ zs.length = m ∧ sp (gD us zs) M2 Q fun c fs M' => Wd c fs env M') : dCallK Wd n m sp gD dl dk env M Q := q
theorem i_meth {Wd : DW} {C : Addr} {m : Str} {sp : SpD} {dds : List D} (q : da env M fun x M1 => ∃ fs, insOf M1 x = some (C, fs) ∧ fs.lookup m = none ∧ dl env M1 fun us M2 => sp (x :: (us ++ dds)) M2 Q fun c fs M' => Wd c fs env M') : dMeth Wd C m sp dds da dl env M Q := q
theorem i_fld {C : Addr} {f : Str} (q : da env M fun x M1 => ∃ fs, insOf M1 x = some (C, fs) ∧ ∃ d, fs.lookup f = some d ∧ Q d M1) : dFld C f da env M Q := q
theorem i_tupIx (q : da env M fun x M1 => ∃ ys : List Str, x = .ntup (ys.map .str) ∧ de env M1 fun y M2 => ∃ z, y = .str z ∧ z ∈ ys ∧ Q (.int (ixOf z ys : Nat)) M2) : dTupIx da de env M Q := q
theorem i_app (q : da env M fun x M1 => ∃ q xs0, x = .ref q ∧ M1 q = some (.lst xs0) ∧ de env M1 fun d M2 => ∃ xs, M2 q = some (.lst xs) ∧ xs.length < sizeLine ∧ Q .non (mset M2 q (.lst (xs ++ [d])))) : dApp da de env M Q := q
theorem i_join (q : da env M fun x M1 => ∃ a, x = .str a ∧ de env M1 fun y M2 => ∃ ys : List Str, seqOf M2 y = some (ys.map .str) ∧ (ys.map (·.length)).sum + ys.length * a.length ≤ 16777216 ∧ Q (.str (Txt.join a ys)) M2) : dJoin da de env M Q := q
theorem i_sl {dlo dhi : DO} (q : de env M fun x M1 => dlo env M1 fun l M2 => dhi env M2 fun u M3 => ∃ d, slD M3 x l u = some d ∧ Q d M3) : dSl de dlo dhi env M Q := q
theorem i_part {P : Option Int → Mem → Prop} (q : de env M fun x M1 => ∃ i, x = .int i ∧ P (some i) M1) : dPart de env M P := q
theorem i_nopart {P : Option Int → Mem → Prop} (q : P none M) : dNoPart env M P := q
/-! statements -/
variable {ds ds' : DS} {dg : DG} {dgs : DGs} {di : DI}
theorem i_next (q : T.nx env M) : dNext T env M := q
theorem i_seq (q : ds { T with nx := FzS (ds' T) } env M) : dSeq ds ds' T env M := q
theorem i_drop (q : de env M fun _ M1 => T.nx env M1) : dDrop de T env M := q
theorem i_ret (q : de env M T.rt) : dRet de T env M := q
theorem i_retN (q : T.rt .non M) : dRetN T env M := q
theorem i_if (q : dt env M fun b M1 => if b = true then ds T env M1 else ds' T env M1) : dIfS dt ds ds' T env M := q
theorem i_raise {Wd : DW} {C : Addr} (q : Wd (.ref C) [] env M) : dRaise Wd C T env M := q
theorem i_raiseI {Wd : DW} {C : Addr} {fn : Str} (q : de env M fun d M1 => Wd (.ref C) [(fn, d)] env M1) : dRaiseI Wd C fn de T env M := q
theorem i_setF {C : Addr} {f : Str} (q : de env M fun d M1 => da env M1 fun x M2 => ∃ p fs, x = .ref p ∧ M2 p = some (.ins C fs) ∧ fs.length < 1000 ∧ T.nx env (mset M2 p (.ins C (putD f d fs)))) : dSetF C f da de T env M := q
theorem i_set (q : de env M fun d M1 => T.nx (env.set i (some d)) M1) : dSet i de T env M := q
theorem i_asg (q : de env M fun d M1 => dg d env M1 T.nx) : dAsg de dg T env M := q
theorem i_gname {P : Env → Mem → Prop} (q : P (env.set i (some d)) M) : gdName i d env M P := q
theorem i_gtupN {P : Env → Mem → Prop} {n : Nat} {xs : List D} {d : D} (e : nrm d = .tup xs) (h : xs.length = n) (q : dgs xs env M P) : gdTup n dgs d env M P := ⟨xs, e, h, q⟩
theorem i_gtup {P : Env → Mem → Prop} {n : Nat} {xs : List D} (h : xs.length = n) (q : dgs xs env M P) : gdTup n dgs (.tup xs) env M P := ⟨xs, rfl, h, q⟩
theorem i_gcons {P : Env → Mem → Prop} {x : D} {xs : List D} (q : dg x env M fun env' M' => dgs xs env' M' P) : gdCons dg dgs (x :: xs) env M P := ⟨x, xs, rfl, q⟩
theorem i_gnil {P : Env → Mem → Prop} (q : P env M) : gdNil [] env M P := ⟨rfl, q⟩
/-- what is walked of a value -/
def wkD (M : Mem) (d : D) (R : List D → (Mem → Prop) → Mem → Prop) : Prop := match d with
  | .tup xs => R xs (fun _ => True) M
  | .lst xs => R xs (fun _ => True) M
  | .frz xs => R xs (fun _ => True) M
  | .str z => R (signs z) (fun _ => True) M
  | .ref p => ∃ xs, M p = some (.lst xs) ∧ R xs (fun M => M p = some (.lst xs)) M
  | _ => False
theorem wk_tup {xs : List D} {R : List D → (Mem → Prop) → Mem → Prop} (q : R xs (fun _ => True) M) : wkD M (.tup xs) R := q
theorem wk_lst {xs : List D} {R : List D → (Mem → Prop) → Mem → Prop} (q : R xs (fun _ => True) M) : wkD M (.lst xs) R := q
theorem wk_str {z : Str} {R : List D → (Mem → Prop) → Mem → Prop} (q : R (signs z) (fun _ => True) M) : wkD M (.str z) R := q
theorem wk_ref {p : Addr} {xs : List D} {R : List D → (Mem → Prop) → Mem → Prop} (h : M p = some (.lst xs)) (q : R xs (fun M => M p = some (.lst xs)) M) : wkD M (.ref p) R := ⟨xs, h, q⟩
theorem i_seqI {R : List D → (Mem → Prop) → Mem → Prop} (q : de env M fun d M1 => wkD M1 d R) : dSeqI de env M R := q
theorem i_yes {P : Bool → Mem → Prop} (q : P true M) : dYes env M P := q
theorem i_all {bs : List Bool} {x : D} (h : lstOf M x = some (bs.map D.bl)) (q : Q (.bl (bs.all id)) M) : rdAll [x] M Q := ⟨x, rfl, bs, h, q⟩
theorem signs_at {z : Str} {i : Nat} {d : D} (h : (signs z)[i]? = some d) : ∃ c, z.cps.toList[i]? = some c ∧ d = .str ⟨#[c]⟩ := by
  unfold signs at h
  rw [List.getElem?_map] at h
  cases e : z.cps.toList[i]? with
  | none => rw [e] at h; exact nomatch h
  | some c => rw [e] at h; exact ⟨c, rfl, (Option.some.inj h).symm⟩
theorem atI_nat {α : Type} {xs : List α} {i : Nat} {x : α} (h : xs[i]? = some x) : atI xs (i : Int) = some x := by
  have hl : i < xs.length := (List.getElem?_eq_some_iff.mp h).1
  unfold atI ixN
  rw [if_pos (by omega), if_pos (by omega)]
  show xs[((i : Nat) : Int).toNat]? = some x
  rw [Int.toNat_natCast]
  exact h
theorem ix_seq_of {x : D} {xs : List D} {i : Nat} (h1 : ∀ z, x ≠ .str z) (h : seqOf M x = some xs) (e : xs[i]? = some d) : ixD M x (.int (i : Nat)) = some d := by
  have : ixD M x (.int (i : Nat)) = (seqOf M x).bind fun xs => atI xs (i : Int) := by
    cases x <;> first | rfl | exact absurd rfl (h1 _)
  rw [this, h]
  exact atI_nat e
theorem ix_tup {xs : List D} {i : Nat} (e : xs[i]? = some d) : ixD M (.tup xs) (.int (i : Nat)) = some d := ix_seq_of (fun _ z => by cases z) rfl e
theorem ix_lst {xs : List D} {i : Nat} (e : xs[i]? = some d) : ixD M (.lst xs) (.int (i : Nat)) = some d := ix_seq_of (fun _ z => by cases z) rfl e
theorem i_rng1 {R : List D → (Mem → Prop) → Mem → Prop} (q : dl env M fun ds M1 => ∃ j : Int, ds = [.int j] ∧ -(2 ^ 62) ≤ j ∧ j < 2 ^ 62 ∧ R (rngD 0 j.toNat) (fun _ => True) M1) : dRng1 dl env M R := q
theorem i_enum {R : List D → (Mem → Prop) → Mem → Prop} (q : dl env M fun ds M1 => ∃ x xs, ds = [x] ∧ fixOf x = some xs ∧ R (enumD xs) (fun _ => True) M1) : dEnum dl env M R := q
theorem i_zip2 {R : List D → (Mem → Prop) → Mem → Prop} (q : dl env M fun ds M1 => ∃ x y xs ys, ds = [x, y] ∧ fixOf x = some xs ∧ fixOf y = some ys ∧ R (zip2D xs ys) (fun _ => True) M1) : dZip2 dl env M R := q
/-- for: by an invariant -/
theorem i_for (q : di env M fun xs keep M1 => ∃ P : Nat → Env → Mem → Prop, P 0 env M1 ∧ (∀ i env M, P i env M → keep M) ∧
  (∀ i d env M, xs[i]? = some d → P i env M → dg d env M fun env' M' => ds { T with nx := FzS (P (i + 1)), ct := FzS (P (i + 1)), bk := T.nx } env' M') ∧ ∀ env M, P xs.length env M → T.nx env M) : dFor di dg ds T env M := q
theorem i_lc {vs : List Nat} (q : di env M fun xs keep M1 => xs.length ≤ sizeLine ∧ ∃ P : Nat → List D → Mem → Prop, P 0 [] M1 ∧ (∀ i acc M, P i acc M → keep M) ∧
  (∀ i d acc M, xs[i]? = some d → P i acc M → dg d (wipeD env vs) M fun env2 M2 => dt env2 M2 fun b M3 => if b = true then de env2 M3 fun y M4 => P (i + 1) (acc ++ [y]) M4 else P (i + 1) acc M3) ∧ ∀ acc M, P xs.length acc M → Q (.lst acc) M) : dLc di dg dt de vs env M Q := q
theorem i_itt {A B : Prop} (q : A) : if true = true then A else B := by rw [if_pos rfl]; exact q
theorem i_itf {A B : Prop} (q : B) : if false = true then A else B := by rw [if_neg Bool.false_ne_true]; exact q
theorem i_nf {A B : Prop} (q : A) : if (!false) = true then A else B := q
theorem i_nt {A B : Prop} (q : B) : if (!true) = true then A else B := q
theorem i_dt {p : Prop} [Decidable p] {A B : Prop} (h : p) (q : A) : if decide p = true then A else B := by rw [if_pos (decide_eq_true h)]; exact q
theorem i_df {p : Prop} [Decidable p] {A B : Prop} (h : ¬p) (q : B) : if decide p = true then A else B := by rw [if_neg (by simpa using h)]; exact q
theorem i_isi {x : D} {n T : String} {b : Bool} (h1 : tyD M x = some T) (h2 : kitB T n = some b) (q : Q (.bl b) M) : rdIsi [x, .ty n] M Q := ⟨x, n, rfl, T, b, h1, h2, q⟩
theorem take_map_succ {α β : Type} {xs : List α} {i : Nat} {d : α} (f : α → β) (h : xs[i]? = some d) : (xs.take i).map f ++ [f d] = (xs.take (i + 1)).map f := by
  rw [List.take_succ, h, List.map_append]; rfl
theorem take_succ_of {α : Type} {xs : List α} {i : Nat} {d : α} (h : xs[i]? = some d) : xs.take i ++ [d] = xs.take (i + 1) := by
  rw [List.take_succ, h]; rfl
end
theorem kb_int_int : kitB "int" "int" = some true := by decide +kernel
theorem kb_int_bool : kitB "int" "bool" = some false := by decide +kernel
theorem kb_str_str : kitB "str" "str" = some true := by decide +kernel
theorem kb_tup_tup : kitB "tuple" "tuple" = some true := by decide +kernel
theorem kb_int_tup : kitB "int" "tuple" = some false := by decide +kernel
theorem kb_int_str : kitB "int" "str" = some false := by decide +kernel
end BB

set_option maxHeartbeats 4000000
namespace BB
open L2 PySem PySem.Spec PyProof.Rows
section
variable {M : Mem} {Q : DKt}
theorem i_eqI {i j : Int} (q : Q (.bl (decide (i = j))) M) : rdEq (.int i) (.int j) M Q := ⟨.int i, .int j, rfl, rfl, rfl, rfl, q⟩
theorem i_neI {i j : Int} (q : Q (.bl (!decide (i = j))) M) : rdNe (.int i) (.int j) M Q := ⟨.int i, .int j, rfl, rfl, rfl, rfl, q⟩
theorem i_neB {a b : Bool} (q : Q (.bl (!decide (a = b))) M) : rdNe (.bl a) (.bl b) M Q := ⟨.bool a, .bool b, rfl, rfl, rfl, rfl, by
  have : PyData.eqv (.bool a) (.bool b) = decide (a = b) := by cases a <;> cases b <;> rfl
  rw [this]; exact q⟩
/-- the same data, told apart from itself -/
theorem i_neSame {x y : D} {p : PyData} (h1 : pyOf M x = some p) (h2 : pyOf M y = some p) (h : SeqAt.shaped p = true) (q : Q (.bl false) M) : rdNe x y M Q := ⟨p, p, h1, h2, h, h, by
  rw [SeqAt.eqv_refl p (SeqAt.canLay_of_shaped h)]; exact q⟩
theorem i_eqSame {x y : D} {p : PyData} (h1 : pyOf M x = some p) (h2 : pyOf M y = some p) (h : SeqAt.shaped p = true) (q : Q (.bl true) M) : rdEq x y M Q := ⟨p, p, h1, h2, h, h, by
  rw [SeqAt.eqv_refl p (SeqAt.canLay_of_shaped h)]; exact q⟩
theorem cut_none {α : Type} {xs : List α} : cutD xs none none = xs := sIx_whole ⟨rfl, rfl⟩
theorem cut_to {α : Type} (xs : List α) (n : Nat) : cutD xs none (some (n : Int)) = xs.take n := by
  unfold cutD
  rw [HT.sIx_none, HT.sIx_nat, List.drop_zero, Nat.sub_zero]
  by_cases h : n ≤ xs.length
  · rw [Nat.min_eq_left h]
  · rw [Nat.min_eq_right (by omega), List.take_of_length_le (Nat.le_refl _), List.take_of_length_le (by omega)]
theorem cut_from {α : Type} (xs : List α) (n : Nat) : cutD xs (some (n : Int)) none = xs.drop n := by
  unfold cutD
  rw [HT.sIx_none, HT.sIx_nat]
  by_cases h : n ≤ xs.length
  · rw [Nat.min_eq_left h, List.take_of_length_le (by rw [List.length_drop]; omega)]
  · rw [Nat.min_eq_right (by omega), List.drop_eq_nil_of_le (Nat.le_refl _), List.drop_eq_nil_of_le (by omega), List.take_nil]
theorem cut_mid {α : Type} (xs : List α) (m n : Nat) (h : m ≤ n) : cutD xs (some (m : Int)) (some (n : Int)) = (xs.take n).drop m := by
  unfold cutD
  rw [HT.sIx_nat, HT.sIx_nat, ← List.drop_take]
  by_cases h1 : n ≤ xs.length
  · rw [Nat.min_eq_left h1, Nat.min_eq_left (by omega)]
  · rw [Nat.min_eq_right (by omega : xs.length ≤ n), List.take_of_length_le (Nat.le_refl _), List.take_of_length_le (show xs.length ≤ n by omega)]
    by_cases h2 : m ≤ xs.length
    · rw [Nat.min_eq_left h2]
    · rw [Nat.min_eq_right (by omega), List.drop_eq_nil_of_le (Nat.le_refl _), List.drop_eq_nil_of_le (by omega)]
theorem eqF_str (a b : Str) : eqF (.str a) (.str b) = decide (a = b) := by
  show (a == b) = _
  by_cases h : a = b
  · rw [decide_eq_true h, h]; exact beq_self_eq_true b
  · rw [decide_eq_false h]; exact beq_eq_false_iff_ne.mpr h
theorem inF_strs (z : Str) : ∀ zs : List Str, inF (.str z) (zs.map .str) = decide (z ∈ zs)
  | [] => rfl
  | y :: ys => by
    have ih := inF_strs z ys
    unfold inF at ih ⊢
    rw [List.map_cons, List.any_cons, ih, eqF_str]
    by_cases h : y = z
    · rw [decide_eq_true h, Bool.true_or, decide_eq_true (by rw [h]; exact List.mem_cons_self)]
    · rw [decide_eq_false h, Bool.false_or]
      by_cases h2 : z ∈ ys
      · rw [decide_eq_true h2, decide_eq_true (List.mem_cons_of_mem _ h2)]
      · rw [decide_eq_false h2, decide_eq_false (by intro w; rcases List.mem_cons.mp w with w | w; exact h w.symm; exact h2 w)]
theorem flat_strs' (zs : List Str) : (zs.map D.str).all flatD = true := by rw [List.all_map]; exact List.all_eq_true.mpr fun _ _ => rfl
theorem i_inS {z : Str} {zs : List Str} {neg : Bool} {y : D} (h : seqOf M y = some (zs.map .str)) (q : Q (.bl (if neg then !decide (z ∈ zs) else decide (z ∈ zs))) M) : rdIn neg (.str z) y M Q :=
  .inl ⟨zs.map .str, h, rfl, flat_strs' zs, by rw [inF_strs]; exact q⟩
theorem strs_at {zs : List Str} {i : Nat} {d : D} (h : (zs.map D.str)[i]? = some d) : ∃ z, zs[i]? = some z ∧ d = .str z := by
  rw [List.getElem?_map] at h
  cases e : zs[i]? with
  | none => rw [e] at h; exact nomatch h
  | some c => rw [e] at h; exact ⟨c, rfl, (Option.some.inj h).symm⟩
theorem enum_at {zs : List Str} {i : Nat} {d : D} (h : (enumD (zs.map D.str))[i]? = some d) : ∃ z, zs[i]? = some z ∧ d = .tup [.int (i : Nat), .str z] := by
  obtain ⟨hlt, e⟩ := rowsD_get h
  rw [List.length_map] at hlt
  refine ⟨zs[i], by simp [hlt], ?_⟩
  rw [e]
  simp [hlt]
theorem zip2_at {xs ys : List Str} {i : Nat} {d : D} (h : (zip2D (xs.map D.str) (ys.map D.str))[i]? = some d) : ∃ x y, xs[i]? = some x ∧ ys[i]? = some y ∧ d = .tup [.str x, .str y] := by
  obtain ⟨hlt, e⟩ := rowsD_get h
  rw [List.length_map, List.length_map] at hlt
  have h1 : i < xs.length := by omega
  have h2 : i < ys.length := by omega
  exact ⟨xs[i], ys[i], by simp [h1], by simp [h2], by rw [e]; simp [h1, h2]⟩
theorem rng_at {lo : Int} {n i : Nat} {d : D} (h : (rngD lo n)[i]? = some d) : i < n ∧ d = .int (lo + (i : Nat)) := by
  have hlt : i < n := by
    have := (List.getElem?_eq_some_iff.mp h).1
    simpa [rngD] using this
  refine ⟨hlt, ?_⟩
  simp only [rngD, List.getElem?_map, List.getElem?_range hlt] at h
  simpa using h.symm
theorem rng_len {lo : Int} {n : Nat} : (rngD lo n).length = n := by simp [rngD]
theorem drop_at {α : Type} {xs : List α} {i : Nat} {x : α} (h : xs[i]? = some x) : xs.drop i = x :: xs.drop (i + 1) := by
  have hl : i < xs.length := (List.getElem?_eq_some_iff.mp h).1
  rw [List.drop_eq_getElem_cons hl]
  congr 1
  exact (List.getElem?_eq_some_iff.mp h).2
end
end BB

set_option maxHeartbeats 2000000
namespace BB
open L2 PySem PySem.Spec PyProof.Rows
/-! repr of plain things, where nothing is under way -/
def rRepr (K : PySem.W.Frag) : List V → Hp → VK → Prop := fun xs H Q => ∃ a d, xs = [.ref a] ∧ Dp K H (.ref a) d ∧ (d.showable = true ∧ d.hasDict = false ∧ d.depth ≤ 32 ∧ d.shown.length ≤ sizeLine) ∧ Q (.str d.shown) H
theorem call_repr {X : Cx} (quiet : X.A.guards = some []) (few : X.A.units + 64 < cLine) : CallR X (.builtin "repr") (rRepr X.K)
  | pins, s, σ, H, _, _, Q, I, .cons same .nil, ⟨a, d, one, stands, ⟨shows, noDict, flat, short⟩, q⟩ => by
    cases one; cases same
    have ⟨_, reads⟩ := stands.reads I _ _ _ rfl
    exact repr_of_reads' (h₀ := s.heap) reads shows (fun z => by rw [noDict] at z; cases z) quiet (by omega) (fun _ _ e => e) (fun h' u tk kp => ⟨.str _, H, I.kept (t' := tk) kp, ⟨u, rfl⟩, q⟩) short
def isSeqP : PyData → Bool
  | .list _ | .tuple _ => true
  | _ => false
def rdRepr : RDC := fun ds M Q => ∃ x p, ds = [x] ∧ pyOf M x = some p ∧ isSeqP p = true ∧ (p.showable = true ∧ p.hasDict = false ∧ p.depth ≤ 32 ∧ p.shown.length ≤ sizeLine) ∧ Q (.str p.shown) M
theorem snd_repr {X : Cx} : SndC X (rRepr X.K) rdRepr := by
  intro Δ I M H σ env G vs ds r Q Qd k ⟨x, p, e, hp, seq, ok, q⟩
  subst e
  obtain ⟨v, rfl, rv⟩ := r.one_inv
  have dp := pyOf_dp G.at_ rv hp
  have fin := k (.str p.shown) M I H (.str p.shown) (Ext.refl I) G (.str _) q
  cases dp with
  | lst h1 h2 => exact ⟨_, _, rfl, .lst h1 h2, ok, fin⟩
  | tup h1 h2 => exact ⟨_, _, rfl, .tup h1 h2, ok, fin⟩
  | _ => cases seq
end BB

set_option maxHeartbeats 2000000
namespace BB
open L2 PySem PySem.Spec PyProof.Rows
/-! a def's promise around one A alone -/
def FnAt (P : Program) (w : World) (K : PySem.W.Frag) (mg : Str → Option Value) (base : Heap) (CX : CXT) (A : Around) (f : Addr) (fd : FuncData) (ps : List Str) (sp : Sp) : Prop :=
  ∀ (outer : List PySem.Env) (s : Shared) (H : Hp) (args : Args) (us : List Value) (vs : List V) (Q : VK) (E : XK), Env0 P w K mg base A outer s H → BindsTo s fd args (ps.zip us) → Vals vs us → sp vs H Q E →
    codeAny (model P w) A (.call (.ref f) args) (CR CX outer P w H s Q E) s
theorem fnAt_of {CX : CXT} {P : Program} {w : World} {K : PySem.W.Frag} {mg : Str → Option Value} {base : Heap} {k : Nat} {f : Addr} {name qual : Str} {params : Arguments} {body : List Stmt} {scope : Scope} {dV kV doc pm cdv ct oc : Value} {an od : Option Addr}
    {osl : Array (Option Value)} {N ps : List Str} {sp : Sp} {A : Around} (lk : K.lookup f = some ⟨oc, od, .func (PySem.W.fnOf name qual params body scope dV kV doc pm an cdv ct), osl⟩) (hcd : PySem.W.codeIn K cdv qual = true) (S : FnScope N ps scope)
    (len : ∀ vs H Q E, sp vs H Q E → vs.length = ps.length) (hr : Room (k + 1) A)
    (inner : ∀ (outer : List PySem.Env) (s : Shared) (H : Hp) (vs : List V) (Q : VK) (E : XK), sp vs H Q E →
      ∃ t, PSs (cxOf CX P w K mg base N qual scope f cdv A outer s H E) body t ∧ t { nx := fun _ H' => Q .non H', rt := Q } (L2.start N vs) H) :
    FnAt P w K mg base CX A f (PySem.W.fnOf name qual params body scope dV kV doc pm an cdv ct) ps sp := by
  intro outer s H args us vs Q E at0 binds same asked
  have stands : ∀ {b : Addr} {o : Obj}, base.get? b = some o → s.heap.get? b = some o := fun e => (at0.bs _ _ e).1
  have inK : K.In s.heap := at0.mod.kin.keeps fun _ _ => stands
  have kinds : ∀ y ∈ ps.zip us, scope.names.lookup y.1 = some .local ∨ (scope.names.lookup y.1 = some .cell ∧ ((cellsFrom (s.heap.objs.size + 1) scope.names []).lookup y.1).isSome = true) :=
    fun y mem => (S.par y.1 (List.of_mem_zip (a := y.1) (b := y.2) mem).1).imp id fun z => ⟨z, PySem.W.cellsFrom_some _ _ _ (.inl z)⟩
  refine codeAny_call_function hr.depth (inK _ _ lk) rfl S.co S.gen rfl (PySem.W.codeRec_of inK hcd) (binds _ _ _ _ (wpAny_newFunctionEnv_cells S.kind kinds fun env isEnv s1 new => ?_))
  subst isEnv
  obtain ⟨t, walked, goal⟩ := inner outer s H vs Q E asked
  have I : L2.Inv (cxOf CX P w K mg base N qual scope f cdv A outer s H E) [] (L2.start N vs) H s1 := inv_start S hr.hd at0 (len _ _ _ _ asked) same new
  refine ⟨(at0.mod.nolimit.keeps fun _ _ => stands).keeps new.toInCall.keep, codeAny_func (wpAny_mono (walked.run [] s1 (L2.start N vs) H _ I goal) (fun fl s' hs => ?_) fun _ _ hs => hs)⟩
  cases fl with
  | ret u => obtain ⟨v, _, H', J, rv, q⟩ := hs; exact ⟨v, H', J.os, J.bare, J.base, J.hok, rv, q⟩
  | next => obtain ⟨_, H', J, q⟩ := hs; exact ⟨.non, H', J.os, J.bare, J.base, J.hok, rfl, q⟩
  | brk => obtain ⟨_, _, _, q⟩ := hs; exact q.elim
  | cont => obtain ⟨_, _, _, q⟩ := hs; exact q.elim
end BB

set_option maxHeartbeats 2000000
namespace BB
open L2 PySem PySem.Spec PyProof.Rows
/-! the law, called where nothing is under way, from its promise there -/
section
variable {P : Program} {w : World} {K : PySem.W.Frag} {mg mb : Str → Option Value} {CX : CXT} {k : Nat} {fa a : Addr} {fd : FuncData} {x : Str} {sp : Sp} {s₁ : Shared} {vs : List Value} {ns : List Int}
abbrev Ends1 (s₁ : Shared) (r : Result) (s' : Shared) : Prop := r = .ok (.ret (.bool true)) ∧ OldK s₁.heap s'.heap ∧ s'.os = s₁.os ∧ AllBare s'.gens
theorem law_from (KX : K.In s₁.heap) (gl : s₁.heap.Ns mainGlobals mg) (bl : s₁.heap.Ns builtinsNs mb) (boot : ∀ x : Str, x ≠ "__name__" → mb x = bootBuiltins x) (lim : s₁.heap.NoLimit) (noGen : s₁.gens = #[])
    (at1 : s₁.heap.get? a = some { cls := .type "list", data := .seq vs.toArray })
    (F : ∀ base : Heap, K.In base → base.Ns mainGlobals mg → FnAt P w K mg base CX callerA fa fd [x] sp) (binds : ∀ (s : Shared) (u : Value), BindsTo s fd ⟨[u], []⟩ [(x, u)])
    (noExc : ∀ H e s', CX [] H s₁ (fun _ _ _ => False) e s' → False) (H : Hp) (only : Only H) (ok : HOk P w H s₁.heap) (own : ∀ b, H b ≠ none → b = a ∧ K.lookup a = none)
    (asks : sp [.ref a] H (fun v _ => v = .bl true) fun _ _ _ => False) : codeAny (model P w) callerA (.call (.ref fa) ⟨[.ref a], []⟩) (Ends1 s₁) s₁ := by
  have seen : ∀ {b : Addr} {o : Obj}, s₁.heap.get? b = some o → (b = a → H a = none) → (hidT s₁.heap H).get? b = some o := fun {b o} e n => hidT_get e (Classical.byContradiction fun z => by
    have same := (own b z).1
    subst same
    exact z (n rfl))
  have names : ∀ {b : Addr} {m : Str → Option Value}, s₁.heap.Ns b m → (hidT s₁.heap H).Ns b m := fun {b m} ⟨o, es, ep, e, d, rest⟩ => ⟨o, es, ep, seen e (fun z => by
    subst z
    rw [at1] at e
    cases e
    exact nomatch d), d, rest⟩
  have inB : K.In (hidT s₁.heap H) := fun b o e => seen (KX b o e) fun z => Classical.byContradiction fun n => by
    subst z
    rw [(own b n).2] at e
    cases e
  obtain ⟨mc, lim1, lim2⟩ := lim
  have begin0 : Env0 P w K mg (hidT s₁.heap H) callerA [] s₁ H := ⟨rfl, ⟨inB, names gl, ⟨mb, names bl, boot⟩, ⟨mc, names lim1, lim2⟩⟩, fun _ _ e => of_hidT e, Nat.le_of_eq (hidT_size _ _), trivial, fun _ z => (by cases z), ok, .of_eq noGen⟩
  refine codeAny_mono (F _ inB (names gl) [] s₁ H ⟨[.ref a], []⟩ [.ref a] [.ref a] _ _ begin0 (binds s₁ _) (.cons rfl .nil) asks) fun
    | .ok (.ret u), s', ⟨_, H', os, bare, un, ok', same, yes⟩ => ?_
    | .error e, s', h => (noExc H e s' h).elim
    | .ok .next, _, h => h.elim
    | .ok .brk, _, h => h.elim
    | .ok .cont, _, h => h.elim
  have yes' : _ = V.bl true := yes
  subst yes'
  cases same
  refine ⟨rfl, OldK.of_keep fun b o e => ?_, os, bare⟩
  rcases only b with free | ⟨ob, xs, frz⟩
  · exact un.keep b o e free (fun z => by cases z) (by simp)
  · have was := (ok b _ frz).1
    rw [was] at e
    cases e
    exact (ok' b _ (un.frzs b _ _ frz)).1
end
end BB

set_option maxHeartbeats 2000000
namespace BB
open L2 PySem PySem.Spec PyProof.Rows
/-! a law's end where its def's promise is asked at callerA alone -/
/-- the script: an own object of the module, or tracked by itself -/
theorem script_at {P : Program} {w : World} {K : PySem.W.Frag} {a : Addr} {s₁ : Shared} {vs : List Value} {ns : List Int} (KX : K.In s₁.heap) (at1 : s₁.heap.get? a = some { cls := .type "list", data := .seq vs.toArray }) (nums : IntsAre vs ns) (few : ns.length ≤ sizeLine) :
    ∃ H : Hp, Only H ∧ HOk P w H s₁.heap ∧ (∀ b, H b ≠ none → b = a ∧ K.lookup a = none) ∧ SqL K H a (ns.map V.int) := by
  have same := vals_ints nums
  have short : (ns.map V.int).length ≤ sizeLine := by rw [List.length_map]; exact few
  rcases hk : K.lookup a with _ | o
  · let ob : Obj := { cls := .type "list", data := .seq vs.toArray }
    have one : ∀ b u, (if b = a then some (HO.frz ob (.lst (ns.map V.int))) else none) = some u → b = a ∧ u = .frz ob (.lst (ns.map V.int)) := fun b u z => by
      by_cases e : b = a
      · rw [if_pos e] at z
        exact ⟨e, (Option.some.inj z).symm⟩
      · rw [if_neg e] at z
        exact nomatch z
    refine ⟨fun b => if b = a then some (.frz ob (.lst (ns.map V.int))) else none, fun b => ?_, fun b u z => ?_, fun b z => ?_, .inl (.inr ⟨ob, if_pos rfl⟩)⟩
    · by_cases e : b = a
      · exact .inr ⟨_, _, if_pos e⟩
      · exact .inl (if_neg e)
    · obtain ⟨rfl, rfl⟩ := one b u z
      exact ⟨at1, short, vs, _, same, at1⟩
    · exact ⟨Classical.byContradiction fun e => z (if_neg e), rfl⟩
  · have e := KX a o hk
    rw [at1] at e
    cases e
    refine ⟨fun _ => none, fun _ => .inl rfl, (fun _ _ z => by cases z), (fun _ z => absurd rfl z), .inr ⟨_, vs.toArray, _, hk, rfl, rfl, rfl, ?_, by simpa using same⟩⟩
    rw [List.size_toArray, nums.length]
    exact few
theorem walk_ofG {l : PySem.W.OpenLaw} {n : Nat} {q : Program} {loose : List Str} {XP : (Str → Option Value) → Heap → Prop} {YP : World → Heap → Prop} {d : DefRec} {CX : CXT} {x : Str}
    (most : l.most = some n) (inSize : n ≤ sizeLine) (plain : d.params.defaults = [])
    (F : ∀ (w : World) (mg : Str → Option Value) (fa : Addr) (h : Heap), YP w h → h.Ns mainGlobals mg → mg d.name = some (.ref fa) →
      ∃ (K : PySem.W.Frag) (fd : FuncData) (sp : Sp), K.In h ∧ (∀ (s : Shared) (u : Value), BindsTo s fd ⟨[u], []⟩ [(x, u)]) ∧
        (∀ (H : Hp) (a : Addr) (ns : List Int), ns.length ≤ n → Only H → SqL K H a (ns.map V.int) → sp [.ref a] H (fun v _ => v = .bl true) fun _ _ _ => False) ∧
        ∀ base : Heap, K.In base → base.Ns mainGlobals mg → FnAt l.prog w K mg base CX callerA fa fd [x] sp)
    (noExc : ∀ (H : Hp) (s : Shared) (e : Value) (s' : Shared), CX [] H s (fun _ _ _ => False) e s' → False) : PySem.W.WalkO q loose XP YP l.row.toRowW d [] (fun f vs => PySem.call f vs) :=
  Att.attach_call most plain fun w s₀ s₁ mg mb fa o pm cd doc a vs ns G Y _ _ _ named at1 nums len noGen => by
    obtain ⟨K, fd, sp, KX, binds, asks, promise⟩ := F w mg fa _ Y G.T.g named
    obtain ⟨H, only, ok, own, sq⟩ := script_at (P := l.prog) (w := w) KX at1 nums (Nat.le_trans len inSize)
    exact law_from KX G.T.g G.T.b G.T.builtins G.T.nolimit noGen at1 promise binds (fun H e s' => noExc H s₁ e s') H only ok own (asks H a ns len only sq)
end BB

set_option maxHeartbeats 2000000
namespace BB
open L2 PySem PySem.Spec PyProof.Rows
section
variable {base : Heap} {mg : Str → Option Value} {K : PySem.W.Frag} {P : Program} {w : World}
/-- the same, at one A; the body is told what is under way there -/
theorem fnAt_mk {x qual : Str} {params : Arguments} {body : List Stmt} {scope : Scope} {dvs : List V} {kws : List (Str × V)} {f : Addr} {fd : FuncData} {N ps : List Str} {k : Nat} {sp : SpD} {A : Around} (hr0 : Room (k + 1) A) (F : FunD K x qual params body scope dvs kws f fd) (S : FnScope N ps scope)
    (len : ∀ ds M Q E, sp ds M Q E → ds.length = ps.length)
    (hbody : ∀ (X : Cx) (Δ : DC) (M : Mem) (ds : List D) (Q : DKt) (E : DX), CxOf P w K mg base N qual scope f k X → X.A.guards = A.guards → XOk X Δ → (Δ.Wd = fun c fs _ M' => FzV (fun _ M'' => E c fs M'') .non M') → sp ds M Q E →
      ∃ t d, PDss X Δ body t d ∧ d (ends Q) (startD N ds) M) : FnAt P w K mg base (L2.CX P w) A f fd ps (liftSp K sp) := by
  obtain ⟨_, _, _, _, _, _, _, cdv, _, _, rfl, lk, hcd, _, _⟩ := F.ex
  refine fnAt_of lk hcd S (fun vs H Q E ⟨F0, I, M, ds, Qd, Ed, A, r, h, _⟩ => r.length.trans (len _ _ _ _ h)) hr0 (fun outer s H vs Q E ⟨F0, I, M, ds, Qd, Ed, At0, r, h, hn, hx⟩ => ?_)
  have hr : Room k (A.deeper (envOfC qual scope s.heap.objs.size f cdv)) := hr0.deeper _
  obtain ⟨X, eX⟩ : ∃ X, X = cxOf (L2.CX P w) P w K mg base N qual scope f cdv A outer s H E := ⟨_, rfl⟩
  have XK : X.K = K := by rw [eX]; rfl
  have tk : Takes X (fun cls d _ H => E cls d H) := by
    subst eX
    exact takes_of rfl rfl rfl rfl
  obtain ⟨t, d, pd, q⟩ := hbody X { F := F0, I0 := I, W := fun cls d _ H => E cls d H, Wd := fun c fs _ M' => FzV (fun _ M'' => Ed c fs M'') .non M' } M ds Qd Ed ⟨cdv, A, outer, s, H, E, eX, hr⟩ (by rw [eX]; rfl) ⟨tk, fun {I1 M1 H1 σ1 env1 c fs dd} G er w => by
      rw [XK] at G er
      obtain ⟨I2, M2, d', x2, A3, r3, q3⟩ := fzv w G.at_ (v := .non) .non
      refine hx c fs M2 I2 H1 dd (G.base.trans x2) A3 ?_ q3
      cases dd with
      | none => exact er
      | some dd => obtain ⟨fvs, e1, e2⟩ := er; exact ⟨fvs, x2.xd e1, e2.ext x2⟩⟩ rfl h
  subst eX
  refine ⟨t, pd.1, pd.2 I M H _ _ ⟨Ext.refl I, At0, envr_start r⟩ _ (ends Qd) ⟨fun env' M' I' H' σ' x G q' => ?_, fun _ _ _ _ _ _ _ q' => q', fun _ _ _ _ _ _ _ q' => q', fun d' M' I' H' v x b A' r' q' => ?_⟩ q⟩
  · obtain ⟨I2, M2, d', x2, A3, r3, q3⟩ := fzv q' G.at_ (v := .non) .non
    exact hn _ _ _ _ _ (x.trans x2) A3 r3 q3
  · obtain ⟨I2, M2, d', x2, A3, r3, q3⟩ := fzv q' A' r'
    exact hn _ _ _ _ _ (x.trans x2) A3 r3 q3
end
end BB

set_option maxHeartbeats 2000000
namespace BB
open L2 PySem PySem.Spec PyProof.Rows
/-! a local name that holds one of the module's defs is called, with keywords -/
section
variable {X : Cx} {Δ : DC} {e : Expr} {pos p : Pos} {es : List Expr} {tl : TA} {dl : DA} {k i n : Nat} {f : Addr} {fd : FuncData} {ps : List Str} {sp : SpD} {x : Str} {ks : List Str} {kws : List Keyword} {tk : TA} {dk : DA}
variable {g : List Value → List Value → List Value} {gV : List V → List V → List V} {gD : List D → List D → List D}
theorem by_local {args : List Expr} {t : TE} (hv : PE X (.Name x p) (tVar i))
    (go : ∀ pins s σ H Q, Inv X pins σ H s → t σ H Q → wpAny (model X.prog X.w) X.A (callWith pos (.ref f) [] (backTo pos (starEach args X.env)) (backToKw pos (keywordEach kws X.env))) (EP X pins σ Q) X.xe s) :
    PE X (.Call (.Name x p) args kws pos) (fun σ H Q => σ[i]? = some (some (.ref f)) ∧ t σ H Q) :=
  ⟨fun pins s σ H Q I ⟨slot, q⟩ => wpAny_Call_Name_kw (thn (hv.run pins s σ H (fun v H1 => v = .ref f ∧ H1 = H) I ⟨.ref f, slot, rfl, rfl⟩) fun u s1 ⟨v, H1, I1, same, isF, isH⟩ => by
    subst isF isH
    cases same
    exact go pins s1 σ _ Q I1 q)⟩
theorem pe_callLK {CX : CXT} {sp : Sp} {E : L2.St → XK} {t tk : TA} (hv : PE X (.Name x p) (tVar i)) (F : FnOk X.prog X.w X.K X.mg X.base CX k f fd ps sp) (hr : Room k X.A) (hk : PySem.W.keepIn X.K (.ref f) = true) (hb : KBn X.K fd ps n ks g gV) (hx : ∀ σ, PassesAt CX X σ (E σ))
    (ha : PA X (e :: es) t) (hkw : PK X kws tk) (read : ArgsK X pos e es kws ks) : PE X (.Call (.Name x p) (e :: es) kws pos) (fun σ H Q => σ[i]? = some (some (.ref f)) ∧ tCallKS n ks.length sp gV E t tk σ H Q) := by
  obtain ⟨first, plain, named, rfl⟩ := read
  refine by_local hv fun pins s σ H Q I q => PySem.W.callWith_KW I.ok.mod.kin hk named ?_ plain first
  refine thn (ha.run pos pins s σ H _ I q) fun _ s1 ⟨_, H1, I1, r1, q1⟩ => thn (hkw.run pos pins s1 σ H1 _ I1 q1) fun _ _ ⟨_, _, I2, r2, l1, l2, q2⟩ => ?_
  exact ⟨I2.kIn, run_fnKS F hr hb (hx σ) I2 r1 r2 l1 l2 q2⟩
def dHolds (i : Nat) (f : Addr) (d : DE) : DE := fun env M Q => env[i]? = some (some (.ref f)) ∧ d env M Q
theorem pd_callLK (hv : PE X (.Name x p) (tVar i)) (F : FnOk X.prog X.w X.K X.mg X.base (L2.CX X.prog X.w) k f fd ps (liftSp X.K sp)) (hr : Room k X.A) (hk : PySem.W.keepIn X.K (.ref f) = true) (hb : KBn X.K fd ps n ks g gV)
    (hgd : ∀ {I vs us zs ws}, Rps X.K I vs us → Rps X.K I zs ws → Rps X.K I (gV vs zs) (gD us ws)) (xo : XOk X Δ) (ha : PDa X Δ (e :: es) tl dl) (hkw : PDk X Δ kws tk dk) (read : ArgsK X pos e es kws ks := by exact ⟨rfl, rfl, rfl, rfl⟩) :
    PDe X Δ (.Call (.Name x p) (e :: es) kws pos) (fun σ H Q => σ[i]? = some (some (.ref f)) ∧ tCallKS n ks.length (liftSp X.K sp) gV (WE Δ.W) tl tk σ H Q) (dHolds i f (dCallK Δ.Wd n ks.length sp gD dl dk)) :=
  ⟨pe_callLK hv F hr hk hb (passAt xo.takes) ha.1 hkw.1 read, fun I M H σ env G Q Qd k ⟨slot, q⟩ => by
    obtain ⟨v, e1, r⟩ := G.env.get i _ slot
    rw [r.ref_inv] at e1
    refine ⟨e1, ha.2 I M H σ env G _ _ (fun us M1 I1 H1 vs x1 G1 r1 q1 => hkw.2 I1 M1 H1 σ env G1 _ _ (fun zs M2 I2 H2 ws x2 G2 r2 ⟨l1, l2, q2⟩ => ?_) q1) q⟩
    exact ⟨r1.length.trans l1, r2.length.trans l2, lift_at xo G2 (hgd (r1.ext x2) r2) q2 fun d M' I' H' v x => k d M' I' H' v ((x1.trans x2).trans x)⟩⟩
/-- two readings of one expression: by cases -/
def dEither (a b : DE) : DE := fun env M Q => a env M Q ∨ b env M Q
theorem pd_either {t u : TE} {a b : DE} (ha : PDe X Δ e t a) (hb : PDe X Δ e u b) : PDe X Δ e (fun σ H Q => t σ H Q ∨ u σ H Q) (dEither a b) :=
  ⟨⟨fun pins s σ H Q I q => q.elim (ha.1.run pins s σ H Q I) (hb.1.run pins s σ H Q I)⟩, fun I M H σ env G Q Qd k q => q.imp (ha.2 I M H σ env G Q Qd k) (hb.2 I M H σ env G Q Qd k)⟩
end
end BB

set_option maxHeartbeats 2000000
namespace BB
open L2 PySem PySem.Spec PyProof.Rows
/-! defs whose promise is asked where no guard is under way -/
def OkG (P : Program) (w : World) (K : PySem.W.Frag) (mg : Str → Option Value) (base : Heap) (k : Nat) (f : Addr) (fd : FuncData) (ps : List Str) (sp : SpD) : Prop :=
  ∀ A : Around, Room k A → A.guards = some [] → FnAt P w K mg base (L2.CX P w) A f fd ps (liftSp K sp)
section
variable {X : Cx} {Δ : DC} {e : Expr} {pos p : Pos} {es : List Expr} {tl : TA} {dl : DA} {k : Nat} {f : Addr} {fd : FuncData} {ps : List Str} {sp : SpD} {x : Str}
theorem pe_callG (F : OkG X.prog X.w X.K X.mg X.base k f fd ps sp) (hr : Room k X.A) (hq : X.A.guards = some []) (len : ∀ ds M Q E, sp ds M Q E → ds.length = ps.length) (hg : Gl X x) (hm : X.mg x = some (.ref f)) (hk : PySem.W.keepIn X.K (.ref f) = true) (hb : Binds X.K fd ps []) {E : L2.St → XK} (hx : ∀ σ, PassesAt (L2.CX X.prog X.w) X σ (E σ))
    (ha : PA X (e :: es) tl) (own : OwnName x) (read : Args1 X pos e es) : PE X (.Call (.Name x p) (e :: es) [] pos) (tCallSD (liftSp X.K sp) [] E tl) := by
  refine by_name hg hm own fun pins s σ H Q I h => PySem.W.callWith_K I.ok.mod.kin hk (thn (ha.run pos pins s σ H _ I h) fun us s1 ⟨vs, H1, I1, r, q⟩ => ⟨I1.kIn, ?_⟩) read.1 read.2
  replace q : liftSp X.K sp vs H1 Q (E σ) := by
    have q' : liftSp X.K sp (vs ++ []) H1 Q (E σ) := q
    rw [List.append_nil] at q'
    exact q'
  have l1 : vs.length = ps.length := by
    obtain ⟨_, _, _, ds, _, _, _, rs, hs, _⟩ := q
    exact rs.length.trans (len _ _ _ _ hs)
  have bd := hb s1 us I1.kIn (by rw [List.append_nil, ← r.length]; exact l1)
  rw [List.append_nil] at bd
  exact wpAny_call (codeAny_mono (F X.A hr hq X.stack s1 H1 ⟨us, []⟩ us vs Q (E σ) I1.env0 bd r q) (at_end (hx σ) I1 fun _ _ q => q))
theorem pd_callG (F : OkG X.prog X.w X.K X.mg X.base k f fd ps sp) (hr : Room k X.A) (hq : X.A.guards = some []) (len : ∀ ds M Q E, sp ds M Q E → ds.length = ps.length) (hg : Gl X x) (hm : X.mg x = some (.ref f)) (hk : PySem.W.keepIn X.K (.ref f) = true) (hb : Binds X.K fd ps []) (xo : XOk X Δ)
    (ha : PDa X Δ (e :: es) tl dl) (own : OwnName x := by decide) (read : Args1 X pos e es := by exact ⟨rfl, rfl⟩) : PDe X Δ (.Call (.Name x p) (e :: es) [] pos) (tCallSD (liftSp X.K sp) [] (WE Δ.W) tl) (dCall Δ.Wd sp [] dl) :=
  ⟨pe_callG F hr hq len hg hm hk hb (passAt xo.takes) ha.1 own read, snd_call xo (fun _ => .nil) ha.2⟩
end
section
variable {base : Heap} {mg : Str → Option Value} {K : PySem.W.Frag} {P : Program} {w : World}
theorem okG_mk {x qual : Str} {params : Arguments} {body : List Stmt} {scope : Scope} {dvs : List V} {kws : List (Str × V)} {f : Addr} {fd : FuncData} {N ps : List Str} {k : Nat} {sp : SpD} (F : FunD K x qual params body scope dvs kws f fd) (S : FnScope N ps scope)
    (len : ∀ ds M Q E, sp ds M Q E → ds.length = ps.length)
    (hbody : ∀ (X : Cx) (Δ : DC) (M : Mem) (ds : List D) (Q : DKt) (E : DX), CxOf P w K mg base N qual scope f k X → X.A.guards = some [] → XOk X Δ → (Δ.Wd = fun c fs _ M' => FzV (fun _ M'' => E c fs M'') .non M') → sp ds M Q E →
      ∃ t d, PDss X Δ body t d ∧ d (ends Q) (startD N ds) M) : OkG P w K mg base (k + 1) f fd ps sp := fun A hr hA =>
  fnAt_mk hr F S len fun X Δ M ds Q E cx hg xo hW h => hbody X Δ M ds Q E cx (hg.trans hA) xo hW h
/-- what is let out is not asked -/
theorem fnAt_quiet {A : Around} {f : Addr} {fd : FuncData} {ps : List Str} {sp : Sp} (F : FnAt P w K mg base (L2.CX P w) A f fd ps sp) : FnAt P w K mg base CX0 A f fd ps (fun vs H Q _ => sp vs H Q fun _ _ _ => False) :=
  fun outer s H args us vs Q E he hb hv h => codeAny_mono (F outer s H args us vs Q (fun _ _ _ => False) he hb hv h) fun r s' hq => by
    cases r with
    | error e =>
      obtain ⟨_, _, _, _, _, _, _, _, _, _, _, _, z⟩ := hq
      exact z.elim
    | ok fl =>
      cases fl with
      | ret u => exact hq
      | next => exact hq
      | brk => exact hq
      | cont => exact hq
end
end BB

set_option maxHeartbeats 2000000
namespace BB
open L2 PySem PySem.Spec PyProof.Rows
/-! keywords in any order, and calls with keywords alone -/
def perm {α : Type} (idx : List Nat) (us ws : List α) : List α := idx.filterMap fun i => (us ++ ws)[i]?
theorem vals_get : ∀ {vs : List V} {us : List Value} (i : Nat), Vals vs us → (vs[i]? = none ∧ us[i]? = none) ∨ ∃ v u, vs[i]? = some v ∧ us[i]? = some u ∧ RelV v u
  | _, _, i, .nil => .inl ⟨rfl, rfl⟩
  | _, _, 0, .cons a _ => .inr ⟨_, _, rfl, rfl, a⟩
  | _, _, i + 1, .cons _ r => by simpa using vals_get i r
theorem vals_pick {vs : List V} {us : List Value} (r : Vals vs us) : ∀ idx : List Nat, Vals (idx.filterMap fun i => vs[i]?) (idx.filterMap fun i => us[i]?)
  | [] => .nil
  | i :: idx => by
    rcases vals_get i r with ⟨e1, e2⟩ | ⟨v, u, e1, e2, rv⟩
    · simp only [List.filterMap_cons, e1, e2]; exact vals_pick r idx
    · simp only [List.filterMap_cons, e1, e2]; exact .cons rv (vals_pick r idx)
theorem rps_pick {K : PySem.W.Frag} {I : Hp} {vs : List V} {ds : List D} (r : Rps K I vs ds) : ∀ idx : List Nat, Rps K I (idx.filterMap fun i => vs[i]?) (idx.filterMap fun i => ds[i]?)
  | [] => .nil
  | i :: idx => by
    cases e : vs[i]? with
    | none =>
      have e2 : ds[i]? = none := by
        rw [List.getElem?_eq_none_iff] at e ⊢
        rw [← r.length]; exact e
      simp only [List.filterMap_cons, e, e2]; exact rps_pick r idx
    | some v =>
      obtain ⟨d, e2, rv⟩ := r.get' e
      simp only [List.filterMap_cons, e, e2]; exact .cons rv (rps_pick r idx)
theorem perm_rps {K : PySem.W.Frag} {idx : List Nat} {I : Hp} {vs : List V} {us : List D} {zs : List V} {ws : List D} (r : Rps K I vs us) (s : Rps K I zs ws) : Rps K I (perm idx vs zs) (perm idx us ws) := rps_pick (r.append s) idx
theorem kbnP_of {K : PySem.W.Frag} {x qual : Str} {params : Arguments} {body : List Stmt} {scope : Scope} {kws : List (Str × V)} {f : Addr} {fd : FuncData} {ps : List Str} (F : FunD K x qual params body scope [] kws f fd) (n : Nat) (ks : List Str) (idx : List Nat)
    (h : ∀ (kV doc pm : Value) (an : Option Addr) (cdv ct : Value) (us ws : List Value), us.length = n → ws.length = ks.length → bindArgs (PySem.W.fnOf x qual params body scope .none kV doc pm an cdv ct) ⟨us, ks.zip ws⟩ = pure (ps.zip (perm idx us ws))) :
    KBn K fd ps n ks (perm idx) (perm idx) := by
  obtain ⟨_, _, _, kV, doc, pm, an, cdv, ct, _, rfl, _, _, dflt, _⟩ := F.ex
  rcases dflt with ⟨_, rfl⟩ | ⟨e, _⟩
  · exact ⟨fun s us ws _ l1 l2 => .of_eq (h kV doc pm an cdv ct us ws l1 l2), fun r rz => vals_pick (r.append rz) idx⟩
  · exact absurd rfl e
section
variable {X : Cx} {Δ : DC} {e : Expr} {pos p : Pos} {es : List Expr} {tl : TA} {dl : DA} {k i n : Nat} {f : Addr} {fd : FuncData} {ps : List Str} {sp : SpD} {x : Str} {ks : List Str} {kws : List Keyword} {tk : TA} {dk : DA}
variable {g : List Value → List Value → List Value} {gV : List V → List V → List V} {gD : List D → List D → List D}
abbrev ArgsK0 (X : Cx) (pos : Pos) (kws : List Keyword) (ks : List Str) : Prop :=
  (((backTo pos (starEach [] X.env)).any (·.1) || (backToKw pos (keywordEach kws X.env)).any (·.1.isNone)) = false) ∧ ((backToKw pos (keywordEach kws X.env)).all (·.1.isSome) = true) ∧ (backToKw pos (keywordEach kws X.env)).filterMap (·.1) = ks
theorem pe_callKS0 {CX : CXT} {sp : Sp} {E : L2.St → XK} {tk : TA} (F : FnOk X.prog X.w X.K X.mg X.base CX k f fd ps sp) (hr : Room k X.A) (hg : Gl X x) (hm : X.mg x = some (.ref f)) (hk : PySem.W.keepIn X.K (.ref f) = true) (hb : KBn X.K fd ps 0 ks g gV) (hx : ∀ σ, PassesAt CX X σ (E σ))
    (hkw : PK X kws tk) (own : OwnName x) (read : ArgsK0 X pos kws ks) : PE X (.Call (.Name x p) [] kws pos) (tCallKS 0 ks.length sp gV E tNil tk) := by
  obtain ⟨plain, named, rfl⟩ := read
  refine by_name hg hm own fun pins s σ H Q I q => PySem.W.callWith_KW0 I.ok.mod.kin hk named ?_ plain
  exact thn (hkw.run pos pins s σ H _ I q) fun _ _ ⟨_, _, I2, r2, l1, l2, q2⟩ => ⟨I2.kIn, run_fnKS F hr hb (hx σ) I2 .nil r2 l1 l2 q2⟩
theorem pd_callK0 (F : FnOk X.prog X.w X.K X.mg X.base (L2.CX X.prog X.w) k f fd ps (liftSp X.K sp)) (hr : Room k X.A) (hg : Gl X x) (hm : X.mg x = some (.ref f)) (hk : PySem.W.keepIn X.K (.ref f) = true) (hb : KBn X.K fd ps 0 ks g gV)
    (hgd : ∀ {I vs us zs ws}, Rps X.K I vs us → Rps X.K I zs ws → Rps X.K I (gV vs zs) (gD us ws)) (xo : XOk X Δ) (hkw : PDk X Δ kws tk dk) (own : OwnName x := by decide) (read : ArgsK0 X pos kws ks := by exact ⟨rfl, rfl, rfl⟩) :
    PDe X Δ (.Call (.Name x p) [] kws pos) (tCallKS 0 ks.length (liftSp X.K sp) gV (WE Δ.W) tNil tk) (dCallK Δ.Wd 0 ks.length sp gD dNil dk) :=
  ⟨pe_callKS0 F hr hg hm hk hb (passAt xo.takes) hkw.1 own read, fun I M H σ env G Q Qd k q => hkw.2 I M H σ env G _ _ (fun zs M2 I2 H2 ws x2 G2 r2 ⟨l1, l2, q2⟩ =>
    ⟨rfl, r2.length.trans l2, lift_at xo G2 (hgd .nil r2) q2 fun d M' I' H' v x => k d M' I' H' v (x2.trans x)⟩) q⟩
end
end BB

set_option maxHeartbeats 2000000
namespace BB
open L2 PySem PySem.Spec PyProof.Rows
/-! texts that repr makes: how long, which signs -/
def Fine (n : Nat) (t : Str) : Prop := t.length ≤ n ∧ ∀ c ∈ t.cps.toList, c < 0x110000
theorem Fine.mono {m n : Nat} {t : Str} (h : Fine m t) (l : m ≤ n) : Fine n t := ⟨Nat.le_trans h.1 l, h.2⟩
theorem Fine.app {m n : Nat} {a b : Str} (h : Fine m a) (k : Fine n b) : Fine (m + n) (a ++ b) := by
  refine ⟨by rw [strLen_append]; exact Nat.add_le_add h.1 k.1, fun c hc => ?_⟩
  replace hc : c ∈ TL.tl (a ++ b) := hc
  rw [TL.tl_append] at hc
  rcases List.mem_append.mp hc with hc | hc
  · exact h.2 c hc
  · exact k.2 c hc
theorem Fine.ok {n : Nat} {t : Str} (h : Fine n t) : PyData.strOk t = true := by
  unfold PyData.strOk
  rw [← Array.all_toList]
  exact List.all_eq_true.mpr fun c hc => decide_eq_true (h.2 c hc)
theorem fine_join {n : Nat} : ∀ {ts : List Str}, (∀ t ∈ ts, Fine n t) → Fine (ts.length * (n + 2)) (Str.join ", " ts)
  | [], _ => ⟨Nat.zero_le _, fun c hc => by cases hc⟩
  | [x], h => (h x List.mem_cons_self).mono (by simp)
  | x :: y :: r, h => by
    have ih := fine_join (ts := y :: r) fun t ht => h t (List.mem_cons_of_mem _ ht)
    have sep : Fine 2 (", " : Str) := ⟨by decide, by decide⟩
    exact (((h x List.mem_cons_self).app sep).app ih).mono (by simp only [List.length_cons, Nat.add_mul]; omega)
theorem fine_char {q c : Nat} (hq : q < 0x110000) (hc : c < 0x110000) : ∀ x ∈ Builtin.Str.reprChar q c, x < 0x110000 := by
  have hex : ∀ (k : Nat) (x : Nat), x ∈ List.replicate k 48 ++ (Nat.toDigits 16 c).map Char.toNat → x < 0x110000 := fun k x hx => by
    rcases List.mem_append.mp hx with hx | hx
    · rw [(List.mem_replicate.mp hx).2]; decide
    · obtain ⟨d, _, rfl⟩ := List.mem_map.mp hx
      have := d.valid
      rcases this with h | h
      · exact Nat.lt_trans h (by decide)
      · exact h.2
  intro x hx
  unfold Builtin.Str.reprChar at hx
  dsimp only at hx
  repeat' split at hx
  all_goals simp only [List.mem_cons, List.not_mem_nil, or_false, List.mem_append, List.cons_append, List.nil_append] at hx
  all_goals first
    | omega
    | (rcases hx with hx | hx | hx
       · omega
       · omega
       · exact hex _ x (List.mem_append.mpr hx))
theorem fine_repr {z : Str} (h : ∀ c ∈ z.cps.toList, c < 0x110000) : Fine (10 * z.length + 2) (reprText z) := by
  refine ⟨StrLaws.reprText_len z fun c hc => Nat.lt_trans (h c hc) (by decide), ?_⟩
  have hq : reprQuote z < 0x110000 := by unfold reprQuote; split <;> decide
  have key : ∀ (l : List Nat) (acc : Array Nat), (∀ c ∈ l, c < 0x110000) → (∀ c ∈ acc.toList, c < 0x110000) → ∀ c ∈ (l.foldl (fun out c => out ++ (Builtin.Str.reprChar (reprQuote z) c).toArray) acc).toList, c < 0x110000 := by
    intro l
    induction l with
    | nil => intro acc _ ha; exact ha
    | cons d r ih =>
      intro acc hl ha
      refine ih _ (fun c hc => hl c (List.mem_cons_of_mem _ hc)) fun c hc => ?_
      rw [Array.toList_append] at hc
      rcases List.mem_append.mp hc with hc | hc
      · exact ha c hc
      · exact fine_char hq (hl d List.mem_cons_self) c hc
  intro c hc
  unfold reprText at hc
  simp only [Array.toList_push, ← Array.foldl_toList] at hc
  rcases List.mem_append.mp hc with hc | hc
  · exact key _ _ h (fun c hc => by
      simp only [List.mem_cons, List.not_mem_nil, or_false] at hc
      omega) c hc
  · simp only [List.mem_cons, List.not_mem_nil, or_false] at hc
    omega
/-- what repr takes, and what comes of it -/
structure ReprOk (p : PyData) : Prop where
  shows : p.showable = true
  noD : p.hasDict = false
  flat : p.depth ≤ 32
  fits : p.shown.length ≤ sizeLine
  ok : SeqAt.shaped (.str p.shown) = true
theorem shaped_str {t : Str} (h : PyData.strOk t = true) : SeqAt.shaped (.str t) = true := by
  unfold SeqAt.shaped
  rw [PyData.canLay0, h, PyData.depth]
  rfl
theorem i_repr {M : Mem} {Q : DKt} {x : D} {p : PyData} (h : pyOf M x = some p) (s : isSeqP p = true) (ok : ReprOk p) (q : Q (.str p.shown) M) : rdRepr [x] M Q := ⟨x, p, rfl, h, s, ⟨ok.shows, ok.noD, ok.flat, ok.fits⟩, q⟩
theorem i_neShown {M : Mem} {Q : DKt} {p : PyData} (ok : ReprOk p) (q : Q (.bl false) M) : rdNe (.str p.shown) (.str p.shown) M Q := ⟨_, _, rfl, rfl, ok.ok, ok.ok, by
  rw [SeqAt.eqv_refl _ (SeqAt.canLay_of_shaped ok.ok)]; exact q⟩
theorem repr_bools : ∀ a b : Bool, ReprOk (.list [.bool a, .bool b])
  | false, false => ⟨by decide +kernel, by decide +kernel, by decide +kernel, by decide +kernel, by decide +kernel⟩
  | false, true => ⟨by decide +kernel, by decide +kernel, by decide +kernel, by decide +kernel, by decide +kernel⟩
  | true, false => ⟨by decide +kernel, by decide +kernel, by decide +kernel, by decide +kernel, by decide +kernel⟩
  | true, true => ⟨by decide +kernel, by decide +kernel, by decide +kernel, by decide +kernel, by decide +kernel⟩
end BB

set_option maxHeartbeats 4000000
namespace BB
open L2 PySem PySem.Spec PyProof.Rows
/-! [elt for a in xs if .. for b in ys if ..] -/
def lfI (K : PySem.W.Frag) (I0 : Hp) (di : DI) : TI := fun σ H R => ∃ F I M env Rd, Gd K (still F I0) I M H σ env ∧ di env M Rd ∧ ∀ xs keep M1 J I1 H1, Ext I I1 → Gd K (still F I0) I1 M1 H1 σ env → ItOk K I1 J xs keep → Rd xs keep M1 → R J H1
theorem lf_i {X : Cx} {I0 : Hp} {tg iter : Expr} {di : DI} (h : ∀ F, ∃ wi, PDi X (still F I0) tg iter wi di) (F : Hp) : PDi X (still F I0) tg iter (lfI X.K I0 di) di :=
  ⟨⟨fun pins s σ H R I ⟨F', I1, M, env, Rd, G, q, k⟩ => by
    obtain ⟨wi, p, sn⟩ := h F'
    exact p.run pins s σ H R I (sn I1 M H σ env G R Rd k q)⟩, fun I M H σ env G R Rd k q => ⟨F, I, M, env, Rd, G, q, k⟩⟩
def dLc2 (di : DI) (dg : DG) (dt : DT) (di1 : DI) (dg1 : DG) (dt1 : DT) (de : DE) (vs vs1 : List Nat) : DE := fun env M Q => di env M fun xs keep M1 => ∃ P : Nat → List D → Mem → Prop, P 0 [] M1 ∧ (∀ i acc M, P i acc M → keep M) ∧
  (∀ i d acc M, xs[i]? = some d → P i acc M → dg d (wipeD env vs) M fun env2 M2 => dt env2 M2 fun b M3 => if b = true then
    di1 env2 M3 fun ys keep1 M4 => ∃ P1 : Nat → List D → Mem → Prop, P1 0 acc M4 ∧ (∀ j acc M, P1 j acc M → keep1 M) ∧
      (∀ j e acc M, ys[j]? = some e → P1 j acc M → dg1 e (wipeD env2 vs1) M fun env3 M5 => dt1 env3 M5 fun b M6 => if b = true then acc.length < sizeLine ∧ de env3 M6 fun y M7 => P1 (j + 1) (acc ++ [y]) M7 else P1 (j + 1) acc M6) ∧
      ∀ acc M, P1 ys.length acc M → P (i + 1) acc M
    else P (i + 1) acc M3) ∧ ∀ acc M, P xs.length acc M → Q (.lst acc) M
section
variable {X : Cx} {Δ : DC} {de : DE} {dt dt1 : DT} {te : TE} {t1 t2 : TT} {wi wi1 : TI} {di di1 : DI} {g g1 : TG} {dg dg1 : DG}
theorem snd_lc2 {vs vs1 : List Nat} (si : SndI X Δ wi di) (sg : ∀ F, SndW X (Δ.blk F) vs g dg) (st : ∀ F, SndT X (Δ.blk F) t1 dt) (si1 : ∀ F, SndI X (Δ.blk F) wi1 di1) (sg1 : ∀ F, SndW X (Δ.blk F) vs1 g1 dg1) (st1 : ∀ F, SndT X (Δ.blk F) t2 dt1) (se : ∀ F, SndE X (Δ.blk F) te de) :
    SndE X Δ (tLc2 wi g t1 wi1 g1 t2 te vs vs1) (dLc2 di dg dt di1 dg1 dt1 de vs vs1) := fun I M H σ env G Q Qd k q =>
  si I M H σ env G _ _ (fun xs keep M1 J I1 H1 x1 G1 ok ⟨P, p0, pk, ps, pd⟩ => by
    intro D hD
    have A1 := G1.at_.newF hD (.lst []) ⟨_, rfl⟩
    have F0 : ∀ (o : HO) b u, Δ.F b = some u → b ≠ D ∧ (upd Δ.F D o) b = some u := fun o b u e => by
      have hb : b ≠ D := ne_of_none (G1.at_.fr _ _ e).1 hD
      exact ⟨hb, by rw [upd_ne hb]; exact e⟩
    refine ⟨fun i m H => m = xs.length - i ∧ i ≤ xs.length ∧ ∃ I M acc us, Ext I1 I ∧ Gd X.K (Δ.blk (upd Δ.F D (.lst us))) I M H (L2.wipe σ vs) (wipeD env vs) ∧ Rps X.K I us acc ∧ P i acc M,
      ⟨xs.length, by simp, Nat.zero_le _, I1, M1, [], [], Ext.refl _, ⟨G1.base, A1, G1.env.wipe vs⟩, .nil, p0⟩, ?_⟩
    rintro i m H2 ⟨rfl, hi, I2, M2, acc, us, x2, G2, r2, p2⟩
    have hk := pk i acc M2 p2
    by_cases hlt : i < xs.length
    · refine .inr ⟨ok.go _ i I2 M2 H2 x2 G2.at_ hk hlt, fun H => ∃ I M acc us, Ext I1 I ∧ Gd X.K (Δ.blk (upd Δ.F D (.lst us))) I M H (L2.wipe σ vs) (wipeD env vs) ∧ Rps X.K I us acc ∧ P (i + 1) acc M, fun H' w => ⟨xs.length - (i + 1), by omega, rfl, hlt, w⟩, fun x H' y => ?_⟩
      have hd : xs[i]? = some xs[i] := by simp [hlt]
      obtain ⟨I3, x3, A3, r3⟩ := ok.yld _ i xs[i] x I2 M2 H2 H' x2 G2.at_ hk hd y
      have G3 := G2.go x3 A3
      refine sg _ I3 M2 H' _ _ G3 x xs[i] r3 _ _ (fun env4 M4 I4 H4 σ4 x4 G4 w4 q4 => ⟨w4.trans wipe_idem, ?_⟩) (ps i xs[i] acc M2 hd p2)
      refine st _ I4 M4 H4 σ4 env4 G4 _ _ (fun b M5 I5 H5 x5 G5 q5 => ?_) q4
      cases b with
      | true =>
        rw [if_pos rfl] at q5 ⊢
        refine si1 _ I5 M5 H5 σ4 env4 G5 _ _ (fun ys keep1 M6 J1 I6 H6 x6 G6 ok1 ⟨P1, p10, pk1, ps1, pd1⟩ => ?_) q5
        have x26 := ((x3.trans x4).trans x5).trans x6
        refine ⟨fun j m H => m = ys.length - j ∧ j ≤ ys.length ∧ ∃ I M acc us, Ext I6 I ∧ Gd X.K (Δ.blk (upd Δ.F D (.lst us))) I M H (L2.wipe σ4 vs1) (wipeD env4 vs1) ∧ Rps X.K I us acc ∧ P1 j acc M,
          ⟨ys.length, by simp, Nat.zero_le _, I6, M6, acc, us, Ext.refl _, ⟨G6.base, G6.at_, G6.env.wipe vs1⟩, r2.ext x26, p10⟩, ?_⟩
        rintro j m H7 ⟨rfl, hj, I7, M7, acc7, us7, x7, G7, r7, p7⟩
        have hk1 := pk1 j acc7 M7 p7
        by_cases hlt1 : j < ys.length
        · refine .inr ⟨ok1.go _ j I7 M7 H7 x7 G7.at_ hk1 hlt1, fun H => ∃ I M acc us, Ext I6 I ∧ Gd X.K (Δ.blk (upd Δ.F D (.lst us))) I M H (L2.wipe σ4 vs1) (wipeD env4 vs1) ∧ Rps X.K I us acc ∧ P1 (j + 1) acc M, fun H' w => ⟨ys.length - (j + 1), by omega, rfl, hlt1, w⟩, fun x' H' y' => ?_⟩
          have he : ys[j]? = some ys[j] := by simp [hlt1]
          obtain ⟨I8, x8, A8, r8⟩ := ok1.yld _ j ys[j] x' I7 M7 H7 H' x7 G7.at_ hk1 he y'
          have G8 := G7.go x8 A8
          refine sg1 _ I8 M7 H' _ _ G8 x' ys[j] r8 _ _ (fun env9 M9 I9 H9 σ9 x9 G9 w9 q9 => ⟨w9.trans wipe_idem, ?_⟩) (ps1 j ys[j] acc7 M7 he p7)
          refine st1 _ I9 M9 H9 σ9 env9 G9 _ _ (fun b M10 I10 H10 x10 G10 q10 => ?_) q9
          cases b with
          | true =>
            rw [if_pos rfl] at q10 ⊢
            refine se _ I10 M10 H10 σ9 env9 G10 _ _ (fun y M11 I11 H11 u x11 G11 r11 q11 => ?_) q10.2
            have hFD : (upd Δ.F D (.lst us7)) D = some (.lst us7) := upd_same
            obtain ⟨hD1, hD2, hD3⟩ := G11.at_.fr _ _ hFD
            have xx := ((x8.trans x9).trans x10).trans x11
            refine ⟨us7, hD1, by rw [r7.length]; exact q10.1, I11, M11, acc7 ++ [y], us7 ++ [u], x7.trans xx, ?_, (r7.ext xx).append (.cons r11 .nil), q11⟩
            have A11 := G11.at_.writeF (o' := .lst (us7 ++ [u])) hFD ⟨_, rfl⟩
            have e : upd (upd Δ.F D (.lst us7)) D (.lst (us7 ++ [u])) = upd Δ.F D (.lst (us7 ++ [u])) := upd_upd
            rw [e] at A11
            exact ⟨G11.base, A11, G7.env.ext xx⟩
          | false =>
            rw [if_neg Bool.false_ne_true] at q10 ⊢
            have xx := (x8.trans x9).trans x10
            exact ⟨I10, M10, acc7, us7, x7.trans xx, ⟨G10.base, G10.at_, G7.env.ext xx⟩, r7.ext xx, q10⟩
        · have e : j = ys.length := by omega
          subst e
          exact .inl ⟨ok1.stop _ I7 M7 H7 x7 G7.at_ hk1, I7, M7, acc7, us7, (x2.trans x26).trans x7, ⟨G7.base, G7.at_, G2.env.ext (x26.trans x7)⟩, r7, pd1 acc7 M7 p7⟩
      | false =>
        rw [if_neg Bool.false_ne_true] at q5 ⊢
        have xx := (x3.trans x4).trans x5
        exact ⟨I5, M5, acc, us, x2.trans xx, ⟨G5.base, G5.at_, G2.env.ext xx⟩, r2.ext xx, q5⟩
    · have e : i = xs.length := by omega
      subst e
      refine .inl ⟨ok.stop _ I2 M2 H2 x2 G2.at_ hk, ?_⟩
      obtain ⟨A7, x7⟩ := G2.at_.fixF (F0 := Δ.F) (p := D) upd_same (F0 _)
      exact k _ _ _ _ _ ((x1.trans x2).trans x7) ⟨G1.base.trans (x2.trans x7), A7, G1.env.ext (x2.trans x7)⟩ (.lst upd_same (r2.ext x7)) (pd acc M2 p2)) q
theorem pd_lc2X {elt tg iter tg1 iter1 : Expr} {ifs ifs1 : List Expr} {scope : Scope} {own : List (Str × Nat)} {vs1 : List Nat} {pos : Pos} (hc : X.calm = true) (hN : X.N.Nodup) (hi : PDi X Δ tg iter wi di) (ok : BlkOk X.N X.env.scope scope own) (hv : ∀ i ∈ vs1, i ∈ own.map (·.2))
    (hg : ∀ (s : Shared) (H : Hp) (C : Addr) (cl : List (Str × Addr)) (fp : List Addr) (F : Hp), ∃ g, PDgw (X.blk s H scope (compEnvC scope cl C X.env) fp) (still F Δ.I0) (own.map (·.2)) tg g dg)
    (ht : ∀ (s : Shared) (H : Hp) (C : Addr) (cl : List (Str × Addr)) (fp : List Addr) (F : Hp), ∃ t, PDts (X.blk s H scope (compEnvC scope cl C X.env) fp) (still F Δ.I0) ifs t dt)
    (hi1 : ∀ (s : Shared) (H : Hp) (C : Addr) (cl : List (Str × Addr)) (fp : List Addr) (F : Hp), ∃ wi, PDi (X.blk s H scope (compEnvC scope cl C X.env) fp) (still F Δ.I0) tg1 iter1 wi di1)
    (hg1 : ∀ (s : Shared) (H : Hp) (C : Addr) (cl : List (Str × Addr)) (fp : List Addr) (F : Hp), ∃ g, PDgw (X.blk s H scope (compEnvC scope cl C X.env) fp) (still F Δ.I0) vs1 tg1 g dg1)
    (ht1 : ∀ (s : Shared) (H : Hp) (C : Addr) (cl : List (Str × Addr)) (fp : List Addr) (F : Hp), ∃ t, PDts (X.blk s H scope (compEnvC scope cl C X.env) fp) (still F Δ.I0) ifs1 t dt1)
    (he : ∀ (s : Shared) (H : Hp) (C : Addr) (cl : List (Str × Addr)) (fp : List Addr) (F : Hp), ∃ te, PDe (X.blk s H scope (compEnvC scope cl C X.env) fp) (still F Δ.I0) elt te de)
    (hs : ∀ x, foldedSetIterable iter X.env x = pure x := by intro _; rfl) (hs1 : ∀ env x, foldedSetIterable iter1 env x = pure x := by intro _ _; rfl) :
    PDe X Δ (.ListComp elt [⟨tg, iter, ifs, 0⟩, ⟨tg1, iter1, ifs1, 0⟩] scope pos) (tLc2 wi (lfW X.K Δ.I0 (own.map (·.2)) dg) (lfT X.K Δ.I0 dt) (lfI X.K Δ.I0 di1) (lfW X.K Δ.I0 vs1 dg1) (lfT X.K Δ.I0 dt1) (lfE X.K Δ.I0 de) (own.map (·.2)) vs1) (dLc2 di dg dt di1 dg1 dt1 de (own.map (·.2)) vs1) :=
  ⟨pe_lc2 hc hN hi.1 ok hv (fun s H C cl fp => (lf_w (hg s H C cl fp) Δ.F).1) (fun s H C cl fp => (lf_t (ht s H C cl fp) Δ.F).1) (fun s H C cl fp => (lf_i (hi1 s H C cl fp) Δ.F).1) (fun s H C cl fp => (lf_w (hg1 s H C cl fp) Δ.F).1) (fun s H C cl fp => (lf_t (ht1 s H C cl fp) Δ.F).1) (fun s H C cl fp => (lf_e (he s H C cl fp) Δ.F).1) hs hs1,
    snd_lc2 hi.2 (fun F => (lf_w (hg X.s_0 X.H_0 0 [] []) F).2) (fun F => (lf_t (ht X.s_0 X.H_0 0 [] []) F).2) (fun F => (lf_i (hi1 X.s_0 X.H_0 0 [] []) F).2) (fun F => (lf_w (hg1 X.s_0 X.H_0 0 [] []) F).2) (fun F => (lf_t (ht1 X.s_0 X.H_0 0 [] []) F).2) (fun F => (lf_e (he X.s_0 X.H_0 0 [] []) F).2)⟩
theorem pds_setLc2X {i : Nat} {y : Str} {py : Pos} {elt tg iter tg1 iter1 : Expr} {ifs ifs1 : List Expr} {scope : Scope} {own : List (Str × Nat)} {vs1 : List Nat} {pos spos : Pos} (hc : X.calm = true) (hN : X.N.Nodup) (hy : X.N[i]? = some y) (hyl : X.env.scope.names.lookup y = some .local)
    (hsw : swapsWith (.ListComp elt [⟨tg, iter, ifs, 0⟩, ⟨tg1, iter1, ifs1, 0⟩] scope pos) (some (.Name y py)) spos.line X.env = pure true) (hi : PDi X Δ tg iter wi di) (ok : BlkOk X.N X.env.scope scope own) (hv : ∀ i ∈ vs1, i ∈ own.map (·.2))
    (hg : ∀ (s : Shared) (H : Hp) (C : Addr) (cl : List (Str × Addr)) (fp : List Addr) (F : Hp), ∃ g, PDgw (X.blk s H scope (compEnvC scope cl C X.env) fp) (still F Δ.I0) (own.map (·.2)) tg g dg)
    (ht : ∀ (s : Shared) (H : Hp) (C : Addr) (cl : List (Str × Addr)) (fp : List Addr) (F : Hp), ∃ t, PDts (X.blk s H scope (compEnvC scope cl C X.env) fp) (still F Δ.I0) ifs t dt)
    (hi1 : ∀ (s : Shared) (H : Hp) (C : Addr) (cl : List (Str × Addr)) (fp : List Addr) (F : Hp), ∃ wi, PDi (X.blk s H scope (compEnvC scope cl C X.env) fp) (still F Δ.I0) tg1 iter1 wi di1)
    (hg1 : ∀ (s : Shared) (H : Hp) (C : Addr) (cl : List (Str × Addr)) (fp : List Addr) (F : Hp), ∃ g, PDgw (X.blk s H scope (compEnvC scope cl C X.env) fp) (still F Δ.I0) vs1 tg1 g dg1)
    (ht1 : ∀ (s : Shared) (H : Hp) (C : Addr) (cl : List (Str × Addr)) (fp : List Addr) (F : Hp), ∃ t, PDts (X.blk s H scope (compEnvC scope cl C X.env) fp) (still F Δ.I0) ifs1 t dt1)
    (he : ∀ (s : Shared) (H : Hp) (C : Addr) (cl : List (Str × Addr)) (fp : List Addr) (F : Hp), ∃ te, PDe (X.blk s H scope (compEnvC scope cl C X.env) fp) (still F Δ.I0) elt te de)
    (hs : ∀ x, foldedSetIterable iter X.env x = pure x := by intro _; rfl) (hs1 : ∀ env x, foldedSetIterable iter1 env x = pure x := by intro _ _; rfl) :
    PDs X Δ (.Assign [.Name y py] (.ListComp elt [⟨tg, iter, ifs, 0⟩, ⟨tg1, iter1, ifs1, 0⟩] scope pos) spos) (tAsg (tLc2 wi (lfW X.K Δ.I0 (own.map (·.2)) dg) (lfT X.K Δ.I0 dt) (lfI X.K Δ.I0 di1) (lfW X.K Δ.I0 vs1 dg1) (lfT X.K Δ.I0 dt1) (lfE X.K Δ.I0 de) (own.map (·.2)) vs1) (gName i)) (dSet i (dLc2 di dg dt di1 dg1 dt1 de (own.map (·.2)) vs1)) :=
  ⟨ps_setLc2 hc hN hy hyl hsw hi.1 ok hv (fun s H C cl fp => (lf_w (hg s H C cl fp) Δ.F).1) (fun s H C cl fp => (lf_t (ht s H C cl fp) Δ.F).1) (fun s H C cl fp => (lf_i (hi1 s H C cl fp) Δ.F).1) (fun s H C cl fp => (lf_w (hg1 s H C cl fp) Δ.F).1) (fun s H C cl fp => (lf_t (ht1 s H C cl fp) Δ.F).1) (fun s H C cl fp => (lf_e (he s H C cl fp) Δ.F).1) hs hs1,
    fun I M H σ env G T Td R q => snd_lc2 hi.2 (fun F => (lf_w (hg X.s_0 X.H_0 0 [] []) F).2) (fun F => (lf_t (ht X.s_0 X.H_0 0 [] []) F).2) (fun F => (lf_i (hi1 X.s_0 X.H_0 0 [] []) F).2) (fun F => (lf_w (hg1 X.s_0 X.H_0 0 [] []) F).2) (fun F => (lf_t (ht1 X.s_0 X.H_0 0 [] []) F).2) (fun F => (lf_e (he X.s_0 X.H_0 0 [] []) F).2) I M H σ env G _ _
      (fun d M1 I1 H1 v x1 G1 r1 q1 => R.nx _ _ _ _ _ x1 (G1.set r1) q1) q⟩
end
end BB

set_option maxHeartbeats 4000000
namespace BB
open L2 PySem PySem.Spec PyProof.Rows
/-! x == y, x != y, x of a class with its own ==; things in tuples and lists of data -/
theorem sub_ty {K : PySem.W.Frag} {C : Addr} {T : String} {bm : List Value} (e : fastBuiltinMro T = some bm) (h : bm.contains (.ref C) = false) : PySem.W.subIn K (.type T) (.ref C) = some false := by
  show (fastBuiltinMro T).map (·.contains (.ref C)) = some false
  rw [e]
  show some (bm.contains (.ref C)) = _
  rw [h]
theorem first_tuple {K : PySem.W.Frag} {C : Addr} : PySem.W.notFirst K C (.type "tuple") = true := by
  unfold PySem.W.notFirst
  rw [sub_ty (bm := [.type "tuple", .type "object"]) (by decide +kernel) (by first | rfl | simp)]
  exact Bool.or_true _
theorem first_int {K : PySem.W.Frag} {C : Addr} : PySem.W.notFirst K C (.type "int") = true := by
  unfold PySem.W.notFirst
  rw [sub_ty (bm := [.type "int", .type "object"]) (by decide +kernel) (by first | rfl | simp)]
  exact Bool.or_true _
theorem first_own {K : PySem.W.Frag} {C : Addr} : PySem.W.notFirst K C (.ref C) = true := by unfold PySem.W.notFirst; simp
def rOwn (K : PySem.W.Frag) (C : Addr) (sp : Sp) (neg : Bool) : R2 := fun x y H Q => ∃ a dx fs t, x = .ref a ∧ H a = some (.ins C dx fs) ∧ TyX K H y t ∧ PySem.W.notFirst K C t = true ∧ sp [x, y] H (fun v H' => ∃ b : Bool, v = .bl b ∧ Q (.bl (if neg then !b else b)) H') (fun _ _ _ => False)
section
variable {X : Cx} {C f : Addr} {fd : FuncData} {ps : List Str} {k : Nat} {sp : Sp}
theorem own_call {pins : List (Addr × Obj)} {σ : L2.St} {H : Hp} {s : Shared} {A : Around} {a : Addr} {u : Value} {y : V} {Qv : Bool → Hp → Prop} {R : Value → Shared → Prop} (F : FnOk X.prog X.w X.K X.mg X.base (L2.CX X.prog X.w) k f fd ps sp) (hr : Room k A) (at0 : Env0 X.prog X.w X.K X.mg X.base A X.stack s H) (hb : Binds X.K fd ps [])
    (I : Inv X pins σ H s) (ry : RelV y u) (h : sp [.ref a, y] H (fun v H' => ∃ b : Bool, v = .bl b ∧ Qv b H') (fun _ _ _ => False)) (fin : ∀ b s' H', Inv X pins σ H' s' → Qv b H' → R (.bool b) s') :
    wpAny (model X.prog X.w) A (call (.ref f) [.ref a, u]) R X.xe s := by
  have hl := F.len _ _ _ _ h
  refine wpAny_call (codeAny_mono (F.run A X.stack s H ⟨[.ref a, u], []⟩ [.ref a, u] [.ref a, y] _ _ hr at0 (by
    have := hb s [.ref a, u] I.kIn (by simpa using hl)
    simpa using this) (.cons rfl (.cons ry .nil)) h) fun r s' hq => ?_)
  cases r with
  | error e => exact never_at pins σ H s e s' I hq
  | ok fl =>
    cases fl with
    | ret w =>
      obtain ⟨z, H', I', rz, b, ez, q⟩ := I.after hq
      subst ez
      cases rz
      exact fin b s' H' I' q
    | next => exact False.elim hq
    | brk => exact False.elim hq
    | cont => exact False.elim hq
theorem op_ownEq (F : FnOk X.prog X.w X.K X.mg X.base (L2.CX X.prog X.w) k f fd ps sp) (hr : Room k X.A) (hm : Meth X.K C "__eq__" f) (hb : Binds X.K fd ps []) : OpR X (compareOp .Eq) (rOwn X.K C sp false) := by
  intro pins s σ H x y v u Q I rx ry h
  obtain ⟨a, dx, fs, t, rfl, ha, ty, nf, h⟩ := h
  cases rx
  obtain ⟨mA, J, _⟩ := ins_get I.hok ha
  obtain ⟨od, J, _⟩ := J.look
  obtain ⟨m, hF⟩ := I.fr
  obtain ⟨P, Z, p, _⟩ := kit_of I ry ty
  show wpAny _ X.A (richCompare .Eq (.ref a) u) _ _ s
  refine PySem.W.cmp_K (op := .Eq) hr.units0 hF I.ok.mod.kin J (Z.ty _ _ I.kIn p) nf hm.at_ hm.fn ?_
  exact own_call (Qv := fun b H' => Q (.bl b) H') F hr I.env0 hb I ry h fun b s' H' I' q => ⟨.bl b, H', I', rfl, q⟩
theorem ifBound_objNe {M : Model} {A : Around} {E : Value → Shared → Prop} {s : Shared} {K : PySem.W.Frag} {x C : Addr} {ox : Obj} {od : Option Obj} {args : List Value} {Q : Option Value → Shared → Prop} (X : K.In s.heap) (I : PySem.W.InstAt s.heap x ox C od) (hs : PySem.W.findIn K (.ref C) "__ne__" = some (some (.builtin "object.__ne__")))
    (h : wpAny M A (call (.builtin "object.__ne__") (.ref x :: args)) (fun v => Q (some v)) E s) : wpAny M A (callSpecialIfBound? (.ref x) "__ne__" args) Q E s := by
  simp only [callSpecialIfBound?, bindSpecialIfBound?]
  refine wpAny_holding (wpAny_bind (wpAny_bind (wpAny_bind (I.type.here ((PySem.W.looks_findIn X hs).here ?_)))))
  refine wpAny_bind (wpAny_askSetting (wpAny_ite ?_))
  have fin : wpAny M A (call (.builtin "object.__ne__") ([.ref x] ++ args) >>= fun v => pure (some v)) Q E s := wpAny_bind (wpAny_mono h (fun v s' h' => wpAny_pure h') fun _ _ h' => h')
  split
  · exact wpAny_bind (wpAny_of_eq (F.cmp_object.ne.bind _) (wpAny_pure (by exact fin)))
  · exact wpAny_tryCatch (wpAny_bind (wpAny_of_eq (F.cmp_object.ne.bind _) (wpAny_pure (by exact fin))))
theorem objNe_entry {prog : Program} {w : World} {A : Around} {E : Value → Shared → Prop} {s : Shared} {K : PySem.W.Frag} {x C f : Addr} {ox : Obj} {od : Option Obj} {u : Value} {Q : Fin → Shared → Prop} (X : K.In s.heap) (I : PySem.W.InstAt s.heap x ox C od) (hu : A.units < cLine)
    (hs : PySem.W.findIn K (.ref C) "__eq__" = some (some (.ref f))) (hf : PySem.W.isFn K (.ref f) = true) (hcall : wpAny (model prog w) A (call (.ref f) [.ref x, u]) (fun v s' => ∃ b, v = .bool b ∧ Q (.done (.ret (.bool (!b)))) s') E s) :
    wpAny (model prog w) A (Builtin.«object.__ne__» ⟨[.ref x, u], []⟩) Q E s := by
  unfold Builtin.«object.__ne__»
  repeat (first
    | with_reducible refine wpAny_cRoomFor hu ?_
    | (refine wpAny_bind (m := callSpecialIfBound? (.ref x) (Str.ofString "__eq__") [u])
        (PySem.W.ifBound_K X I hs hf (wpAny_mono hcall (fun r s' hr => by
          obtain ⟨b, rfl, hq⟩ := hr
          repeat (first | exact hq | exact wpAny_pure hq | exact wpAny_truthy_bool hq | (refine wpAny_bind (m := truthy (.bool _)) (wpAny_truthy_bool ?_)) | wp_step)) fun _ _ e => e)))
    | wp_step)
theorem op_ownNe (F : FnOk X.prog X.w X.K X.mg X.base (L2.CX X.prog X.w) k f fd ps sp) (hr : Room (k + 1) X.A) (hm : Meth X.K C "__eq__" f) (hne : PySem.W.findIn X.K (.ref C) "__ne__" = some (some (.builtin "object.__ne__"))) (hall : PySem.W.mroIn X.K C (.type "object") = some true) (hb : Binds X.K fd ps []) : OpR X (compareOp .NotEq) (rOwn X.K C sp true) := by
  intro pins s σ H x y v u Q I rx ry h
  obtain ⟨a, dx, fs, t, rfl, ha, ty, nf, h⟩ := h
  cases rx
  obtain ⟨mA, J, _⟩ := ins_get I.hok ha
  obtain ⟨od, J, _⟩ := J.look
  obtain ⟨m, hF⟩ := I.fr
  obtain ⟨P, Z, p, _⟩ := kit_of I ry ty
  have hu : X.A.units + 1 < cLine := by have := hr.un; omega
  show wpAny _ X.A (richCompare .NotEq (.ref a) u) _ _ s
  have one : wpAny (model X.prog X.w) X.A (tryCompare (.ref a) "__ne__" u) (fun r s' => ∃ b, r = some (.bool (!b)) ∧ ∃ H', Inv X pins σ H' s' ∧ Q (.bl (!b)) H') X.xe s := by
    unfold tryCompare
    refine wpAny_bind (ifBound_objNe I.kIn J hne (wpAny_call (codeAny_call_builtin PySem.F.cmp_object.ne.plain PySem.F.cmpEntry_ne (PySem.W.check_slot PySem.F.cmpKind_ne PySem.F.cmpSplit_ne (J.type.andThen (PySem.W.looks_mroIn I.kIn hall)) (PySem.F.cmpArgs_ne _ _)
      (objNe_entry I.kIn J hu hm.at_ hm.fn ?_)))))
    refine own_call (Qv := fun b H' => Q (.bl (!b)) H') F hr.in1 I.env0.in1 hb I ry h fun b s' H' I' q => ⟨b, rfl, ?_⟩
    first | exact ⟨b, rfl, wpAny_pure ⟨b, rfl, H', I', q⟩⟩ | exact wpAny_pure ⟨b, rfl, H', I', q⟩ | exact wpAny_pure (wpAny_pure ⟨b, rfl, H', I', q⟩)
  unfold richCompare
  rw [cmpInfo_NotEq]
  dsimp only
  simp only [oneThing_ref]
  refine wpAny_holding (wpAny_bind (wpAny_cRoomFor (Nat.lt_of_succ_lt hu) ?_))
  refine wpAny_bind (J.type.here (wpAny_bind ((Z.ty _ _ I.kIn p).here ?_)))
  have fin : ∀ (r : Option Value) (s' : Shared), (∃ b, r = some (.bool (!b)) ∧ ∃ H', Inv X pins σ H' s' ∧ Q (.bl (!b)) H') → ∃ b, r = some (.bool (!b)) ∧ EP X pins σ Q (.bool (!b)) s' := fun r s' ⟨b, e, H', I', q⟩ => ⟨b, e, .bl (!b), H', I', rfl, q⟩
  split
  · rename_i q
    have e : PySem.W.subIn X.K t (.ref C) = some false := by
      rcases Bool.or_eq_true_iff.mp nf with e | e
      · rw [beq_iff_eq.mp e] at q; simp at q
      · exact beq_iff_eq.mp e
    refine wpAny_bind ((PySem.W.looks_subIn I.kIn e).here ?_)
    simp only [Bool.false_eq_true, if_false]
    refine wpAny_bind (wpAny_mono one (fun r s' z => ?_) fun _ _ e => e)
    obtain ⟨b, rfl, hq⟩ := fin r s' z
    exact wpAny_pure hq
  · refine wpAny_bind (wpAny_pure ?_)
    simp only [Bool.false_eq_true, if_false]
    refine wpAny_bind (wpAny_mono one (fun r s' z => ?_) fun _ _ e => e)
    obtain ⟨b, rfl, hq⟩ := fin r s' z
    exact wpAny_pure hq
/-- what == may be asked with -/
def Beside (K : PySem.W.Frag) (M : Mem) (C : Addr) (y : D) : Prop := (∃ C' gs, insOf M y = some (C', gs) ∧ IsiC K C' ∧ PySem.W.notFirst K C (.ref C') = true) ∨ ∃ T, tyD M y = some T ∧ PySem.W.notFirst K C (.type T) = true
def rdOwn (K : PySem.W.Frag) (C : Addr) (sp : SpD) (neg : Bool) : RD2 := fun x y M Q => ∃ fs, insOf M x = some (C, fs) ∧ Beside K M C y ∧ sp [x, y] M (fun v M' => ∃ b : Bool, v = .bl b ∧ Q (.bl (if neg then !b else b)) M') (fun _ _ _ => False)
theorem snd_own {sp : SpD} {neg : Bool} : SndR X (rOwn X.K C (liftSp X.K sp) neg) (rdOwn X.K C sp neg) := by
  intro Δ I M H σ env G x y dx dy rx ry Q Qd k ⟨fs, e1, bs, q⟩
  obtain ⟨a, dd, fvs, rfl, h1, h2⟩ := ins_of G.at_ rx e1
  have ty : ∃ t, TyX X.K H y t ∧ PySem.W.notFirst X.K C t = true := by
    rcases bs with ⟨C', gs, e2, c, nf⟩ | ⟨T, e2, nf⟩
    · obtain ⟨b, db, gvs, rfl, h3, _⟩ := ins_of G.at_ ry e2
      exact ⟨_, .base (.ins h3 c.cl c.atr c.got c.tak c.all), nf⟩
    · exact ⟨_, ty_of G.at_ ry e2, nf⟩
  obtain ⟨t, ty, nf⟩ := ty
  refine ⟨a, dd, fvs, t, rfl, h1, ty, nf, Δ.F, I, M, [dx, dy], _, _, G.at_, .cons rx (.cons ry .nil), q, fun d M' I' H' v x A r' q => ?_, fun _ _ _ _ _ _ _ _ _ w => w⟩
  obtain ⟨b, e3, q⟩ := q
  subst e3
  exact ⟨b, r'.bl_inv, k _ _ _ _ _ x (G.go x A) (.bl _) q⟩
/-! x in t, t a tuple or list of data -/
def rInT (K : PySem.W.Frag) (neg : Bool) : R2 := fun x y H Q => ∃ d ds, Dp K H x d ∧ (Dp K H y (.tuple ds) ∨ Dp K H y (.list ds)) ∧ SeqAt.shaped d = true ∧ SeqAt.shaped (.list ds) = true ∧ Q (.bl (if neg then !ds.any fun z => PyData.eqv z d else ds.any fun z => PyData.eqv z d)) H
theorem op_inT (hu : X.A.units + 65 < cLine) : OpR X (compareOp .In) (rInT X.K false) := by
  intro pins s σ H x y v u Q I rx ry h
  obtain ⟨d, ds, hd, he, sd, se, q⟩ := h
  obtain ⟨as, r1⟩ := Dp.reads I d x v hd rx
  rcases he with he | he
  · obtain ⟨bs, r2⟩ := Dp.reads I (.tuple ds) y u he ry
    exact SeqAt.in_tuple_reads r2 r1 (SeqAt.canLay_of_shaped se) (SeqAt.canLay_of_shaped sd) (room_in_shaped sd hu) ⟨.bl _, H, I, rfl, q⟩
  · obtain ⟨bs, r2⟩ := Dp.reads I (.list ds) y u he ry
    exact SeqAt.in_list_reads r2 r1 (SeqAt.canLay_of_shaped se) (SeqAt.canLay_of_shaped sd) (room_in_shaped sd hu) ⟨.bl _, H, I, rfl, q⟩
theorem op_notInT (hu : X.A.units + 65 < cLine) : OpR X (compareOp .NotIn) (rInT X.K true) := by
  intro pins s σ H x y v u Q I rx ry h
  obtain ⟨d, ds, hd, he, sd, se, q⟩ := h
  obtain ⟨as, r1⟩ := Dp.reads I d x v hd rx
  rcases he with he | he
  · obtain ⟨bs, r2⟩ := Dp.reads I (.tuple ds) y u he ry
    exact SeqAt.notIn_tuple_reads r2 r1 (SeqAt.canLay_of_shaped se) (SeqAt.canLay_of_shaped sd) (room_in_shaped sd hu) ⟨.bl _, H, I, rfl, q⟩
  · obtain ⟨bs, r2⟩ := Dp.reads I (.list ds) y u he ry
    exact SeqAt.notIn_list_reads r2 r1 (SeqAt.canLay_of_shaped se) (SeqAt.canLay_of_shaped sd) (room_in_shaped sd hu) ⟨.bl _, H, I, rfl, q⟩
def rdInT (neg : Bool) : RD2 := fun x y M Q => ∃ d ds, pyOf M x = some d ∧ (pyOf M y = some (.tuple ds) ∨ pyOf M y = some (.list ds)) ∧ SeqAt.shaped d = true ∧ SeqAt.shaped (.list ds) = true ∧ Q (.bl (if neg then !ds.any fun z => PyData.eqv z d else ds.any fun z => PyData.eqv z d)) M
theorem snd_inT {neg : Bool} : SndR X (rInT X.K neg) (rdInT neg) := by
  intro Δ I M H σ env G x y dx dy rx ry Q Qd k ⟨d, ds, h1, h2, s1, s2, q⟩
  exact ⟨d, ds, pyOf_dp G.at_ rx h1, h2.imp (pyOf_dp G.at_ ry) (pyOf_dp G.at_ ry), s1, s2, k _ _ _ _ _ (Ext.refl I) G (.bl _) q⟩
end
end BB

set_option maxHeartbeats 4000000
namespace BB
open L2 PySem PySem.Spec PyProof.Rows
/-! ### dicts: keys are ints and texts, or tuples of these -/
def kD : Key → D
  | .inl i => .int i
  | .inr z => .str z
def skey : D → Option Key
  | .int i => some (.inl i)
  | .str z => some (.inr z)
  | _ => none
def skeys : List D → Option (List Key)
  | [] => some []
  | d :: ds => match skey d, skeys ds with
    | some k, some ks => some (k :: ks)
    | _, _ => none
def tkey : D → Option (List Key)
  | .htup ds => skeys ds
  | _ => none
section
variable {K : PySem.W.Frag} {I J F H : Hp} {M : Mem} {v : V} {d : D}
theorem skey_of {k : Key} (r : Rp K I v d) (h : skey d = some k) : v = kV k := by
  cases d with
  | int i => cases h; exact r.int_inv
  | str z => cases h; exact r.str_inv
  | _ => cases h
theorem skeys_of : ∀ {ds : List D} {vs : List V} {ks : List Key}, Rps K I vs ds → skeys ds = some ks → vs = ks.map kV
  | [], _, _, r, h => by cases h; exact r.nil_inv
  | d :: ds, _, ks, r, h => by
    obtain ⟨v, vs, rfl, rv, rr⟩ := r.cons_inv
    rw [skeys] at h
    cases e1 : skey d with
    | none => rw [e1] at h; cases h
    | some k =>
      cases e2 : skeys ds with
      | none => rw [e1, e2] at h; cases h
      | some ks' => rw [e1, e2] at h; cases h; rw [skey_of rv e1, skeys_of rr e2]; rfl
theorem tkey_of {k : List Key} (r : Rp K I v d) (h : tkey d = some k) : ∃ b, v = .ref b ∧ I b = some (.tup (k.map kV)) := by
  cases d with
  | htup ds =>
    obtain ⟨a, vs, rfl, h1, h2⟩ := r.htup_inv
    rw [skeys_of h2 h] at h1
    exact ⟨a, rfl, h1⟩
  | _ => cases h
end
/-! tables -/
section
variable {κ α : Type} [DecidableEq κ]
def valD (kvs : List (κ × α)) (k : κ) : Option α := (kvs.find? fun kv => decide (kv.1 = k)).map (·.2)
def putKD (kvs : List (κ × α)) (k : κ) (v : α) : List (κ × α) :=
  if (kvs.any fun kv => decide (kv.1 = k)) = true then kvs.map (fun kv => if kv.1 = k then (kv.1, v) else kv) else kvs ++ [(k, v)]
theorem valD_any (k : κ) : ∀ kvs : List (κ × α), (kvs.any fun kv => decide (kv.1 = k)) = (valD kvs k).isSome
  | [] => rfl
  | p :: r => by
    rw [List.any_cons]
    by_cases e : p.1 = k
    · rw [decide_eq_true e, valD, List.find?_cons, decide_eq_true e]; rfl
    · rw [decide_eq_false e, Bool.false_or, valD_any k r]; unfold valD; rw [List.find?_cons, decide_eq_false e]
theorem valD_cons (p : κ × α) (r : List (κ × α)) (k : κ) : valD (p :: r) k = if p.1 = k then some p.2 else valD r k := by
  unfold valD
  rw [List.find?_cons]
  by_cases e : p.1 = k
  · rw [decide_eq_true e, if_pos e]; rfl
  · rw [decide_eq_false e, if_neg e]
theorem valD_append (xs ys : List (κ × α)) (k : κ) : valD (xs ++ ys) k = (valD xs k).orElse fun _ => valD ys k := by
  induction xs with
  | nil => rfl
  | cons p r ih =>
    rw [List.cons_append, valD_cons, valD_cons, ih]
    by_cases e : p.1 = k
    · rw [if_pos e, if_pos e]; rfl
    · rw [if_neg e, if_neg e]
theorem valD_map (k j : κ) (y : α) (kvs : List (κ × α)) : valD (kvs.map fun kv => if kv.1 = k then (kv.1, y) else kv) j = (valD kvs j).map fun x => if j = k then y else x := by
  induction kvs with
  | nil => rfl
  | cons p r ih =>
    rw [List.map_cons, valD_cons, valD_cons, ih]
    by_cases e : p.1 = k
    · rw [if_pos e]
      by_cases e2 : p.1 = j
      · rw [if_pos e2, if_pos e2, Option.map_some, if_pos (e2.symm.trans e)]
      · rw [if_neg e2, if_neg e2]
    · rw [if_neg e]
      by_cases e2 : p.1 = j
      · rw [if_pos e2, if_pos e2, Option.map_some, if_neg (by rw [← e2]; exact e)]
      · rw [if_neg e2, if_neg e2]
theorem valD_put (kvs : List (κ × α)) (k j : κ) (y : α) : valD (putKD kvs k y) j = if j = k then some y else valD kvs j := by
  unfold putKD
  rw [valD_any]
  by_cases h : (valD kvs k).isSome = true
  · rw [if_pos h, valD_map]
    by_cases e : j = k
    · subst e
      rw [if_pos rfl]
      obtain ⟨x, hx⟩ := Option.isSome_iff_exists.mp h
      rw [hx, Option.map_some, if_pos rfl]
    · rw [if_neg e]
      cases valD kvs j with
      | none => rfl
      | some x => rw [Option.map_some, if_neg e]
  · rw [if_neg h, valD_append, valD_cons]
    have hn : valD kvs k = none := by cases hh : valD kvs k with
      | none => rfl
      | some x => rw [hh] at h; exact absurd rfl h
    by_cases e : j = k
    · subst e
      rw [hn, if_pos rfl, if_pos rfl]; rfl
    · rw [if_neg (fun z => e z.symm), if_neg e]
      cases valD kvs j <;> rfl
theorem putKD_new {kvs : List (κ × α)} {k : κ} {v : α} (h : valD kvs k = none) : putKD kvs k v = kvs ++ [(k, v)] := by
  unfold putKD
  rw [valD_any, h, if_neg (by simp)]
theorem putKD_len (kvs : List (κ × α)) (k : κ) (v : α) : (putKD kvs k v).length ≤ kvs.length + 1 := by
  unfold putKD
  split
  · rw [List.length_map]; omega
  · rw [List.length_append]; exact Nat.le_refl _
end
section
variable {K : PySem.W.Frag} {I J F H : Hp} {M : Mem}
theorem RpT.len : ∀ {kv : List (List Key × V)} {kd : List (List Key × D)}, RpT K I kv kd → kv.length = kd.length
  | _, _, .nil => rfl
  | _, _, .cons _ r => congrArg (· + 1) (RpT.len r)
theorem RpK.len : ∀ {kv : List (Key × V)} {kd : List (Key × D)}, RpK K I kv kd → kv.length = kd.length
  | _, _, .nil => rfl
  | _, _, .cons _ r => congrArg (· + 1) (RpK.len r)
/-- a value or none, of data or none -/
def RpO (K : PySem.W.Frag) (I : Hp) : Option V → Option D → Prop
  | none, none => True
  | some v, some d => Rp K I v d
  | _, _ => False
theorem valV_consT {κ : Type} [DecidableEq κ] (p : κ × V) (r : List (κ × V)) (k : κ) : valV (p :: r) k = if p.1 = k then some p.2 else valV r k := by
  by_cases e : p.1 = k
  · rw [if_pos e, valV_pos e]
  · rw [if_neg e, valV_neg e]
theorem RpT.val : ∀ {kv : List (List Key × V)} {kd : List (List Key × D)} (k : List Key), RpT K I kv kd → RpO K I (valV kv k) (valD kd k)
  | _, _, _, .nil => trivial
  | (k1, v) :: kv, (_, d) :: kd, k, .cons a r => by
    rw [valV_consT, valD_cons]
    by_cases e : k1 = k
    · rw [if_pos e, if_pos e]; exact a
    · rw [if_neg e, if_neg e]; exact RpT.val k r
theorem RpK.val : ∀ {kv : List (Key × V)} {kd : List (Key × D)} (k : Key), RpK K I kv kd → RpO K I (valV kv k) (valD kd k)
  | _, _, _, .nil => trivial
  | (k1, v) :: kv, (_, d) :: kd, k, .cons a r => by
    rw [valV_consT, valD_cons]
    by_cases e : k1 = k
    · rw [if_pos e, if_pos e]; exact a
    · rw [if_neg e, if_neg e]; exact RpK.val k r
theorem RpT.snoc {k : List Key} {v : V} {d : D} (h : Rp K I v d) : ∀ {kv : List (List Key × V)} {kd : List (List Key × D)}, RpT K I kv kd → RpT K I (kv ++ [(k, v)]) (kd ++ [(k, d)])
  | _, _, .nil => .cons h .nil
  | _, _, .cons a r => .cons a (RpT.snoc h r)
theorem RpK.snoc {k : Key} {v : V} {d : D} (h : Rp K I v d) : ∀ {kv : List (Key × V)} {kd : List (Key × D)}, RpK K I kv kd → RpK K I (kv ++ [(k, v)]) (kd ++ [(k, d)])
  | _, _, .nil => .cons h .nil
  | _, _, .cons a r => .cons a (RpK.snoc h r)
theorem RpT.repl {k : List Key} {v : V} {d : D} (h : Rp K I v d) : ∀ {kv : List (List Key × V)} {kd : List (List Key × D)}, RpT K I kv kd → RpT K I (kv.map fun p => if p.1 = k then (p.1, v) else p) (kd.map fun p => if p.1 = k then (p.1, d) else p)
  | _, _, .nil => .nil
  | (k1, u) :: kv, (_, e) :: kd, .cons a r => by
    rw [List.map_cons, List.map_cons]
    by_cases q : k1 = k
    · rw [if_pos q, if_pos q]; exact .cons h (RpT.repl h r)
    · rw [if_neg q, if_neg q]; exact .cons a (RpT.repl h r)
theorem RpK.repl {k : Key} {v : V} {d : D} (h : Rp K I v d) : ∀ {kv : List (Key × V)} {kd : List (Key × D)}, RpK K I kv kd → RpK K I (kv.map fun p => if p.1 = k then (p.1, v) else p) (kd.map fun p => if p.1 = k then (p.1, d) else p)
  | _, _, .nil => .nil
  | (k1, u) :: kv, (_, e) :: kd, .cons a r => by
    rw [List.map_cons, List.map_cons]
    by_cases q : k1 = k
    · rw [if_pos q, if_pos q]; exact .cons h (RpK.repl h r)
    · rw [if_neg q, if_neg q]; exact .cons a (RpK.repl h r)
theorem RpO.some_eq {o : Option V} {p : Option D} (h : RpO K I o p) : o.isSome = p.isSome := by
  cases o <;> cases p <;> first | rfl | exact h.elim
theorem RpT.put {k : List Key} {v : V} {d : D} {kv : List (List Key × V)} {kd : List (List Key × D)} (r : RpT K I kv kd) (h : Rp K I v d) : RpT K I (putK kv k v) (putKD kd k d) := by
  unfold putK putKD
  rw [valV_any, valD_any, (RpT.val k r).some_eq]
  split
  · exact RpT.repl h r
  · exact RpT.snoc h r
theorem RpK.put {k : Key} {v : V} {d : D} {kv : List (Key × V)} {kd : List (Key × D)} (r : RpK K I kv kd) (h : Rp K I v d) : RpK K I (putK kv k v) (putKD kd k d) := by
  unfold putK putKD
  rw [valV_any, valD_any, (RpK.val k r).some_eq]
  split
  · exact RpK.repl h r
  · exact RpK.snoc h r
theorem strip_dK {o : HO} {kvs} (h : strip o = .dK kvs) : o = .dK kvs ∨ ∃ ob, o = .frz ob (.dK kvs) := by
  unfold strip at h; split at h <;> first | exact .inr ⟨_, by cases h; rfl⟩ | exact .inl h | cases h
theorem strip_dT {o : HO} {kvs} (h : strip o = .dT kvs) : o = .dT kvs ∨ ∃ ob, o = .frz ob (.dT kvs) := by
  unfold strip at h; split at h <;> first | exact .inr ⟨_, by cases h; rfl⟩ | exact .inl h | cases h
/-- a dict of the store, or a fixed one -/
def dctT (M : Mem) : D → Option (List (List Key × D))
  | .ref p => match M p with | some (.dT kvs) => some kvs | _ => none
  | .dT kvs => some kvs
  | _ => none
def dctK (M : Mem) : D → Option (List (Key × D))
  | .ref p => match M p with | some (.dK kvs) => some kvs | _ => none
  | .dK kvs => some kvs
  | _ => none
theorem dctT_ref {p : Addr} {kvs} (h : M p = some (.dT kvs)) : dctT M (.ref p) = some kvs := by
  show (match M p with | some (.dT kvs) => some kvs | _ => none) = _
  rw [h]
theorem dctK_ref {p : Addr} {kvs} (h : M p = some (.dK kvs)) : dctK M (.ref p) = some kvs := by
  show (match M p with | some (.dK kvs) => some kvs | _ => none) = _
  rw [h]
theorem dctT_of (A : At K F I M H) {v : V} {d : D} {kd} (r : Rp K I v d) (h : dctT M d = some kd) : ∃ a kv, v = .ref a ∧ Rd H a (.dT kv) ∧ RpT K I kv kd := by
  cases d with
  | ref p =>
    rw [r.ref_inv]
    have h' : (match M p with | some (.dT kvs) => some kvs | _ => none) = some kd := h
    split at h'
    · rename_i e
      cases h'
      obtain ⟨_, kv, h1, h2⟩ := A.mem _ _ e
      exact ⟨p, kv, rfl, .inl h1, h2⟩
    · cases h'
  | dT kvs =>
    cases h
    cases r with
    | dT h1 e h2 =>
      rcases strip_dT e with rfl | ⟨ob, rfl⟩
      · exact ⟨_, _, rfl, .inl (A.ex _ _ h1), h2⟩
      · exact ⟨_, _, rfl, .inr ⟨ob, A.ex _ _ h1⟩, h2⟩
  | _ => cases h
theorem dctK_of (A : At K F I M H) {v : V} {d : D} {kd} (r : Rp K I v d) (h : dctK M d = some kd) : ∃ a kv, v = .ref a ∧ Rd H a (.dK kv) ∧ RpK K I kv kd := by
  cases d with
  | ref p =>
    rw [r.ref_inv]
    have h' : (match M p with | some (.dK kvs) => some kvs | _ => none) = some kd := h
    split at h'
    · rename_i e
      cases h'
      obtain ⟨_, kv, h1, h2⟩ := A.mem _ _ e
      exact ⟨p, kv, rfl, .inl h1, h2⟩
    · cases h'
  | dK kvs =>
    cases h
    cases r with
    | dK h1 e h2 =>
      rcases strip_dK e with rfl | ⟨ob, rfl⟩
      · exact ⟨_, _, rfl, .inl (A.ex _ _ h1), h2⟩
      · exact ⟨_, _, rfl, .inr ⟨ob, A.ex _ _ h1⟩, h2⟩
  | _ => cases h
/-- what a dict holds at a key -/
inductive Look (M : Mem) : D → D → Option D → Prop
  | t {x y kvs k} : dctT M x = some kvs → tkey y = some k → Look M x y (valD kvs k)
  | k {x y kvs k} : dctK M x = some kvs → skey y = some k → Look M x y (valD kvs k)
def isDct (M : Mem) (x : D) : Prop := (∃ kvs, dctT M x = some kvs) ∨ ∃ kvs, dctK M x = some kvs
theorem look_of (A : At K F I M H) {x y : V} {dx dy : D} {o : Option D} (rx : Rp K I x dx) (ry : Rp K I y dy) (h : Look M dx dy o) : ∃ a ov, x = .ref a ∧ DGet H a y ov ∧ RpO K I ov o := by
  cases h with
  | t h1 h2 =>
    obtain ⟨a, kv, rfl, rd, rt⟩ := dctT_of A rx h1
    obtain ⟨b, rfl, hb⟩ := tkey_of ry h2
    exact ⟨a, _, rfl, .inr ⟨kv, _, b, rd, rfl, A.ex _ _ hb, rfl⟩, RpT.val _ rt⟩
  | k h1 h2 =>
    obtain ⟨a, kv, rfl, rd, rt⟩ := dctK_of A rx h1
    exact ⟨a, _, rfl, .inl ⟨kv, _, rd, skey_of ry h2, rfl⟩, RpK.val _ rt⟩
theorem isD_of (A : At K F I M H) {x : V} {dx : D} (rx : Rp K I x dx) (h : isDct M dx) : ∃ a, x = .ref a ∧ IsD H a := by
  rcases h with ⟨kvs, h⟩ | ⟨kvs, h⟩
  · obtain ⟨a, kv, rfl, rd, _⟩ := dctT_of A rx h; exact ⟨a, rfl, .inr ⟨kv, rd⟩⟩
  · obtain ⟨a, kv, rfl, rd, _⟩ := dctK_of A rx h; exact ⟨a, rfl, .inl ⟨kv, rd⟩⟩
end
section
variable {X : Cx} {Δ : DC} {e a b c o i : Expr} {de da db dc dx dy : DE} {pos pos' apos cpos : Pos} {ta tb tc te to ti td ty tv tx : TE}
/-! in, [], get -/
def rDIn (neg : Bool) : R2 := fun y x H Q => ∃ a o, x = .ref a ∧ DGet H a y o ∧ Q (.bl (if neg then !o.isSome else o.isSome)) H
theorem op_din (hu : X.A.units + 1 < cLine) : OpR X (compareOp .In) (rDIn false) := by
  rintro pins s σ H x y v u Q I rx ry ⟨a, o, rfl, g, q⟩
  cases ry
  exact d_in hu I g rx fun s' I' => ⟨.bl o.isSome, H, I', rfl, q⟩
theorem op_dnotIn (hu : X.A.units + 1 < cLine) : OpR X (compareOp .NotIn) (rDIn true) := by
  rintro pins s σ H x y v u Q I rx ry ⟨a, o, rfl, g, q⟩
  cases ry
  exact d_notIn hu I g rx fun s' I' => ⟨.bl (!o.isSome), H, I', rfl, q⟩
def rdDIn (neg : Bool) : RD2 := fun y x M Q => ∃ o, Look M x y o ∧ Q (.bl (if neg then !o.isSome else o.isSome)) M
theorem snd_din {neg : Bool} : SndR X (rDIn neg) (rdDIn neg) := by
  intro Δ I M H σ env G y x dy dx ry rx Q Qd k ⟨o, h, q⟩
  obtain ⟨a, ov, rfl, g, r⟩ := look_of G.at_ rx ry h
  refine ⟨a, ov, rfl, g, ?_⟩
  rw [r.some_eq]
  exact k _ _ _ _ _ (Ext.refl I) G (.bl _) q
def dDGet (da db : DE) : DE := fun env M Q => da env M fun x M1 => db env M1 fun y M2 => ∃ d, Look M2 x y (some d) ∧ Q d M2
theorem pd_dget (hu : X.A.units + 1 < cLine) (ho : PDe X Δ o td da) (hi : PDe X Δ i ty db) (hs : NoSl i := by exact fun _ _ => rfl) : PDe X Δ (.Subscript o i pos) (tDGet td ty) (dDGet da db) :=
  ⟨pe_dget hu ho.1 hi.1 hs, fun I M H σ env G Q Qd k q => ho.2 I M H σ env G _ _ (fun d1 M1 I1 H1 v1 x1 G1 r1 q1 => hi.2 I1 M1 H1 σ env G1 _ _ (fun d2 M2 I2 H2 v2 x2 G2 r2 ⟨d, h, q2⟩ => by
    obtain ⟨p, ov, rfl, g, r⟩ := look_of G2.at_ (r1.ext x2) r2 h
    cases ov with
    | none => exact r.elim
    | some v => exact ⟨p, v, rfl, g, k _ _ _ _ _ (x1.trans x2) G2 r q2⟩) q1) q⟩
def dDGet2 (da db dc : DE) : DE := fun env M Q => da env M fun x M1 => isDct M1 x ∧ db env M1 fun y M2 => dc env M2 fun z M3 => ∃ o, Look M3 x y o ∧ Q (o.getD z) M3
theorem pd_dget2 {e f : Expr} {te tf : TE} (hu : X.A.units + 1 < cLine) (ho : PDe X Δ o td da) (he : PDe X Δ e te db) (hf : PDe X Δ f tf dc) (m : M2 X o "get" apos e f cpos := by exact ⟨rfl, rfl, rfl, rfl⟩) :
    PDe X Δ (.Call (.Attribute o "get" apos) [e, f] [] cpos) (tDGet2 td te tf) (dDGet2 da db dc) :=
  ⟨pe_dget2 hu ho.1 he.1 hf.1 m, fun I M H σ env G Q Qd k q => ho.2 I M H σ env G _ _ (fun d1 M1 I1 H1 v1 x1 G1 r1 ⟨h1, q1⟩ => by
    obtain ⟨p, rfl, isd⟩ := isD_of G1.at_ r1 h1
    refine ⟨p, rfl, isd, he.2 I1 M1 H1 σ env G1 _ _ (fun d2 M2 I2 H2 v2 x2 G2 r2 q2 => hf.2 I2 M2 H2 σ env G2 _ _ (fun d3 M3 I3 H3 v3 x3 G3 r3 ⟨oo, h, q3⟩ => ?_) q2) q1⟩
    obtain ⟨p', ov, e', g, r⟩ := look_of G3.at_ ((r1.ext x2).ext x3) (r2.ext x3) h
    cases e'
    refine ⟨ov, g, k _ _ _ _ _ ((x1.trans x2).trans x3) G3 ?_ q3⟩
    cases ov <;> cases oo <;> first | exact r3 | exact r.elim | exact r) q⟩
def dDGet1 (da db : DE) : DE := fun env M Q => da env M fun x M1 => isDct M1 x ∧ db env M1 fun y M2 => ∃ o, Look M2 x y o ∧ Q (o.getD .non) M2
theorem pd_dget1 {e : Expr} {te : TE} (hu : X.A.units + 1 < cLine) (ho : PDe X Δ o td da) (he : PDe X Δ e te db) (m : M1 X o "get" apos e cpos := by exact ⟨rfl, rfl, rfl, rfl⟩) :
    PDe X Δ (.Call (.Attribute o "get" apos) [e] [] cpos) (tDGet1 td te) (dDGet1 da db) :=
  ⟨pe_dget1 hu ho.1 he.1 m, fun I M H σ env G Q Qd k q => ho.2 I M H σ env G _ _ (fun d1 M1 I1 H1 v1 x1 G1 r1 ⟨h1, q1⟩ => by
    obtain ⟨p, rfl, isd⟩ := isD_of G1.at_ r1 h1
    refine ⟨p, rfl, isd, he.2 I1 M1 H1 σ env G1 _ _ (fun d2 M2 I2 H2 v2 x2 G2 r2 ⟨oo, h, q3⟩ => ?_) q1⟩
    obtain ⟨p', ov, e', g, r⟩ := look_of G2.at_ (r1.ext x2) r2 h
    cases e'
    refine ⟨ov, g, k _ _ _ _ _ (x1.trans x2) G2 ?_ q3⟩
    cases ov <;> cases oo <;> first | exact .non | exact r.elim | exact r) q⟩
/-! d[k] = v -/
def dDPut (da db dv : DE) : DS := fun T env M => dv env M fun v M1 => da env M1 fun x M2 => db env M2 fun y M3 => ∃ p, x = .ref p ∧
  ((∃ kvs k, M3 p = some (.dT kvs) ∧ tkey y = some k ∧ kvs.length < sizeLine ∧ T.nx env (mset M3 p (.dT (putKD kvs k v)))) ∨
   ∃ kvs k, M3 p = some (.dK kvs) ∧ skey y = some k ∧ kvs.length < sizeLine ∧ T.nx env (mset M3 p (.dK (putKD kvs k v))))
theorem pds_dput {value : Expr} (hu : X.A.units + 1 < cLine) (ho : PDe X Δ o td da) (hi : PDe X Δ i ty db) (hv : PDe X Δ value tv de) (hs : swapsWith value (some (.Subscript o i pos')) pos.line X.env = pure false := by rfl) :
    PDs X Δ (.Assign [.Subscript o i pos'] value pos) (sDPut td ty tv) (dDPut da db de) :=
  ⟨ps_dput hu ho.1 hi.1 hv.1 hs, fun I M H σ env G T Td R q => hv.2 I M H σ env G _ _ (fun d1 M1 I1 H1 v1 x1 G1 r1 q1 => ho.2 I1 M1 H1 σ env G1 _ _ (fun d2 M2 I2 H2 v2 x2 G2 r2 q2 => hi.2 I2 M2 H2 σ env G2 _ _ (fun d3 M3 I3 H3 v3 x3 G3 r3 ⟨p, e2, q3⟩ => by
    subst e2
    have e3 := (r2.ext x3).ref_inv
    subst e3
    have r1' := (r1.ext x2).ext x3
    rcases q3 with ⟨kvs, k, hm, hk, hl, q3⟩ | ⟨kvs, k, hm, hk, hl, q3⟩
    · obtain ⟨hI, kv, h1, h2⟩ := G3.at_.mem _ _ hm
      obtain ⟨b, rfl, hb⟩ := tkey_of r3 hk
      refine ⟨p, _, rfl, .inr ⟨kv, k, b, h1, rfl, G3.at_.ex _ _ hb, by rw [h2.len]; exact hl, rfl⟩, R.nx _ _ _ _ _ ((x1.trans x2).trans x3) ?_ q3⟩
      exact G3.go (Ext.refl _) (G3.at_.write hm (by intro z w; cases w) ⟨_, upd_same, h2.put r1'⟩)
    · obtain ⟨hI, kv, h1, h2⟩ := G3.at_.mem _ _ hm
      refine ⟨p, _, rfl, .inl ⟨kv, k, h1, skey_of r3 hk, by rw [h2.len]; exact hl, rfl⟩, R.nx _ _ _ _ _ ((x1.trans x2).trans x3) ?_ q3⟩
      exact G3.go (Ext.refl _) (G3.at_.write hm (by intro z w; cases w) ⟨_, upd_same, h2.put r1'⟩)) q2) q1) q⟩
/-! displays -/
def dNewT : DE := fun _ M Q => ∀ p, M p = none → Q (.ref p) (mset M p (.dT []))
def dNewK : DE := fun _ M Q => ∀ p, M p = none → Q (.ref p) (mset M p (.dK []))
theorem pd_newT : PDe X Δ (.Dict [] [] pos) tDNewT dNewT := ⟨pe_dnewT, fun I M H σ env G Q Qd k q => fun p hp =>
  k _ _ _ _ _ (Ext.refl I) (G.newM hp _ (.dT []) ⟨[], upd_same, .nil⟩) (.ref p) (q p (G.at_.freeM hp))⟩
theorem pd_newK : PDe X Δ (.Dict [] [] pos) tDNewK dNewK := ⟨pe_dnewK, fun I M H σ env G Q Qd k q => fun p hp =>
  k _ _ _ _ _ (Ext.refl I) (G.newM hp _ (.dK []) ⟨[], upd_same, .nil⟩) (.ref p) (q p (G.at_.freeM hp))⟩
end
end BB

set_option maxHeartbeats 4000000
namespace BB
open L2 PySem PySem.Spec PyProof.Rows
/-! tuples as keys; {k: v} -/
section
variable {X : Cx} {Δ : DC} {da db de : DE} {pos : Pos} {tk tv : TE} {tl : TA} {dl : DA} {es : List Expr} {k v : Expr}
def dTupH (dl : DA) : DE := fun env M Q => dl env M fun xs M1 => xs.length ≤ sizeLine ∧ Q (.htup xs) M1
theorem pd_tupH {x1} (h : PDa X Δ es tl dl) : PDe X Δ (.Tuple es x1 pos) (tTup tl) (dTupH dl) := by
  obtain ⟨p, s⟩ := h
  refine ⟨pe_tup p, fun I M H σ env G Q Qd k q => s I M H σ env G _ _ (fun ds M1 I1 H1 vs x1 G1 r1 ⟨z, q1⟩ => ⟨by rw [r1.length]; exact z, fun p hp => ?_⟩) q⟩
  obtain ⟨x2, G2⟩ := G1.newI hp (.tup vs)
  exact k _ _ _ _ _ (x1.trans x2) G2 (.htup upd_same (r1.ext x2)) q1
def tDispT (tk tv : TE) : TE := fun σ H Q => ∀ p, H p = none → tPairs [(tk, tv)] σ (upd H p (.dT [])) fun ps H2 => H2 p = some (.dT []) ∧ ∃ k b v, ps = [(.ref b, v)] ∧ H2 b = some (.tup (k.map kV)) ∧ Q (.ref p) (upd H2 p (.dT [(k, v)]))
theorem pe_dispT (hu : X.A.units + 1 < cLine) (hk : PE X k tk) (hv : PE X v tv) : PE X (.Dict [some k] [v] pos) (tDispT tk tv) := by
  refine ⟨fun pins s σ H Q I q => ?_⟩
  have hn := I.hok.fresh (Nat.le_refl s.heap.objs.size)
  have I1 := I.laid (a := s.heap.objs.size) (o := .dT []) (h' := s.heap.push { cls := .type "dict", data := .dict #[] }) (t' := s.toks) (fun _ _ q => Heap.get?_push_of_some _ q) (Nat.le_refl _) (dt_empty s.heap I.big)
  rw [arm_eval_Dict, zip_pairTrees [some k] [v] X.env pos rfl rfl, dictDisplay_pairs (pairTrees [some k] [v] X.env pos) (by simp [pairTrees]) (by simp [pairTrees])]
  have room : (tupleKind (mixKind X.prog X.w)).room X.A := by show X.A.units < cLine; omega
  refine wpAny_bind (wpAny_standAt (wpAny_bind (wpAny_subDictH (knd := tupleKind (mixKind X.prog X.w)) room (by simp [pairTrees]) ?_)))
  refine thn ((pps_cons hk hv pps_nil).run pins _ σ _ _ I1 (q _ hn)) fun ws s2 ⟨ps, H2, I2, rel, e, k1, b, v1, ep, hb, q2⟩ => ?_
  · subst ep
    obtain ⟨⟨u1, u2⟩, rfl, r1, r2⟩ : ∃ p : Value × Value, ws = [p] ∧ RelV (.ref b) p.1 ∧ RelV v1 p.2 := by
      cases rel with
      | cons h t => cases t; exact ⟨_, rfl, h.1, h.2⟩
    cases r1
    obtain ⟨z, hd, xs0, r0, dd⟩ := dt_of I2.hok e
    cases r0
    refine ⟨[(k1, b, u2)], ⟨rfl, rfl, key_of I2.hok hb, trivial⟩, dd, fun h' tk2 dd' hs => ?_⟩
    refine wpAny_pure ?_
    obtain ⟨oo, es, ep, hq, h2, h3, h4, _, h5⟩ := dd'
    refine ⟨.ref s.heap.objs.size, _, d_write (ob := .dT [(k1, v1)]) I2 (by rw [e]; exact True.intro) hs ⟨oo, hq⟩ ⟨(by show 1 ≤ sizeLine; rw [sizeLine_eq]; omega), hd, [(k1, b, u2)], .cons ⟨rfl, ?_, r2⟩ .nil, oo, es, ep, hq, h2, h3, h4, h5⟩, rfl, q2⟩
    rw [upd_ne (ne_of hb e (fun z => nomatch z))]
    exact hb
def dDispT (da db : DE) : DE := fun env M Q => ∀ p, M p = none → da env (mset M p (.dT [])) fun y M1 => db env M1 fun v M2 => M2 p = some (.dT []) ∧ ∃ k, tkey y = some k ∧ Q (.ref p) (mset M2 p (.dT [(k, v)]))
theorem pd_dispT (hu : X.A.units + 1 < cLine) (hk : PDe X Δ k tk da) (hv : PDe X Δ v tv db) : PDe X Δ (.Dict [some k] [v] pos) (tDispT tk tv) (dDispT da db) :=
  ⟨pe_dispT hu hk.1 hv.1, fun I M H σ env G Q Qd kk q => fun p hp => by
    have G0 := G.newM hp (.dT []) (.dT []) ⟨[], upd_same, .nil⟩
    refine hk.2 I _ _ σ env G0 _ _ (fun d1 M1 I1 H1 v1 x1 G1 r1 q1 => hv.2 I1 M1 H1 σ env G1 _ _ (fun d2 M2 I2 H2 v2 x2 G2 r2 ⟨hm, k1, hk1, q2⟩ => ?_) q1) (q p (G.at_.freeM hp))
    obtain ⟨hI, kv, h1, h2⟩ := G2.at_.mem _ _ hm
    cases h2
    obtain ⟨b, rfl, hb⟩ := tkey_of (r1.ext x2) hk1
    refine ⟨h1, k1, b, v2, rfl, G2.at_.ex _ _ hb, ?_⟩
    exact kk _ _ _ _ _ (x1.trans x2) (G2.go (Ext.refl _) (G2.at_.write (m' := .dT [(k1, d2)]) hm (by intro z w; cases w) ⟨_, upd_same, .cons r2 .nil⟩)) (.ref p) q2⟩
def dDispK (da db : DE) : DE := fun env M Q => ∀ p, M p = none → da env (mset M p (.dK [])) fun y M1 => db env M1 fun v M2 => M2 p = some (.dK []) ∧ ∃ k, skey y = some k ∧ Q (.ref p) (mset M2 p (.dK [(k, v)]))
theorem pd_dispK (hk : PDe X Δ k tk da) (hv : PDe X Δ v tv db) : PDe X Δ (.Dict [some k] [v] pos) (tDisp [(tk, tv)]) (dDispK da db) :=
  ⟨pe_disp (pps_cons hk.1 hv.1 pps_nil) rfl rfl (by simp) (by simp), fun I M H σ env G Q Qd kk q => fun p hp => by
    have G0 := G.newM hp (.dK []) (.dK []) ⟨[], upd_same, .nil⟩
    refine hk.2 I _ _ σ env G0 _ _ (fun d1 M1 I1 H1 v1 x1 G1 r1 q1 => hv.2 I1 M1 H1 σ env G1 _ _ (fun d2 M2 I2 H2 v2 x2 G2 r2 ⟨hm, k1, hk1, q2⟩ => ?_) q1) (q p (G.at_.freeM hp))
    obtain ⟨hI, kv, h1, h2⟩ := G2.at_.mem _ _ hm
    cases h2
    have e1 := skey_of (r1.ext x2) hk1
    subst e1
    refine ⟨h1, [(k1, v2)], rfl, by simp, ?_⟩
    exact kk _ _ _ _ _ (x1.trans x2) (G2.go (Ext.refl _) (G2.at_.write (m' := .dK [(k1, d2)]) (o := .dK (mergeK [] [(k1, v2)])) hm (by intro z w; cases w) ⟨_, upd_same, .cons r2 .nil⟩)) (.ref p) q2⟩
end
end BB

set_option maxHeartbeats 4000000
namespace BB
open L2 PySem PySem.Spec PyProof.Rows
/-! stepping through readings of dicts -/
section
variable {env : Env} {M : Mem} {Q : DKt} {T : EndsD} {da db de dv : DE} {dl : DA} {i j : Nat}
theorem i_parD {i j : Nat} (q : da env M fun x M1 => db env M1 fun y M2 => T.nx ((env.set i (some x)).set j (some y)) M2) : dPar i j da db T env M := q
theorem i_tupH (q : dl env M fun xs M1 => xs.length ≤ sizeLine ∧ Q (.htup xs) M1) : dTupH dl env M Q := q
theorem i_dispT (q : ∀ p, M p = none → da env (mset M p (.dT [])) fun y M1 => db env M1 fun v M2 => M2 p = some (.dT []) ∧ ∃ k, tkey y = some k ∧ Q (.ref p) (mset M2 p (.dT [(k, v)]))) : dDispT da db env M Q := q
theorem i_dispK (q : ∀ p, M p = none → da env (mset M p (.dK [])) fun y M1 => db env M1 fun v M2 => M2 p = some (.dK []) ∧ ∃ k, skey y = some k ∧ Q (.ref p) (mset M2 p (.dK [(k, v)]))) : dDispK da db env M Q := q
theorem i_dget (q : da env M fun x M1 => db env M1 fun y M2 => ∃ d, Look M2 x y (some d) ∧ Q d M2) : dDGet da db env M Q := q
theorem i_dget1 (q : da env M fun x M1 => isDct M1 x ∧ db env M1 fun y M2 => ∃ o, Look M2 x y o ∧ Q (o.getD .non) M2) : dDGet1 da db env M Q := q
theorem i_dget2 (q : da env M fun x M1 => isDct M1 x ∧ db env M1 fun y M2 => dv env M2 fun z M3 => ∃ o, Look M3 x y o ∧ Q (o.getD z) M3) : dDGet2 da db dv env M Q := q
theorem i_dput (q : dv env M fun v M1 => da env M1 fun x M2 => db env M2 fun y M3 => ∃ p, x = .ref p ∧
  ((∃ kvs k, M3 p = some (.dT kvs) ∧ tkey y = some k ∧ kvs.length < sizeLine ∧ T.nx env (mset M3 p (.dT (putKD kvs k v)))) ∨
   ∃ kvs k, M3 p = some (.dK kvs) ∧ skey y = some k ∧ kvs.length < sizeLine ∧ T.nx env (mset M3 p (.dK (putKD kvs k v))))) : dDPut da db dv T env M := q
theorem i_putT {p : Addr} {kvs : List (List Key × D)} {k : List Key} {v y : D} (h : M p = some (.dT kvs)) (hk : tkey y = some k) (hl : kvs.length < sizeLine) (q : T.nx env (mset M p (.dT (putKD kvs k v)))) : ∃ a, (D.ref p) = .ref a ∧
  ((∃ kvs k, M a = some (.dT kvs) ∧ tkey y = some k ∧ kvs.length < sizeLine ∧ T.nx env (mset M a (.dT (putKD kvs k v)))) ∨
   ∃ kvs k, M a = some (.dK kvs) ∧ skey y = some k ∧ kvs.length < sizeLine ∧ T.nx env (mset M a (.dK (putKD kvs k v)))) := ⟨p, rfl, .inl ⟨kvs, k, h, hk, hl, q⟩⟩
theorem i_dinT {neg : Bool} {p : Addr} {kvs : List (List Key × D)} {k : List Key} {y : D} (h : M p = some (.dT kvs)) (hk : tkey y = some k) (q : Q (.bl (if neg then !(valD kvs k).isSome else (valD kvs k).isSome)) M) : rdDIn neg y (.ref p) M Q := ⟨_, .t (dctT_ref h) hk, q⟩
theorem i_dinK {neg : Bool} {p : Addr} {kvs : List (Key × D)} {k : Key} {y : D} (h : M p = some (.dK kvs)) (hk : skey y = some k) (q : Q (.bl (if neg then !(valD kvs k).isSome else (valD kvs k).isSome)) M) : rdDIn neg y (.ref p) M Q := ⟨_, .k (dctK_ref h) hk, q⟩
theorem i_while {dt : DT} {u : DS} (q : ∃ P : Nat → Env → Mem → Prop, (∃ m, P m env M) ∧ ∀ m env M, P m env M → dt env M fun b M1 =>
  if b = true then u { T with nx := FzS fun env M => ∃ m', m' < m ∧ P m' env M, ct := FzS fun env M => ∃ m', m' < m ∧ P m' env M, bk := T.nx } env M1 else T.nx env M1) : dWhile dt u T env M := q
theorem i_newT (q : ∀ p, M p = none → Q (.ref p) (mset M p (.dT []))) : dNewT env M Q := q
theorem i_newK (q : ∀ p, M p = none → Q (.ref p) (mset M p (.dK []))) : dNewK env M Q := q
theorem i_lstMD {dl : DA} (q : dl env M fun xs M1 => xs.length ≤ sizeLine ∧ ∀ p, M1 p = none → Q (.ref p) (mset M1 p (.lst xs))) : dLstM dl env M Q := q
end
end BB

set_option maxHeartbeats 4000000
namespace BB
open L2 PySem PySem.Spec PyProof.Rows
/-! ### a list made by a comprehension, that can be written; xs.pop(i) -/
section
variable {X : Cx} {Δ : DC} {de : DE} {dt : DT} {dg : DG} {wi : TI} {di : DI} {t1 : TT} {te : TE} {g : TG}
theorem At.memF {K : PySem.W.Frag} {F F0 I H : Hp} {M : Mem} (A : At K F I M H) {p : Addr} {vs : List V} {ds : List D} (hp : F p = some (.lst vs)) (r : Rps K I vs ds) (hF : ∀ b u, F0 b = some u → b ≠ p ∧ F b = some u) : At K F0 I (mset M p (.lst ds)) H := by
  obtain ⟨h1, h2, h3⟩ := A.fr _ _ hp
  refine ⟨A.ex, fun b u e => ?_, fun b u e => ?_, fun b xs e => A.nt b xs (hF _ _ e).2⟩
  · by_cases hb : b = p
    · subst hb; rw [mset_same] at e; cases e; exact ⟨h2, _, h1, r⟩
    · rw [mset_ne hb] at e
      refine ⟨(A.mem _ _ e).1, (A.mem _ _ e).2.mono (Ext.refl I) (fun c v _ hc => hc) (fun c hc => ?_)⟩
      rw [mset_ne (mem_ne hc h3)]; exact hc
  · obtain ⟨hb, e⟩ := hF b u e
    obtain ⟨q1, q2, q3⟩ := A.fr _ _ e
    exact ⟨q1, q2, by rw [mset_ne hb]; exact q3⟩
def dLcM (di : DI) (dg : DG) (dt : DT) (de : DE) (vs : List Nat) : DE := fun env M Q => di env M fun xs keep M1 => xs.length ≤ sizeLine ∧ ∃ P : Nat → List D → Mem → Prop, P 0 [] M1 ∧ (∀ i acc M, P i acc M → keep M) ∧
  (∀ i d acc M, xs[i]? = some d → P i acc M → dg d (wipeD env vs) M fun env2 M2 => dt env2 M2 fun b M3 => if b = true then de env2 M3 fun y M4 => P (i + 1) (acc ++ [y]) M4 else P (i + 1) acc M3) ∧ ∀ acc M, P xs.length acc M → ∀ p, M p = none → Q (.ref p) (mset M p (.lst acc))
theorem snd_lcM {vs : List Nat} (si : SndI X Δ wi di) (sg : ∀ F, SndW X (Δ.blk F) vs g dg) (st : ∀ F, SndT X (Δ.blk F) t1 dt) (se : ∀ F, SndE X (Δ.blk F) te de) : SndE X Δ (tLc wi g t1 te vs) (dLcM di dg dt de vs) := fun I M H σ env G Q Qd k q =>
  si I M H σ env G _ _ (fun xs keep M1 J I1 H1 x1 G1 ok ⟨hz, P, p0, pk, ps, pd⟩ => by
    intro D hD
    have A1 := G1.at_.newF hD (.lst []) ⟨_, rfl⟩
    have F0 : ∀ (o : HO) b u, Δ.F b = some u → b ≠ D ∧ (upd Δ.F D o) b = some u := fun o b u e => by
      have hb : b ≠ D := ne_of_none (G1.at_.fr _ _ e).1 hD
      exact ⟨hb, by rw [upd_ne hb]; exact e⟩
    refine ⟨fun i m H => m = xs.length - i ∧ i ≤ xs.length ∧ ∃ I M acc us, Ext I1 I ∧ Gd X.K (Δ.blk (upd Δ.F D (.lst us))) I M H (L2.wipe σ vs) (wipeD env vs) ∧ Rps X.K I us acc ∧ acc.length ≤ i ∧ P i acc M,
      ⟨xs.length, by simp, Nat.zero_le _, I1, M1, [], [], Ext.refl _, ⟨G1.base, A1, G1.env.wipe vs⟩, .nil, Nat.le_refl _, p0⟩, ?_⟩
    rintro i m H2 ⟨rfl, hi, I2, M2, acc, us, x2, G2, r2, ha, p2⟩
    have hk := pk i acc M2 p2
    by_cases hlt : i < xs.length
    · refine .inr ⟨ok.go _ i I2 M2 H2 x2 G2.at_ hk hlt, fun H => ∃ I M acc us, Ext I1 I ∧ Gd X.K (Δ.blk (upd Δ.F D (.lst us))) I M H (L2.wipe σ vs) (wipeD env vs) ∧ Rps X.K I us acc ∧ acc.length ≤ i + 1 ∧ P (i + 1) acc M, fun H' w => ⟨xs.length - (i + 1), by omega, rfl, hlt, w⟩, fun x H' y => ?_⟩
      have hd : xs[i]? = some xs[i] := by simp [hlt]
      obtain ⟨I3, x3, A3, r3⟩ := ok.yld _ i xs[i] x I2 M2 H2 H' x2 G2.at_ hk hd y
      have G3 := G2.go x3 A3
      refine sg _ I3 M2 H' _ _ G3 x xs[i] r3 _ _ (fun env4 M4 I4 H4 σ4 x4 G4 w4 q4 => ⟨w4.trans wipe_idem, ?_⟩) (ps i xs[i] acc M2 hd p2)
      refine st _ I4 M4 H4 σ4 env4 G4 _ _ (fun b M5 I5 H5 x5 G5 q5 => ?_) q4
      have back : ∀ {I6 M6 H6 F6}, Gd X.K (Δ.blk F6) I6 M6 H6 σ4 env4 → Ext I2 I6 → Gd X.K (Δ.blk F6) I6 M6 H6 (L2.wipe σ vs) (wipeD env vs) := fun {I6 M6 H6 F6} G6 x6 => ⟨G6.base, G6.at_, G2.env.ext x6⟩
      cases b with
      | true =>
        rw [if_pos rfl] at q5 ⊢
        refine se _ I5 M5 H5 σ4 env4 G5 _ _ (fun y M6 I6 H6 u x6 G6 r6 q6 => ?_) q5
        have hFD : (upd Δ.F D (.lst us)) D = some (.lst us) := upd_same
        obtain ⟨hD1, hD2, hD3⟩ := G6.at_.fr _ _ hFD
        refine ⟨us, hD1, by rw [r2.length]; omega, I6, M6, acc ++ [y], us ++ [u], (((x2.trans x3).trans x4).trans x5).trans x6, ?_, (r2.ext (((x3.trans x4).trans x5).trans x6)).append (.cons r6 .nil), by simp; omega, q6⟩
        have A6 := G6.at_.writeF (o' := .lst (us ++ [u])) hFD ⟨_, rfl⟩
        have e : upd (upd Δ.F D (.lst us)) D (.lst (us ++ [u])) = upd Δ.F D (.lst (us ++ [u])) := upd_upd
        rw [e] at A6
        exact ⟨G6.base, A6, G2.env.ext (((x3.trans x4).trans x5).trans x6)⟩
      | false =>
        rw [if_neg Bool.false_ne_true] at q5 ⊢
        exact ⟨I5, M5, acc, us, ((x2.trans x3).trans x4).trans x5, back G5 ((x3.trans x4).trans x5), r2.ext ((x3.trans x4).trans x5), by omega, q5⟩
    · have e : i = xs.length := by omega
      subst e
      refine .inl ⟨ok.stop _ I2 M2 H2 x2 G2.at_ hk, ?_⟩
      obtain ⟨hD1, hD2, hD3⟩ := G2.at_.fr _ _ (show (upd Δ.F D (.lst us)) D = some (.lst us) from upd_same)
      have A7 := G2.at_.memF (F0 := Δ.F) (p := D) upd_same r2 (F0 _)
      exact k _ _ _ _ _ (x1.trans x2) ⟨G1.base.trans x2, A7, G1.env.ext x2⟩ (.ref D) (pd acc M2 p2 D hD3)) q
theorem pds_setLcXM {i : Nat} {y : Str} {py : Pos} {elt tg iter : Expr} {ifs : List Expr} {scope : Scope} {own : List (Str × Nat)} {pos spos : Pos} (hc : X.calm = true) (hN : X.N.Nodup) (hy : X.N[i]? = some y) (hyl : X.env.scope.names.lookup y = some .local)
    (hsw : swapsWith (.ListComp elt [⟨tg, iter, ifs, 0⟩] scope pos) (some (.Name y py)) spos.line X.env = pure true) (hi : PDi X Δ tg iter wi di) (ok : BlkOk X.N X.env.scope scope own)
    (hg : ∀ (s : Shared) (H : Hp) (C : Addr) (cl : List (Str × Addr)) (fp : List Addr) (F : Hp), ∃ g, PDgw (X.blk s H scope (compEnvC scope cl C X.env) fp) (still F Δ.I0) (own.map (·.2)) tg g dg)
    (ht : ∀ (s : Shared) (H : Hp) (C : Addr) (cl : List (Str × Addr)) (fp : List Addr) (F : Hp), ∃ t, PDts (X.blk s H scope (compEnvC scope cl C X.env) fp) (still F Δ.I0) ifs t dt)
    (he : ∀ (s : Shared) (H : Hp) (C : Addr) (cl : List (Str × Addr)) (fp : List Addr) (F : Hp), ∃ te, PDe (X.blk s H scope (compEnvC scope cl C X.env) fp) (still F Δ.I0) elt te de) (hs : ∀ x, foldedSetIterable iter X.env x = pure x := by intro _; rfl) :
    PDs X Δ (.Assign [.Name y py] (.ListComp elt [⟨tg, iter, ifs, 0⟩] scope pos) spos) (tAsg (tLc wi (lfW X.K Δ.I0 (own.map (·.2)) dg) (lfT X.K Δ.I0 dt) (lfE X.K Δ.I0 de) (own.map (·.2))) (gName i)) (dSet i (dLcM di dg dt de (own.map (·.2)))) :=
  ⟨ps_setLc hc hN hy hyl hsw hi.1 ok (fun s H C cl fp => (lf_w (hg s H C cl fp) Δ.F).1) (fun s H C cl fp => (lf_t (ht s H C cl fp) Δ.F).1) (fun s H C cl fp => (lf_e (he s H C cl fp) Δ.F).1) hs,
    fun I M H σ env G T Td R q => snd_lcM hi.2 (fun F => (lf_w (hg X.s_0 X.H_0 0 [] []) F).2) (fun F => (lf_t (ht X.s_0 X.H_0 0 [] []) F).2) (fun F => (lf_e (he X.s_0 X.H_0 0 [] []) F).2) I M H σ env G _ _
      (fun d M1 I1 H1 v x1 G1 r1 q1 => R.nx _ _ _ _ _ x1 (G1.set r1) q1) q⟩
end
section
variable {X : Cx} {Δ : DC} {e o : Expr} {de da : DE} {apos cpos : Pos} {te to : TE} {K : PySem.W.Frag} {I : Hp}
theorem Rps.eraseIdx : ∀ {vs : List V} {ds : List D} (i : Nat), Rps K I vs ds → Rps K I (vs.eraseIdx i) (ds.eraseIdx i)
  | _, _, _, .nil => .nil
  | _, _, 0, .cons _ r => r
  | _, _, i + 1, .cons a r => .cons a (Rps.eraseIdx i r)
/-- the index is one of the list, told from its front -/
def dPopI (da de : DE) : DE := fun env M Q => da env M fun x M1 => ∃ q xs0, x = .ref q ∧ M1 q = some (.lst xs0) ∧ de env M1 fun i M2 => ∃ (xs : List D) (j : Nat) (d : D), i = .int (j : Nat) ∧ j < 2 ^ 62 ∧ M2 q = some (.lst xs) ∧ xs[j]? = some d ∧ Q d (mset M2 q (.lst (xs.eraseIdx j)))
theorem pd_popI (ho : PDe X Δ o to da) (ha : PDe X Δ e te de)
    (walk : PE X o to → PE X e te → PE X (.Call (.Attribute o "pop" apos) [e] [] cpos) (tBM X.K "list" rPopAt to (tCons te tNil)) := by exact fun a b => pe_bm PySem.F.plainAttrs_list PySem.F.slot_list_pop PySem.F.type_list_pop mt_popAt a (pa_cons b pa_nil)) :
    PDe X Δ (.Call (.Attribute o "pop" apos) [e] [] cpos) (tBM X.K "list" rPopAt to (tCons te tNil)) (dPopI da de) :=
  ⟨walk ho.1 ha.1, fun I M H σ env G Q Qd k q => ho.2 I M H σ env G _ _ (fun x M1 I1 H1 v x1 G1 r1 q1 => by
    obtain ⟨p, xs0, e1, m1, q1⟩ := q1
    subst e1
    rw [r1.ref_inv]
    obtain ⟨_, vs0, h0, _⟩ := G1.at_.mem _ _ m1
    refine ⟨.inl ⟨rfl, vs0, .inl (.inl h0)⟩, ha.2 I1 M1 H1 σ env G1 _ _ (fun d M2 I2 H2 u x2 G2 r2 q2 => ?_) q1⟩
    obtain ⟨xs, j, y, e2, hj, m2, hy, q2⟩ := q2
    subst e2
    rw [r2.int_inv]
    obtain ⟨_, vs, h2, rs⟩ := G2.at_.mem _ _ m2
    obtain ⟨w, hw, rw'⟩ := rs.get hy
    have hlt : j < vs.length := (List.getElem?_eq_some_iff.mp hw).1
    refine ⟨p, vs, (j : Int), j, w, rfl, rfl, h2, by omega, by omega, ?_, hw, ?_⟩
    · have := PySem.seqIndex_of (k := (j : Int)) (n := vs.length) (by omega) (by omega)
      rw [this]; simp
    · exact k _ _ _ _ _ (x1.trans x2) (G2.go (Ext.refl I2) (G2.at_.write (m' := .lst (xs.eraseIdx j)) m2 (fun _ z => by cases z) ⟨_, upd_same, Rps.eraseIdx j rs⟩)) rw' q2) q⟩
theorem i_popI {env : Env} {M : Mem} {Q : DKt} (q : da env M fun x M1 => ∃ q xs0, x = .ref q ∧ M1 q = some (.lst xs0) ∧ de env M1 fun i M2 => ∃ (xs : List D) (j : Nat) (d : D), i = .int (j : Nat) ∧ j < 2 ^ 62 ∧ M2 q = some (.lst xs) ∧ xs[j]? = some d ∧ Q d (mset M2 q (.lst (xs.eraseIdx j)))) : dPopI da de env M Q := q
theorem i_lcM {di : DI} {dg : DG} {dt : DT} {de : DE} {vs : List Nat} {env : Env} {M : Mem} {Q : DKt} (q : di env M fun xs keep M1 => xs.length ≤ sizeLine ∧ ∃ P : Nat → List D → Mem → Prop, P 0 [] M1 ∧ (∀ i acc M, P i acc M → keep M) ∧
  (∀ i d acc M, xs[i]? = some d → P i acc M → dg d (wipeD env vs) M fun env2 M2 => dt env2 M2 fun b M3 => if b = true then de env2 M3 fun y M4 => P (i + 1) (acc ++ [y]) M4 else P (i + 1) acc M3) ∧ ∀ acc M, P xs.length acc M → ∀ p, M p = none → Q (.ref p) (mset M p (.lst acc))) : dLcM di dg dt de vs env M Q := q
end
end BB

set_option maxHeartbeats 4000000
namespace BB
open L2 PySem PySem.Spec PyProof.Rows
/-! ### d != {}, dict(d), d.update(e): keys that are tuples -/
section
variable {X : Cx}
theorem ne_size {prog : Program} {w : World} {A : Around} {E : Value → Shared → Prop} {s : Shared} {a b : Addr} {oa ob : Obj} {es es' : Array DictEntry} {ep ep' : Nat} {Q : Value → Shared → Prop} (ha : (a == sysModules) = false) (hb : (b == sysModules) = false)
    (hoa : s.heap.get? a = some oa) (xa : oa.ExactDict) (hda : oa.data = .dict es ep) (hob : s.heap.get? b = some ob) (xb : ob.ExactDict) (hdb : ob.data = .dict es' ep') (hu : A.units < cLine) (hsz : es.size ≠ es'.size) (h : Q (.bool true) s) :
    wpAny (model prog w) A (compareOp .NotEq (.ref a) (.ref b)) Q E s := by
  have ta : s.TypeIs (.ref a) "dict" := ⟨oa, hoa, xa.1⟩
  have tb : s.TypeIs (.ref b) "dict" := ⟨ob, hob, xb.1⟩
  refine wpAny_richCompare_same_room (op := .NotEq) ta tb PySem.F.slot_dict_ne (wpAny_call_entry PySem.F.slot_dict_ne ta PySem.F.entry_dict_ne ?_ (PySem.F.args_dict_ne_2 _ _)) hu
  show wpAny _ _ (Builtin.Dict.dictSlotArgs "__ne__" ⟨[.ref a, .ref b], []⟩ >>= _) _ _ s
  refine wpAny_bind ?_
  unfold Builtin.Dict.dictSlotArgs
  refine wpAny_bind (wpAny_notOrdered_dict ta ?_)
  show wpAny _ _ (pure (Value.ref a, Value.ref b)) _ _ s
  refine wpAny_pure ?_
  refine wpAny_bind (wpAny_isInstance (T := "dict") tb PySem.F.sub_dict_dict ?_)
  simp only [Bool.not_true, Bool.false_eq_true, if_false]
  refine wpAny_bind (wpAny_pure (wpAny_bind (wpAny_pure ?_)))
  refine wpAny_bind ?_
  unfold Builtin.Dict.samePairs Builtin.Dict.showsAll
  rw [if_neg (show ¬ (a == sysModules) = true by rw [ha]; exact Bool.false_ne_true), if_neg (show ¬ (b == sysModules) = true by rw [hb]; exact Bool.false_ne_true)]
  refine wpAny_bind (wpAny_pure (wpAny_bind (wpAny_pure ?_)))
  refine wpAny_bind (wpAny_dictEntries hoa hda ?_)
  dsimp only
  refine wpAny_bind (wpAny_dictEntries hob hdb ?_)
  rw [if_pos (by simpa using hsz)]
  refine wpAny_bind (wpAny_rule (wpAny_pure ?_))
  exact wpAny_pure ⟨_, rfl, (fun x => nomatch x), h⟩
def rNeDT : R2 := fun x y H Q => ∃ a b kvs, x = .ref a ∧ y = .ref b ∧ Rd H a (.dT kvs) ∧ H b = some (.dT []) ∧ Q (.bl (!kvs.isEmpty)) H
theorem op_neDT (hu : X.A.units + 1 < cLine) : OpR X (compareOp .NotEq) rNeDT := by
  rintro pins s σ H x y v u Q I rx ry ⟨a, b, kvs, rfl, rfl, ha, hb, q⟩
  cases rx
  cases ry
  obtain ⟨z1, y1, xs1, r1, o1, es1, ep1, e1, c1, d1, f1, _, n1⟩ := dt_rd I.hok ha
  obtain ⟨z2, y2, xs2, r2, o2, es2, ep2, e2, c2, d2, f2, _, n2⟩ := dt_of I.hok hb
  have l1 : es1.size = kvs.length := by rw [size_of_entries f1]; exact (Paired.length r1).symm
  have l2 : es2.size = 0 := by rw [size_of_entries f2]; exact (Paired.length r2).symm
  by_cases hk : kvs = []
  · subst hk
    have g1 : es1 = #[] := Array.eq_empty_of_size_eq_zero (by rw [l1]; rfl)
    have g2 : es2 = #[] := Array.eq_empty_of_size_eq_zero l2
    subst g1 g2
    refine PySem.W.keq_ne (knd := mixKind X.prog X.w) (ka := []) (kb := []) (r := true) y1 y2 ⟨o1, #[], ep1, e1, c1, d1, (fun _ he => by simp at he), Pairs.nil, List.nodup_nil⟩ ⟨o2, #[], ep2, e2, c2, d2, (fun _ he => by simp at he), Pairs.nil, List.nodup_nil⟩ (by omega) (fun _ => .nil) ?_
    exact ⟨.bl false, H, I, rfl, q⟩
  · refine ne_size y1 y2 e1 c1 d1 e2 c2 d2 (by omega) (by have := List.length_pos_iff.mpr hk; omega) ?_
    have e : kvs.isEmpty = false := by cases kvs with | nil => exact absurd rfl hk | cons _ _ => rfl
    rw [e] at q
    exact ⟨.bl true, H, I, rfl, q⟩
abbrev tKind (X : Cx) := tupleKind (mixKind X.prog X.w)
def rDictT (X : Cx) : List V → Hp → VK → Prop := fun vs H Q => ∃ a kvs, vs = [.ref a] ∧ Rd H a (.dT kvs) ∧ (kvs.map fun kv => (tKind X).hash kv.1).Nodup ∧ ∀ p, H p = none → Q (.ref p) (upd H p (.dT kvs))
theorem kt_hash {H : Hp} {knd : HeapKind P w (List Key)} : ∀ {kvs : List (List Key × V)} {xs : List (List Key × Addr × Value)}, KT H kvs xs → (xs.map fun x => knd.hash x.1) = kvs.map fun kv => knd.hash kv.1
  | _, _, .nil => rfl
  | _, _, .cons h t => by rw [List.map_cons, List.map_cons, kt_hash t, h.1]
theorem cr_dictT (hu : X.A.units + 64 < cLine) : CallR X (.type "dict") (rDictT X) := by
  intro pins s σ H xs us Q I r h
  obtain ⟨a, kvs, rfl, ha, hn, q⟩ := h
  obtain ⟨u, rfl, rx⟩ := r.one
  cases rx
  have hf : H s.heap.objs.size = none := I.hok.fresh (Nat.le_refl _)
  have haz : a ≠ s.heap.objs.size := by
    rintro rfl
    rcases ha with ha | ⟨_, ha⟩ <;> (rw [hf] at ha; cases ha)
  refine PySem.callType_codes (Q₁ := fun obj s₁ => obj = .ref s.heap.objs.size ∧ s₁ = { s with heap := s.heap.push { cls := .type "dict", data := .dict #[] } }) PySem.F.kt_called_dict (PySem.F.kt_typeCall_dict_1 _) PySem.F.entry_dict_init (PySem.kt_code_dict_new _ ⟨rfl, rfl⟩) ?_
  rintro obj s₁ ⟨rfl, rfl⟩
  have I1 := I.laid (a := s.heap.objs.size) (o := .dT []) (h' := s.heap.push { cls := .type "dict", data := .dict #[] }) (t' := s.toks) (fun _ _ q => Heap.get?_push_of_some _ q) (Nat.le_refl _) (dt_empty s.heap I.big)
  have ha1 : Rd (upd H s.heap.objs.size (.dT [])) a (.dT kvs) := by
    rcases ha with ha | ⟨ob, ha⟩
    · exact .inl (by rw [upd_ne haz]; exact ha)
    · exact .inr ⟨ob, by rw [upd_ne haz]; exact ha⟩
  obtain ⟨z, hoS, ks, rel, dd⟩ := dt_rd I1.hok ha1
  have hnew : (s.heap.push { cls := .type "dict", data := .dict #[] }).DictOfH (tKind X) s.heap.objs.size [] := Heap.DictOfH.new s.heap
  have typ : ∀ x ∈ ks, ({ s with heap := s.heap.push { cls := .type "dict", data := .dict #[] } } : Shared).TypeIs (.ref x.2.1) "tuple" := fun x hx => by
    obtain ⟨o, es, ep, _, _, _, _, his, _⟩ := dd
    exact IsTupleKey.typeIs (his x hx)
  refine ⟨hnew.typeIs, PySem.F.args_dict_init_2 _ _, ?_⟩
  unfold Builtin.«dict.__init__»
  refine wpAny_bind ?_
  unfold Builtin.Dict.selfAndRest
  refine wpAny_bind (wpAny_notOrdered_dict hnew.typeIs ?_)
  show wpAny _ _ (pure (s.heap.objs.size, [Value.ref a])) _ _ _
  refine wpAny_pure ?_
  show wpAny _ _ (Builtin.Dict.updateFrom "dict.__init__" s.heap.objs.size (.ref a) [] .none) _ _ _
  unfold Builtin.Dict.updateFrom
  refine wpAny_bind (wpAny_typeOf dd.typeIs ?_)
  rw [if_neg (by decide)]
  refine wpAny_bind ?_
  unfold Builtin.Dict.merge
  refine wpAny_bind ?_
  unfold Builtin.Dict.readDirectly
  refine wpAny_bind (wpAny_isInstance dd.typeIs isSubtype_dict_dict ?_)
  simp only [Bool.not_true, Bool.false_eq_true, if_false]
  refine wpAny_bind (wpAny_specialOf dd.typeIs PySem.F.slot_dict_iter.lookup (wpAny_pure ?_))
  simp only [beq_self_eq_true, if_true]
  refine wpAny_bind (wpAny_pure ?_)
  refine wpAny_mergeDict_heap (hsz := by rw [← Paired.length rel]; simpa using z) (show X.A.units + 1 + 1 < cLine by omega) haz.symm hoS hnew dd (.inr ⟨typ, by rw [kt_hash rel]; exact hn⟩) fun h' hd' _ hs' => ?_
  show wpAny _ _ (Builtin.Dict.addKeywords s.heap.objs.size [] >>= _) _ _ _
  rw [storedAllH_nil_of_nodup ks dd.nodup] at hd'
  refine wpAny_bind (wpAny_pure (wpAny_pure ⟨rfl, ?_⟩))
  obtain ⟨oo, es, ep, hq, h2, h3, h4, _, h5⟩ := hd'
  have I2 := d_write (h' := h') (t' := s.toks) (ob := .dT kvs) I1 (by rw [upd_same]; exact True.intro) hs' ⟨oo, hq⟩ ⟨z, beq_eq_false_iff_ne.mpr (Nat.ne_of_gt I.big), ks, ?_, oo, es, ep, hq, h2, h3, h4, h5⟩
  · rw [upd_upd] at I2
    exact ⟨.ref s.heap.objs.size, _, I2, rfl, q _ hf⟩
  · exact rel.keeps fun c ys ec => by
      have hc : c ≠ s.heap.objs.size := fun e => by rw [e, upd_same] at ec; cases ec
      rw [upd_upd, upd_ne hc]; rw [upd_ne hc] at ec; exact ec
def putAllK (kvs more : List (List Key × V)) : List (List Key × V) := more.foldl (fun acc p => putK acc p.1 p.2) kvs
theorem KT.putAll {H : Hp} : ∀ {more : List (List Key × V)} {ps : List (List Key × Addr × Value)} {kvs : List (List Key × V)} {xs : List (List Key × Addr × Value)}, KT H more ps → KT H kvs xs → KT H (putAllK kvs more) (storedAllH xs ps)
  | _, _, _, _, .nil, r => r
  | (k, v) :: more, (k', c, u) :: ps, kvs, xs, .cons h t, r => by
    obtain ⟨e1, e2, e3⟩ := h
    have e1 : k = k' := e1
    subst e1
    have ih := KT.putAll t (r.put k e2 e3)
    exact ih
def rUpdT : V → List V → Hp → VK → Prop := fun x vs H Q => ∃ a b kvs more, x = .ref a ∧ vs = [.ref b] ∧ a ≠ b ∧ H a = some (.dT kvs) ∧ Rd H b (.dT more) ∧ kvs ≠ [] ∧ kvs.length + more.length ≤ sizeLine ∧ Q .non (upd H a (.dT (putAllK kvs more)))
theorem mt_updT (hu : X.A.units + 1 < cLine) : MtM X "dict.update" rUpdT := by
  intro pins s σ H x vs v us Q I rx rv h
  obtain ⟨a, b, kvs, more, rfl, rfl, hab, ha, hb, hne, hz, q⟩ := h
  cases rx
  obtain ⟨u, rfl, ru⟩ := rv.one
  cases ru
  obtain ⟨z1, y1, xs1, r1, d1⟩ := dt_of I.hok ha
  obtain ⟨z2, y2, xs2, r2, d2⟩ := dt_rd I.hok hb
  refine PySem.call_update_dictH (tupleKind_room_in1 hu) hab y2 d1 d2 (.inl fun e => hne (by subst e; cases r1; rfl)) (by rw [← Paired.length r1, ← Paired.length r2]; exact hz) fun h' hd' _ hs => ?_
  have hl := storedAllH_length xs2 xs1
  obtain ⟨oo, es, ep, hq, h2, h3, h4, _, h5⟩ := hd'
  have rel := KT.putAll r2 r1
  refine ⟨.non, _, d_write (h' := h') (t' := s.toks) (ob := .dT (putAllK kvs more)) I (by rw [ha]; exact True.intro) hs ⟨oo, hq⟩ ⟨by rw [Paired.length rel]; have := Paired.length r1; have := Paired.length r2; omega, y1, _, ?_, oo, es, ep, hq, h2, h3, h4, h5⟩, rfl, q⟩
  exact rel.keeps fun c ys ec => by
    have hc : c ≠ a := fun e => by rw [e, ha] at ec; cases ec
    rw [upd_ne hc]; exact ec
end
end BB

set_option maxHeartbeats 4000000
namespace BB
open L2 PySem PySem.Spec PyProof.Rows
/-! ### over data: d != {}, dict(d), d.update(e), for k in d (keys are tuples) -/
section
variable {X : Cx} {Δ : DC} {K : PySem.W.Frag} {F I J H : Hp} {M : Mem}
/-- the right side is a {} just made; it is forgotten -/
def rdNeDT : RD2 := fun x y M Q => ∃ kvs p, dctT M x = some kvs ∧ y = .ref p ∧ M p = some (.dT []) ∧ Q (.bl (!kvs.isEmpty)) (mdel M p)
theorem RpT.isEmpty {kv : List (List Key × V)} {kd : List (List Key × D)} (r : RpT K I kv kd) : kv.isEmpty = kd.isEmpty := by cases r <;> rfl
theorem snd_neDT : SndR X rNeDT rdNeDT := by
  intro Δ I M H σ env G x y dx dy rx ry Q Qd k ⟨kvs, p, h1, h2, h3, q⟩
  subst h2
  rw [ry.ref_inv]
  obtain ⟨a, kv, rfl, rd, rt⟩ := dctT_of G.at_ rx h1
  obtain ⟨_, kv2, e2, r2⟩ := G.at_.mem _ _ h3
  cases r2
  refine ⟨a, p, kv, rfl, rfl, rd, e2, ?_⟩
  rw [rt.isEmpty]
  exact k _ _ _ _ _ (Ext.refl I) (G.go (Ext.refl I) (G.at_.drop h3 rfl)) (.bl _) q
/-! pairs of numbers below 36 -/
def pk (p : Nat × Nat) : List Key := [Sum.inl (p.1 : Int), Sum.inl (p.2 : Int)]
theorem pk_inj {p q : Nat × Nat} (h : pk p = pk q) : p = q := by
  obtain ⟨a, b⟩ := p
  obtain ⟨c, d⟩ := q
  simp only [pk, List.cons.injEq, Sum.inl.injEq, and_true] at h
  obtain ⟨h1, h2⟩ := h
  have h1 : a = c := by omega
  have h2 : b = d := by omega
  rw [h1, h2]
def pairH (p : Nat × Nat) : Int := reduceHash (Builtin.Tuple.tupleHashOf [hashInt (p.1 : Int), hashInt (p.2 : Int)])
theorem hash_pk (p : Nat × Nat) : (tKind X).hash (pk p) = pairH p := rfl
/-- strictly rising -/
def risingI : List Int → Bool
  | a :: b :: r => decide (a < b) && risingI (b :: r)
  | _ => true
def codeH (c : Nat) : Int := pairH (c / 36, c % 36)
/-- all pairs, as their hashes rise -/
def ordL : List (List Nat) := [
  [978, 814, 957, 1171, 611, 709, 146, 339, 1000, 235, 437, 1279, 514, 728, 168, 64, 623, 459, 557, 700, 902, 798, 836, 431, 1193, 645, 529, 743, 924, 820, 1022, 257, 1236, 471, 1099, 548],
  [86, 300, 443, 279, 1258, 493, 1285, 377, 31, 656, 486, 322, 1227, 563, 765, 601, 0, 842, 77, 1056, 291, 1133, 787, 22, 120, 1242, 1078, 962, 1105, 197, 1176, 399, 613, 756, 306, 142],
  [344, 1148, 383, 585, 421, 662, 876, 212, 974, 953, 1167, 607, 705, 1062, 898, 996, 231, 433, 1275, 126, 164, 968, 60, 1182, 405, 1220, 619, 696, 794, 350, 246, 448, 284, 427, 1189, 641],
  [525, 739, 179, 920, 980, 816, 1018, 253, 1232, 1095, 1002, 82, 1204, 296, 1040, 439, 1281, 935, 27, 170, 66, 268, 104, 482, 1110, 559, 761, 800, 838, 1052, 745, 783, 18, 1024, 116, 860],
  [1238, 1122, 958, 88, 302, 186, 1144, 379, 581, 33, 658, 872, 208, 565, 603, 701, 844, 1058, 942, 1156, 646, 789, 887, 122, 925, 324, 220, 964, 1178, 401, 615, 692, 346, 242, 444, 637],
  [521, 735, 175, 976, 1014, 466, 707, 909, 144, 40, 998, 78, 1200, 435, 536, 1277, 931, 166, 827, 62, 1184, 264, 478, 1222, 1106, 555, 757, 796, 248, 834, 286, 500, 1292, 384, 527, 741],
  [663, 1020, 1234, 1118, 570, 7, 849, 84, 1063, 1206, 298, 1042, 182, 1256, 1140, 375, 577, 29, 654, 106, 1249, 484, 320, 1112, 204, 763, 697, 1054, 938, 390, 1152, 592, 428, 785, 669, 883],
  [118, 216, 960, 1174, 397, 1069, 304, 342, 1146, 238, 440, 583, 517, 133, 171, 210, 972, 412, 626, 703, 905, 801, 357, 36, 1158, 994, 1196, 532, 889, 927, 326, 823, 222, 58, 1180, 260],
  [474, 1266, 1102, 792, 244, 1211, 446, 1288, 380, 523, 737, 177, 1016, 566, 3, 42, 845, 80, 1059, 1202, 294, 1086, 752, 790, 933, 25, 1031, 123, 266, 1245, 480, 364, 1108, 200, 759, 95],
  [309, 502, 1151, 386, 588, 781, 665, 879, 114, 1120, 572, 610, 9, 851, 1065, 949, 184, 1142, 579, 129, 331, 167, 971, 206, 1185, 408, 622, 699, 901, 797, 940, 353, 249, 392, 1154, 430],
  [644, 528, 671, 885, 923, 983, 218, 1262, 714, 151, 47, 1005, 240, 1207, 442, 540, 1284, 519, 173, 69, 271, 628, 464, 726, 562, 907, 803, 359, 38, 841, 1198, 1082, 534, 748, 929, 825],
  [1027, 262, 1241, 476, 360, 1104, 91, 305, 1147, 546, 1290, 382, 584, 661, 491, 211, 1116, 568, 770, 5, 847, 1061, 945, 180, 1138, 676, 890, 125, 1247, 327, 967, 366, 202, 1181, 404, 618],
  [311, 936, 349, 245, 388, 590, 688, 524, 667, 881, 979, 419, 710, 1067, 147, 43, 1165, 1001, 1203, 438, 1280, 131, 934, 333, 169, 229, 65, 1187, 267, 410, 624, 508, 722, 903, 799, 355],
  [251, 453, 1194, 1295, 530, 744, 985, 821, 1023, 258, 1237, 1264, 1100, 10, 153, 49, 1007, 87, 1209, 301, 1093, 1143, 542, 1286, 32, 71, 1038, 273, 487, 1115, 207, 564, 766, 1, 805, 843],
  [1057, 941, 1084, 393, 1155, 750, 788, 672, 886, 1029, 121, 1243, 1127, 963, 362, 16, 858, 93, 1072, 307, 191, 1149, 586, 684, 136, 877, 213, 975, 415, 772, 608, 870, 706, 947, 39, 1161],
  [678, 892, 127, 930, 329, 826, 225, 969, 1183, 406, 620, 504, 158, 795, 351, 247, 449, 1291, 690, 526, 740, 981, 635, 1260, 712, 914, 6, 149, 810, 45, 1003, 1205, 1089, 1282, 755, 67],
  [1034, 269, 483, 1111, 510, 724, 560, 762, 98, 455, 1080, 553, 389, 746, 832, 668, 1025, 498, 1239, 1123, 575, 777, 12, 854, 89, 1068, 303, 187, 1145, 544, 582, 34, 132, 275, 1254, 489],
  [373, 209, 411, 625, 768, 652, 866, 318, 943, 356, 395, 1157, 597, 674, 888, 325, 1129, 221, 965, 402, 1074, 154, 193, 347, 1172, 243, 445, 1287, 686, 138, 340, 176, 236, 215, 977, 417],
  [631, 708, 910, 145, 806, 41, 1163, 1201, 1085, 537, 751, 894, 932, 992, 227, 63, 1030, 265, 1271, 363, 1107, 506, 720, 160, 56, 94, 1216, 451, 549, 1293, 742, 828, 280, 1021, 494, 1119],
  [571, 773, 916, 8, 812, 850, 85, 1228, 1064, 1091, 183, 30, 292, 1036, 128, 1250, 485, 970, 369, 1113, 407, 23, 764, 648, 100, 314, 939, 391, 593, 670, 1048, 884, 1125, 779, 14, 713],
  [112, 856, 1070, 150, 954, 189, 1168, 899, 134, 336, 232, 413, 627, 511, 868, 704, 906, 802, 358, 1159, 599, 1081, 533, 747, 988, 223, 1190, 642, 1267, 719, 921, 156, 52, 1212, 447, 545],
  [1289, 178, 276, 490, 633, 731, 567, 769, 912, 4, 808, 1010, 462, 1224, 1087, 539, 753, 74, 288, 1032, 1246, 481, 1273, 365, 1109, 19, 861, 96, 1218, 310, 551, 387, 589, 830, 282, 1044],
  [496, 1121, 573, 775, 659, 108, 852, 1230, 1066, 950, 185, 1164, 681, 895, 130, 1252, 332, 1136, 228, 371, 1186, 409, 507, 650, 102, 864, 316, 354, 250, 595, 693, 1050, 984, 219, 424, 638],
  [1263, 715, 917, 152, 956, 48, 1170, 1006, 1208, 541, 338, 174, 999, 234, 70, 436, 272, 629, 1278, 1114, 513, 727, 908, 804, 458, 1083, 535, 749, 990, 1192, 1028, 1126, 1269, 361, 15, 819],
  [54, 857, 256, 92, 470, 1214, 1098, 547, 1043, 278, 1257, 492, 376, 1117, 733, 569, 771, 655, 107, 1012, 848, 321, 1226, 946, 181, 1160, 600, 677, 76, 1055, 891, 290, 1248, 328, 1132, 224],
  [367, 786, 21, 119, 863, 1077, 312, 196, 398, 591, 689, 141, 1046, 420, 634, 875, 711, 110, 913, 148, 952, 44, 1166, 606, 683, 897, 334, 995, 230, 432, 1274, 509, 723, 163, 904, 59],
  [454, 695, 531, 793, 986, 426, 1188, 640, 1265, 738, 574, 717, 919, 11, 815, 50, 853, 252, 1210, 1094, 543, 1039, 274, 1253, 488, 372, 515, 729, 767, 651, 103, 865, 1008, 317, 460, 558],
  [394, 596, 837, 673, 72, 1051, 503, 1244, 1128, 782, 17, 115, 859, 1073, 472, 308, 192, 1150, 587, 685, 137, 1259, 378, 214, 580, 416, 630, 657, 871, 323, 948, 1162, 602, 679, 893, 330],
  [991, 1134, 226, 1270, 505, 1079, 159, 55, 198, 1177, 400, 1215, 614, 450, 691, 143, 345, 241, 982, 422, 636, 520, 1261, 734, 915, 811, 46, 1013, 465, 1090, 997, 1199, 1035, 434, 270, 1276],
  [368, 725, 165, 61, 263, 99, 477, 1221, 313, 456, 554, 833, 285, 1047, 499, 1124, 778, 13, 817, 1019, 111, 855, 254, 1233, 468, 1096, 188, 83, 297, 1041, 1255, 335, 1139, 374, 576, 28],
  [653, 105, 867, 319, 203, 944, 598, 839, 675, 1053, 937, 987, 1130, 784, 882, 718, 117, 1075, 155, 959, 51, 194, 1173, 396, 687, 139, 341, 237, 418, 632, 516, 730, 873, 911, 807, 1009],
  [461, 604, 702, 538, 993, 73, 1195, 647, 1272, 721, 926, 161, 822, 57, 1179, 259, 473, 1217, 616, 452, 1101, 550, 1294, 829, 281, 495, 522, 736, 774, 813, 1015, 467, 1229, 1092, 2, 680],
  [79, 293, 1037, 1251, 1135, 370, 24, 649, 101, 479, 1223, 315, 199, 556, 758, 594, 835, 287, 1049, 501, 385, 423, 780, 664, 878, 113, 1235, 1071, 955, 190, 1169, 609, 299, 135, 337, 1141],
  [233, 578, 414, 512, 869, 205, 621, 457, 698, 900, 352, 1153, 989, 429, 1191, 643, 1268, 922, 157, 818, 217, 961, 53, 1175, 255, 469, 1213, 612, 1097, 343, 1004, 239, 441, 277, 1283, 518],
  [732, 172, 68, 973, 809, 1011, 463, 1225, 1088, 561, 754, 37, 840, 75, 1197, 289, 1033, 1131, 928, 20, 824, 1026, 862, 261, 97, 1240, 1076, 475, 1219, 1103, 195, 552, 90, 831, 140, 283],
  [1045, 497, 381, 35, 776, 660, 874, 1017, 109, 1231, 951, 605, 846, 682, 81, 1060, 896, 295, 1137, 791, 26, 124, 162, 966, 201, 403, 617, 760, 694, 348, 425, 639, 666, 880, 716, 918]]
def ordT : List Nat := ordL.flatten
theorem ordT_rise : risingI (ordT.map codeH) = true := by decide +kernel
def bits : List Nat → Nat
  | [] => 0
  | c :: r => bits r ||| (1 <<< c)
theorem ordT_all : bits ordT = 2 ^ 1296 - 1 := by decide +kernel
/-! the rest -/
theorem risingI_pw : ∀ {l : List Int}, risingI l = true → l.Pairwise (· < ·)
  | [], _ => .nil
  | [a], _ => List.pairwise_singleton _ _
  | a :: b :: r, h => by
    have h : (decide (a < b) && risingI (b :: r)) = true := h
    rw [Bool.and_eq_true] at h
    have ih := risingI_pw h.2
    have hab := of_decide_eq_true h.1
    refine List.pairwise_cons.mpr ⟨fun y hy => ?_, ih⟩
    rcases List.mem_cons.mp hy with rfl | hy
    · exact hab
    · exact Int.lt_trans hab ((List.pairwise_cons.mp ih).1 y hy)
theorem mem_bits : ∀ {l : List Nat} {c : Nat}, (bits l).testBit c = true → c ∈ l
  | [], c, h => by simp [bits] at h
  | a :: r, c, h => by
    rw [bits, Nat.testBit_or, Bool.or_eq_true] at h
    rcases h with h | h
    · exact List.mem_cons_of_mem _ (mem_bits h)
    · rw [Nat.testBit_shiftLeft] at h
      by_cases e : c = a
      · rw [e]; exact List.mem_cons_self
      · exfalso
        rw [Bool.and_eq_true] at h
        have h1 : c ≥ a := by simpa using h.1
        have h2 := h.2
        rw [Nat.testBit_eq_decide_div_mod_eq, Nat.div_eq_of_lt (Nat.one_lt_two_pow (by omega))] at h2
        exact absurd (of_decide_eq_true h2) (by omega)
theorem code_mem {p : Nat × Nat} (h : p.1 < 36 ∧ p.2 < 36) : 36 * p.1 + p.2 ∈ ordT := by
  refine mem_bits ?_
  rw [ordT_all, Nat.testBit_two_pow_sub_one]
  exact decide_eq_true (by omega)
theorem code_H (p : Nat × Nat) (h : p.2 < 36) : codeH (36 * p.1 + p.2) = pairH p := by
  unfold codeH
  rw [show (36 * p.1 + p.2) / 36 = p.1 by omega, show (36 * p.1 + p.2) % 36 = p.2 by omega]
theorem inj_of_rise {α : Type} {f : α → Int} : ∀ {l : List α}, (l.map f).Pairwise (· < ·) → ∀ x ∈ l, ∀ y ∈ l, f x = f y → x = y
  | [], _, x, hx, _, _, _ => by cases hx
  | a :: r, h, x, hx, y, hy, e => by
    have h := List.pairwise_cons.mp h
    rcases List.mem_cons.mp hx with e1 | hx1
    · rcases List.mem_cons.mp hy with e2 | hy1
      · rw [e1, e2]
      · have := h.1 _ (List.mem_map_of_mem hy1); rw [← e1] at this; omega
    · rcases List.mem_cons.mp hy with e2 | hy1
      · have := h.1 _ (List.mem_map_of_mem hx1); rw [← e2] at this; omega
      · exact inj_of_rise h.2 x hx1 y hy1 e
theorem pairH_inj {p q : Nat × Nat} (hp : p.1 < 36 ∧ p.2 < 36) (hq : q.1 < 36 ∧ q.2 < 36) (e : pairH p = pairH q) : p = q := by
  have := inj_of_rise (risingI_pw ordT_rise) _ (code_mem hp) _ (code_mem hq) (by rw [code_H p hp.2, code_H q hq.2]; exact e)
  obtain ⟨a, b⟩ := p
  obtain ⟨c, d⟩ := q
  have this : 36 * a + b = 36 * c + d := this
  have h1 : b < 36 := hp.2
  have h2 : d < 36 := hq.2
  have h3 : a = c := by omega
  have h4 : b = d := by omega
  rw [h3, h4]
theorem pairH_nd : ∀ {ps : List (Nat × Nat)}, ps.Nodup → (∀ p ∈ ps, p.1 < 36 ∧ p.2 < 36) → (ps.map pairH).Nodup
  | [], _, _ => List.nodup_nil
  | p :: r, h, hb => by
    have h := List.nodup_cons.mp h
    rw [List.map_cons]
    refine List.nodup_cons.mpr ⟨fun hm => ?_, pairH_nd h.2 fun q hq => hb q (List.mem_cons_of_mem _ hq)⟩
    obtain ⟨q, hq, e⟩ := List.mem_map.mp hm
    have := pairH_inj (hb q (List.mem_cons_of_mem _ hq)) (hb p List.mem_cons_self) e
    exact h.1 (this ▸ hq)
/-- keys: pairs of numbers below 36, each once -/
def Small {α : Type} (kvs : List (List Key × α)) : Prop := ∃ ps : List (Nat × Nat), kvs.map (·.1) = ps.map pk ∧ ps.Nodup ∧ ∀ p ∈ ps, p.1 < 36 ∧ p.2 < 36
theorem RpT.keys : ∀ {kv : List (List Key × V)} {kd : List (List Key × D)}, RpT K I kv kd → kv.map (·.1) = kd.map (·.1)
  | _, _, .nil => rfl
  | _, _, .cons _ r => congrArg (_ :: ·) (RpT.keys r)
theorem small_hash {kv : List (List Key × V)} {kd : List (List Key × D)} (r : RpT K I kv kd) (h : Small kd) : (kv.map fun e => (tKind X).hash e.1).Nodup := by
  obtain ⟨ps, e, nd, hb⟩ := h
  have e1 : (kv.map fun e => (tKind X).hash e.1) = (kv.map (·.1)).map (tKind X).hash := by rw [List.map_map]; rfl
  rw [e1, r.keys, e, List.map_map]
  exact pairH_nd nd hb
def rdDictT : RDC := fun ds M Q => ∃ x kvs, ds = [x] ∧ dctT M x = some kvs ∧ Small kvs ∧ ∀ p, M p = none → Q (.ref p) (mset M p (.dT kvs))
theorem snd_dictT : SndC X (rDictT X) rdDictT := by
  intro Δ I M H σ env G vs ds r Q Qd k ⟨x, kvs, e, h1, h2, q⟩
  subst e
  obtain ⟨v, rfl, rv⟩ := r.one_inv
  obtain ⟨a, kv, rfl, rd, rt⟩ := dctT_of G.at_ rv h1
  exact ⟨a, kv, rfl, rd, small_hash rt h2, fun p hp => k _ _ _ _ _ (Ext.refl I) (G.newM hp _ (.dT kvs) ⟨kv, upd_same, rt⟩) (.ref p) (q p (G.at_.freeM hp))⟩
def putAllD (kvs more : List (List Key × D)) : List (List Key × D) := more.foldl (fun acc p => putKD acc p.1 p.2) kvs
theorem RpT.putAll : ∀ {mv : List (List Key × V)} {md : List (List Key × D)} {kv : List (List Key × V)} {kd : List (List Key × D)}, RpT K I mv md → RpT K I kv kd → RpT K I (putAllK kv mv) (putAllD kd md)
  | _, _, _, _, .nil, r => r
  | (k, v) :: mv, (_, d) :: md, kv, kd, .cons a t, r => by
    have ih := RpT.putAll t (r.put (k := k) a)
    exact ih
variable {e o : Expr} {de da : DE} {apos cpos : Pos} {te to : TE}
def dUpdT (da de : DE) : DE := fun env M Q => da env M fun x M1 => ∃ p kvs0, x = .ref p ∧ M1 p = some (.dT kvs0) ∧ de env M1 fun y M2 => ∃ kvs more, M2 p = some (.dT kvs) ∧ dctT M2 y = some more ∧ y ≠ .ref p ∧ kvs ≠ [] ∧ kvs.length + more.length ≤ sizeLine ∧ Q .non (mset M2 p (.dT (putAllD kvs more)))
theorem pd_updT (hu1 : X.A.units + 1 < cLine) (ho : PDe X Δ o to da) (ha : PDe X Δ e te de)
    (walk : PE X o to → PE X e te → PE X (.Call (.Attribute o "update" apos) [e] [] cpos) (tBM X.K "dict" rUpdT to (tCons te tNil)) := by exact fun a b => pe_bm PySem.F.plainAttrs_dict PySem.F.slot_dict_update PySem.F.type_dict_update (mt_updT hu1) a (pa_cons b pa_nil)) :
    PDe X Δ (.Call (.Attribute o "update" apos) [e] [] cpos) (tBM X.K "dict" rUpdT to (tCons te tNil)) (dUpdT da de) :=
  ⟨walk ho.1 ha.1, fun I M H σ env G Q Qd k q => ho.2 I M H σ env G _ _ (fun x M1 I1 H1 v x1 G1 r1 q1 => by
    obtain ⟨p, kvs0, e1, m1, q1⟩ := q1
    subst e1
    rw [r1.ref_inv]
    obtain ⟨_, kv0, h0, _⟩ := G1.at_.mem _ _ m1
    refine ⟨.inr (.inr (.inl ⟨rfl, .inr ⟨kv0, h0⟩⟩)), ha.2 I1 M1 H1 σ env G1 _ _ (fun d M2 I2 H2 u x2 G2 r2 q2 => ?_) q1⟩
    obtain ⟨kvs, more, m2, hd, hy, hne, hz, q2⟩ := q2
    obtain ⟨hIp, kv, h2, rs⟩ := G2.at_.mem _ _ m2
    obtain ⟨b, mv, rfl, rb, rt⟩ := dctT_of G2.at_ r2 hd
    refine ⟨p, b, kv, mv, rfl, rfl, ?_, h2, rb, fun z => hne (by subst z; cases rs; rfl), by rw [rs.len, rt.len]; exact hz, k _ _ _ _ _ (x1.trans x2) (G2.go (Ext.refl I2) (G2.at_.write (m' := .dT (putAllD kvs more)) m2 (fun _ z => by cases z) ⟨_, upd_same, rt.putAll rs⟩)) .non q2⟩
    rintro rfl
    cases d with
    | ref c => exact hy (by rw [show c = p from (V.ref.inj r2.ref_inv).symm])
    | dT l => cases r2 with | dT h1 _ _ => rw [hIp] at h1; cases h1
    | _ => cases hd) q⟩
end
end BB

set_option maxHeartbeats 4000000
namespace BB
open L2 PySem PySem.Spec PyProof.Rows
/-! ### for k in d: a fixed dict whose keys are tuples; it is known to the object from here on -/
def iKeysT (td : TE) : TI := fun σ H R => td σ H fun x H1 => ∃ d kvs, x = .ref d ∧ ((H1 d = some (.dT kvs) ∧ ∀ o, R (Itkt d o kvs) (upd H1 d (.frz o (.dT kvs)))) ∨ ∃ o, H1 d = some (.frz o (.dT kvs)) ∧ R (Itkt d o kvs) H1)
section
variable {X : Cx} {Δ : DC} {K : PySem.W.Frag} {F I J H : Hp} {M : Mem} {tg e : Expr} {td : TE} {de : DE}
theorem pi_keysT (he : PE X e td) : PI X tg e (iKeysT td) := by
  refine ⟨fun pins s σ H R I h => ?_⟩
  refine thn (he.run pins s σ H _ I h) fun u s1 ⟨x, H1, I1, rx, d, kvs, ex, q⟩ => ?_
  subst ex
  obtain rfl : u = Value.ref d := rx
  rcases q with ⟨hd, q⟩ | ⟨o, hd, q⟩
  · obtain ⟨od, I2⟩ := I1.lock hd True.intro
    obtain ⟨hs, hgd, hx, es, ep, hdt, hsz, ent⟩ := I2.frzT upd_same
    refine iter_keys hs hgd hx hdt (pi_one (tk := s1.toks) I2 _ (turn_keysT _ hdt) ⟨_, Heap.get?_push_size _ rfl, rfl, ?_⟩ (q od))
    rw [hsz] <;> rfl
  · obtain ⟨hs, hgd, hx, es, ep, hdt, hsz, ent⟩ := I1.frzT hd
    refine iter_keys hs hgd hx hdt (pi_one (tk := s1.toks) I1 _ (turn_keysT _ hdt) ⟨_, Heap.get?_push_size _ rfl, rfl, ?_⟩ q)
    rw [hsz] <;> rfl
theorem At.lockT (A : At K F I M H) {p : Addr} {kv : List (List Key × V)} (ob : Obj) (h : I p = some (.dT kv)) : At K F (upd I p (.frz ob (.dT kv))) M (upd H p (.frz ob (.dT kv))) where
  nt := A.nt
  ex := fun b u e => by
    by_cases hb : b = p
    · subst hb; rw [upd_same] at e ⊢; exact e
    · rw [upd_ne hb] at e ⊢; exact A.ex _ _ e
  mem := fun b u e => by
    have np : ∀ {c u}, M c = some u → c ≠ p := fun {c u} hc z => by subst z; rw [(A.mem _ _ hc).1] at h; cases h
    refine ⟨by rw [upd_ne (np e)]; exact (A.mem _ _ e).1, (A.mem _ _ e).2.mono (Ext.lock ob h) (fun c v hc hv => ?_) (fun c hc => hc)⟩
    have hcp : c ≠ p := by
      rcases hc with rfl | hc
      · exact np e
      · exact np hc
    rw [upd_ne hcp]; exact hv
  fr := fun b u e => by
    obtain ⟨h1, h2, h3⟩ := A.fr _ _ e
    have hb : b ≠ p := fun z => by subst z; rw [h2] at h; cases h
    exact ⟨by rw [upd_ne hb]; exact h1, by rw [upd_ne hb]; exact h2, h3⟩
theorem MRep.noTup {a : Addr} {m : MO} {xs : List V} (h : MRep K I M H a m) : H a ≠ some (.tup xs) := by
  intro e
  cases m with
  | lst _ => obtain ⟨_, h1, _⟩ := h; rw [h1] at e; cases e
  | dK _ => obtain ⟨_, h1, _⟩ := h; rw [h1] at e; cases e
  | dT _ => obtain ⟨_, h1, _⟩ := h; rw [h1] at e; cases e
  | ins _ _ => obtain ⟨_, _, h1, _⟩ := h; rw [h1] at e; cases e
  | own _ => obtain ⟨_, h1, h2⟩ := h; rw [h1] at e; cases e; rcases h2 with h2 | ⟨_, h2⟩ <;> cases h2
  | gen _ => obtain ⟨_, _, _, _, _, h1, _⟩ := h; rw [h1] at e; cases e
  | tab _ => obtain ⟨_, h1, _⟩ := h; rw [h1] at e; cases e
/-- a tuple that is known to stand there is fixed data -/
theorem At.takeT (A : At K F I M H) {p : Addr} {xs : List V} (h : H p = some (.tup xs)) : ∃ J, Ext I J ∧ At K F J M H ∧ J p = some (.tup xs) := by
  cases e : I p with
  | some o =>
    have := A.ex _ _ e
    rw [h] at this
    cases this
    exact ⟨I, Ext.refl I, A, e⟩
  | none =>
    have hF : ∀ {b u}, F b = some u → b ≠ p := fun {b u} hb z => by
      subst z
      have h1 := (A.fr _ _ hb).1
      rw [h] at h1
      cases h1
      obtain ⟨_, e2⟩ := A.nt _ _ hb
      cases e2
    have hM : ∀ {b u}, M b = some u → b ≠ p := fun {b u} hb z => by subst z; exact (A.mem _ _ hb).2.noTup h
    refine ⟨upd I p (.tup xs), Ext.new e, ⟨fun b u eb => ?_, fun b u eb => ?_, fun b u eb => ?_, A.nt⟩, upd_same⟩
    · by_cases hb : b = p
      · subst hb; rw [upd_same] at eb; cases eb; exact h
      · rw [upd_ne hb] at eb; exact A.ex _ _ eb
    · exact ⟨by rw [upd_ne (hM eb)]; exact (A.mem _ _ eb).1, (A.mem _ _ eb).2.mono (Ext.new e) (fun c v _ hv => hv) (fun c hc => hc)⟩
    · obtain ⟨h1, h2, h3⟩ := A.fr _ _ eb
      exact ⟨h1, by rw [upd_ne (hF eb)]; exact h2, h3⟩
theorem Rps.keys : ∀ ks : List Key, Rps K I (ks.map kV) (ks.map kD)
  | [] => .nil
  | .inl i :: r => .cons (.int i) (Rps.keys r)
  | .inr z :: r => .cons (.str z) (Rps.keys r)
def keyD (kv : List Key × D) : D := .htup (kv.1.map kD)
theorem RpT.at : ∀ {kv : List (List Key × V)} {kd : List (List Key × D)} {i : Nat} {k : List Key} {v : V} {d : D}, RpT K I kv kd → kv[i]? = some (k, v) → (kd.map keyD)[i]? = some d → d = .htup (k.map kD)
  | _, _, i, _, _, _, .nil, h, _ => by cases i <;> cases h
  | _, _, 0, _, _, _, .cons _ r, h, h2 => by cases h; cases h2; rfl
  | _, _, i + 1, _, _, _, .cons _ r, h, h2 => RpT.at (i := i) r h h2
theorem itkt_ok {a : Addr} {o : Obj} {kv : List (List Key × V)} {kd : List (List Key × D)} (hJ : I a = some (.frz o (.dT kv))) (rt : RpT K I kv kd) : ItOk K I (Itkt a o kv) (kd.map keyD) (fun _ => True) where
  go := fun F i I2 M H x A _ hi => ⟨A.ex _ _ (x.2 _ _ _ hJ), by rw [rt.len]; simpa using hi⟩
  stop := fun F I2 M H x A _ => ⟨A.ex _ _ (x.2 _ _ _ hJ), by rw [rt.len, List.length_map]; exact Nat.le_refl _⟩
  yld := fun F i d y I2 M H H' x A _ hd ⟨e, k, v, q, hkv, ey, hq⟩ => by
    subst e ey
    obtain ⟨I3, x3, A3, h3⟩ := A.takeT hq
    rw [rt.at hkv hd]
    exact ⟨I3, x3, A3, .htup h3 (Rps.keys k)⟩
def dKeys (de : DE) : DI := fun env M R => de env M fun x M1 => ∃ kvs, x = .dT kvs ∧ R (kvs.map keyD) (fun _ => True) M1
theorem pdi_keys (h : PDe X Δ e td de) : PDi X Δ tg e (iKeysT td) (dKeys de) :=
  ⟨pi_keysT h.1, fun I M H σ env G R Rd k q => h.2 I M H σ env G _ _ (fun x M1 I1 H1 v x1 G1 r1 ⟨kvs, ex, q1⟩ => by
    subst ex
    cases r1 with
    | dT h1 e1 h2 =>
      rcases strip_dT e1 with rfl | ⟨ob, rfl⟩
      · refine ⟨_, _, rfl, .inl ⟨G1.at_.ex _ _ h1, fun o => ?_⟩⟩
        have xJ := Ext.lock o h1
        exact k _ _ M1 _ _ _ (x1.trans xJ) (G1.go xJ (G1.at_.lockT o h1)) (itkt_ok upd_same (h2.ext xJ)) q1
      · exact ⟨_, _, rfl, .inr ⟨ob, G1.at_.ex _ _ h1, k _ _ M1 _ _ _ x1 G1 (itkt_ok h1 h2) q1⟩⟩) q⟩
end
end BB

set_option maxHeartbeats 4000000
namespace BB
open L2 PySem PySem.Spec PyProof.Rows
/-! ### the lesser of two things whose comparison is known on this heap -/
section
variable {prog : Program} {w : World} {A : Around} {E : Value → Shared → Prop} {R : Result → Shared → Prop} {I S : Addr} {fp wr : List Addr} {P : Nat → Value → Prop} {St : Nat → Heap → Prop}
abbrev two_ (x : Value) (c : Nat) : Obj := { cls := .type "list", dict := none, data := .seq #[x, x] c, slots := #[] }
/-- the last turn: nothing is left -/
theorem min_last (W : Walks prog w A.in1 I fp wr 2 P St) (hSw : S ∉ wr) {s : Shared} {x : Value} {c : Nat} (hst : St 2 s.heap) (hS : s.heap.get? S = some (two_ x c))
    (hR : ∀ h' tk, (∀ b o, b ∉ wr → b ≠ S → s.heap.get? b = some o → h'.get? b = some o) → R (.ok (.ret x)) { s with heap := h', toks := tk }) : codeAny (model prog w) A (.builtin "min.loop" ⟨[.ref I, .none, .ref S], []⟩) R s := by
  refine codeAny_builtin PySem.F.entry_min_loop ?_
  rw [Around.under_plainId PySem.F.plain_min_loop _]
  show wpAny _ A.in1 (seqItems? (.ref S) >>= _) _ _ s
  refine wpAny_bind (wpAny_seqItems hS rfl ?_)
  show wpAny _ A.in1 (tryCatch (pyNext (.ref I)) _ >>= _) _ _ s
  refine wpAny_bind (wpAny_tryCatch (W.done s _ _ hst fun h' tk hk => ?_))
  have hS' := hk S _ hSw hS
  show wpAny _ A.in1 (updateSeq S (fun _ => #[]) >>= _) _ _ _
  refine wpAny_bind ?_
  refine wpAny_updateSeq hS' rfl (wpAny_bind (wpAny_letGo (wpAny_pure ?_)))
  exact hR _ tk fun b o hb hbS e => (Heap.get?_update_other _ _ (Ne.symm hbS)).trans (hk b o hb e)
/-- the turn at which the second is held against the first -/
theorem min_second (W : Walks prog w A.in1 I fp wr 2 P St) (hSf : S ∉ fp) {s : Shared} {x y : Value} {c : Nat} {bt : Bool} (hP : ∀ v, P 1 v → v = y) (hst : St 1 s.heap) (hS : s.heap.get? S = some (two_ x c))
    (cmp : ∀ h' tk, (∀ b o, b ∉ wr → s.heap.get? b = some o → h'.get? b = some o) → ∀ (E : Value → Shared → Prop) (Q : Value → Shared → Prop), Q (.bool bt) { s with heap := h', toks := tk } → wpAny (model prog w) A.in1 (richCompare .Lt y x) Q E { s with heap := h', toks := tk })
    (hR : ∀ h' tk, (∀ b o, b ∉ wr → b ≠ S → s.heap.get? b = some o → h'.get? b = some o) → R (.ok (.ret (if bt then y else x))) { s with heap := h', toks := tk }) : codeAny (model prog w) A (.builtin "min.loop" ⟨[.ref I, .none, .ref S], []⟩) R s := by
  have hname : (toString "min" ++ toString ".loop" : String) = "min.loop" := by decide
  have hSw : S ∉ wr := fun h => hSf (W.sub _ h)
  refine codeAny_builtin PySem.F.entry_min_loop ?_
  rw [Around.under_plainId PySem.F.plain_min_loop _]
  show wpAny _ A.in1 (seqItems? (.ref S) >>= _) _ _ s
  refine wpAny_bind (wpAny_seqItems hS rfl ?_)
  show wpAny _ A.in1 (tryCatch (pyNext (.ref I)) _ >>= _) _ _ s
  refine wpAny_bind (wpAny_tryCatch (W.item 1 s _ _ (by decide) hst fun v h' tk hv hst' hk => ?_))
  have ev := hP v hv
  subst ev
  have hS' := hk S _ hSw hS
  show wpAny _ A.in1 (tryCatch (holding [v, v] (richCompare .Lt v x >>= _)) _ >>= _) _ _ _
  refine wpAny_bind (wpAny_tryCatch (wpAny_holding (wpAny_bind (cmp h' tk hk _ _ ?_))))
  refine wpAny_bind (wpAny_holding (wpAny_truthy_bool ?_))
  refine wpAny_bind (wpAny_letGo (wpAny_pure ?_))
  cases bt with
  | true =>
    simp only [if_true]
    refine wpAny_bind ?_
    refine wpAny_updateSeq hS' rfl (wpAny_bind (wpAny_letGo ?_))
    rw [hname]
    refine wpAny_pure ⟨plainId_quiet PySem.F.plain_min_loop _, min_last W hSw (W.frame _ _ _ hst' fun b hbf o e => ?_) (Heap.get?_update_self _ hS' rfl) fun h2 tk2 hk2 => ?_⟩
    · exact (Heap.get?_update_other _ _ (fun h : S = b => hSf (by rw [h]; exact hbf))).trans e
    · exact hR h2 tk2 fun b o hb hbS e => hk2 b o hb hbS ((Heap.get?_update_other _ _ (Ne.symm hbS)).trans (hk b o hb e))
  | false =>
    simp only [Bool.false_eq_true, if_false]
    refine wpAny_bind (wpAny_letGo ?_)
    rw [hname]
    refine wpAny_pure ⟨plainId_quiet PySem.F.plain_min_loop _, min_last W hSw hst' hS' fun h2 tk2 hk2 => ?_⟩
    exact hR h2 tk2 fun b o hb hbS e => hk2 b o hb hbS (hk b o hb e)
/-- the first turn -/
theorem min_first (W : Walks prog w A.in1 I fp wr 2 P St) (hSf : S ∉ fp) {s : Shared} {x y : Value} {c : Nat} {bt : Bool} (hP0 : ∀ v, P 0 v → v = x) (hP : ∀ v, P 1 v → v = y) (hst : St 0 s.heap)
    (hS : s.heap.get? S = some { cls := .type "list", dict := none, data := .seq #[] c, slots := #[] })
    (cmp : ∀ h' tk, (∀ b o, b ∉ wr → b ≠ S → s.heap.get? b = some o → h'.get? b = some o) → ∀ (E : Value → Shared → Prop) (Q : Value → Shared → Prop), Q (.bool bt) { s with heap := h', toks := tk } → wpAny (model prog w) A.in1 (richCompare .Lt y x) Q E { s with heap := h', toks := tk })
    (hR : ∀ h' tk, (∀ b o, b ∉ wr → b ≠ S → s.heap.get? b = some o → h'.get? b = some o) → R (.ok (.ret (if bt then y else x))) { s with heap := h', toks := tk }) : codeAny (model prog w) A (.builtin "min.loop" ⟨[.ref I, .none, .ref S], []⟩) R s := by
  have hname : (toString "min" ++ toString ".loop" : String) = "min.loop" := by decide
  have hSw : S ∉ wr := fun h => hSf (W.sub _ h)
  refine codeAny_builtin PySem.F.entry_min_loop ?_
  rw [Around.under_plainId PySem.F.plain_min_loop _]
  show wpAny _ A.in1 (seqItems? (.ref S) >>= _) _ _ s
  refine wpAny_bind (wpAny_seqItems hS rfl ?_)
  show wpAny _ A.in1 (tryCatch (pyNext (.ref I)) _ >>= _) _ _ s
  refine wpAny_bind (wpAny_tryCatch (W.item 0 s _ _ (by decide) hst fun v h' tk hv hst' hk => ?_))
  have ev := hP0 v hv
  subst ev
  have hS' := hk S _ hSw hS
  show wpAny _ A.in1 (updateSeq S (fun _ => #[v, v]) >>= _) _ _ _
  refine wpAny_bind ?_
  refine wpAny_updateSeq hS' rfl ?_
  rw [hname]
  refine wpAny_pure ⟨plainId_quiet PySem.F.plain_min_loop _, min_second (bt := bt) W hSf hP (W.frame _ _ _ hst' fun b hbf o e => ?_) (Heap.get?_update_self _ hS' rfl) (fun h2 tk2 hk2 => ?_) fun h2 tk2 hk2 => ?_⟩
  · exact (Heap.get?_update_other _ _ (fun h : S = b => hSf (by rw [h]; exact hbf))).trans e
  · exact cmp h2 tk2 fun b o hb hbS e => hk2 b o hb ((Heap.get?_update_other _ _ (Ne.symm hbS)).trans (hk b o hb e))
  · exact hR h2 tk2 fun b o hb hbS e => hk2 b o hb hbS ((Heap.get?_update_other _ _ (Ne.symm hbS)).trans (hk b o hb e))
theorem min_two {s : Shared} {a b : Value} {bt : Bool} {Q : Value → Shared → Prop} (hh : A.handled = none)
    (cmp : ∀ h' tk, (∀ c o, s.heap.get? c = some o → h'.get? c = some o) → ∀ (E : Value → Shared → Prop) (Q : Value → Shared → Prop), Q (.bool bt) { s with heap := h', toks := tk } → wpAny (model prog w) A.in1 (richCompare .Lt b a) Q E { s with heap := h', toks := tk })
    (h : ∀ h' tk, (∀ c o, s.heap.get? c = some o → h'.get? c = some o) → Q (if bt then b else a) { s with heap := h', toks := tk }) : wpAny (model prog w) A (call (.builtin "min") [a, b]) Q E s := by
  have hname : (toString "min" ++ toString ".loop" : String) = "min.loop" := by decide
  refine call_function_tree PySem.F.kind_min PySem.F.plain_min PySem.F.entry_min (PySem.F.args_min2 _ _) ?_
  show wpAny _ A.in1 (Builtin.Builtins.bindParams "min" ["key", "default"] 0 ⟨[], []⟩ >>= _) _ _ s
  refine wpAny_bind (wpAny_of_eq (show Builtin.Builtins.bindParams "min" ["key", "default"] 0 ⟨[], []⟩ = pure [none, none] from rfl) ?_)
  show wpAny _ A.in1 (newTuple [a, b] >>= _) _ _ s
  refine wpAny_bind (wpAny_newObj_type ?_)
  have hT : (s.heap.push { cls := .type "tuple", data := .seq #[a, b] }).IsTuple s.heap.objs.size #[a, b] := ⟨_, Heap.get?_push_size _ rfl, rfl, 0, rfl⟩
  refine wpAny_bind (wpAny_pyIter_tuple hT ?_)
  have hsz : (s.heap.push { cls := .type "tuple", data := .seq #[a, b] }).objs.size = s.heap.objs.size + 1 := Heap.size_push ..
  have W := Walks.tuple (prog := prog) (w := w) (A := A.in1) hh (s.heap.push { cls := .type "tuple", data := .seq #[a, b] }).objs.size s.heap.objs.size (by rw [hsz]; exact Nat.ne_of_lt (Nat.lt_succ_self _)) #[a, b]
  refine wpAny_bind (wpAny_newObj_type ?_)
  rw [hname]
  refine wpAny_pure ⟨plainId_quiet PySem.F.plain_min_loop _, ?_⟩
  have old : ∀ {c o}, s.heap.get? c = some o → c < s.heap.objs.size := fun e => Heap.lt_size e
  have hIS : ((s.heap.push { cls := .type "tuple", data := .seq #[a, b] }).push { cls := .type "tuple_iterator", data := .fields #[.ref s.heap.objs.size, .int 0 0] }).objs.size = s.heap.objs.size + 2 := by rw [Heap.size_push, hsz]
  refine min_first (x := a) (y := b) (bt := bt) W (S := ((s.heap.push { cls := .type "tuple", data := .seq #[a, b] }).push { cls := .type "tuple_iterator", data := .fields #[.ref s.heap.objs.size, .int 0 0] }).objs.size) ?_ (fun v hv => by simpa using hv.symm) (fun v hv => by simpa using hv.symm) ?_ (Heap.get?_push_size _ rfl) (fun h' tk hk => ?_) fun h' tk hk => ?_
  · rw [hIS, hsz]
    intro hm
    rcases List.mem_cons.mp hm with e | hm
    · have e : s.heap.objs.size + 2 = s.heap.objs.size + 1 := e
      omega
    · have e : s.heap.objs.size + 2 = s.heap.objs.size := List.mem_singleton.mp hm
      omega
  · exact ⟨⟨_, Heap.get?_push_of_some _ (Heap.get?_push_size _ rfl), rfl, rfl⟩, (hT.push _).push _⟩
  · exact cmp h' tk fun c o e => hk c o (fun hm => Nat.lt_irrefl _ (Nat.lt_of_succ_lt (by have := old e; rw [List.mem_singleton.mp hm, hsz] at this; exact this))) (fun z => Nat.lt_irrefl _ (Nat.lt_of_succ_lt (Nat.lt_of_succ_lt (by have := old e; rw [z, hIS] at this; exact this)))) (Heap.get?_push_of_some _ (Heap.get?_push_of_some _ (Heap.get?_push_of_some _ e)))
  · exact h h' tk fun c o e => hk c o (fun hm => Nat.lt_irrefl _ (Nat.lt_of_succ_lt (by have := old e; rw [List.mem_singleton.mp hm, hsz] at this; exact this))) (fun z => Nat.lt_irrefl _ (Nat.lt_of_succ_lt (Nat.lt_of_succ_lt (by have := old e; rw [z, hIS] at this; exact this)))) (Heap.get?_push_of_some _ (Heap.get?_push_of_some _ (Heap.get?_push_of_some _ e)))
end
end BB

set_option maxHeartbeats 4000000
namespace BB
open L2 PySem PySem.Spec PyProof.Rows
/-! ### min of two tuples of texts -/
/-- a row of texts is less than another one -/
def ltL : List Str → List Str → Bool
  | [], ys => !ys.isEmpty
  | _ :: _, [] => false
  | x :: xs, y :: ys => if x = y then ltL xs ys else ltS x y
def ltA (xs ys : List Str) : Bool := Ob.lexAt (fun j => decide (xs.getD j "" = ys.getD j "")) (fun j => ltS (xs.getD j "") (ys.getD j "")) (decide (xs.length < ys.length)) 0 (min xs.length ys.length)
theorem lexAt_shift {e r : Nat → Bool} {z : Bool} : ∀ {k i : Nat}, Ob.lexAt e r z (i + 1) k = Ob.lexAt (fun j => e (j + 1)) (fun j => r (j + 1)) z i k
  | 0, _ => rfl
  | k + 1, i => by rw [Ob.lexAt_succ, Ob.lexAt_succ, lexAt_shift]
theorem ltA_eq : ∀ (xs ys : List Str), ltA xs ys = ltL xs ys
  | [], [] => rfl
  | [], y :: ys => by unfold ltA ltL; rw [List.length_nil, Nat.zero_min, Ob.lexAt_zero]; exact decide_eq_true (by simp)
  | x :: xs, [] => by unfold ltA ltL; rw [List.length_nil, Nat.min_zero, Ob.lexAt_zero]; exact decide_eq_false (by simp)
  | x :: xs, y :: ys => by
    have ih := ltA_eq xs ys
    unfold ltA at ih ⊢
    rw [List.length_cons, List.length_cons, Nat.succ_min_succ, Ob.lexAt_succ]
    have e1 : decide (xs.length + 1 < ys.length + 1) = decide (xs.length < ys.length) := by
      by_cases h : xs.length < ys.length
      · rw [decide_eq_true h, decide_eq_true (by omega)]
      · rw [decide_eq_false h, decide_eq_false (by omega)]
    rw [lexAt_shift, e1]
    show (if decide (x = y) = true then Ob.lexAt (fun j => decide (xs.getD j "" = ys.getD j "")) (fun j => ltS (xs.getD j "") (ys.getD j "")) (decide (xs.length < ys.length)) 0 (min xs.length ys.length) else ltS x y) = if x = y then ltL xs ys else ltS x y
    by_cases h : x = y
    · rw [if_pos h, if_pos (decide_eq_true h)]
      exact ih
    · rw [if_neg h, if_neg (by simpa using h)]
section
variable {X : Cx}
def rMinT (K : PySem.W.Frag) : List V → Hp → VK → Prop := fun vs H Q => ∃ (a b : Addr) (xs ys : List Str), vs = [.ref a, .ref b] ∧ SqT K H a (xs.map .str) ∧ SqT K H b (ys.map .str) ∧ Q (.ref (if ltL ys xs then b else a)) H
theorem strs_in {xs : List Str} {its : List Value} (r : Vals (xs.map V.str) its) (j : Nat) (h : j < its.toArray.size) : ∃ t, its.toArray[j] = .str (xs.getD j "") t := by
  have hl := r.length
  rw [List.length_map] at hl
  have hj : j < xs.length := by rw [List.size_toArray] at h; omega
  obtain ⟨u, hu, t, ru⟩ := r.get (i := j) (x := .str xs[j]) (by simp [hj])
  refine ⟨t, ?_⟩
  have h2 : its.toArray[j]? = some u := by simpa using hu
  rw [Array.getElem?_eq_getElem h] at h2
  rw [Option.some.inj h2, ru, List.getD_eq_getElem?_getD]
  simp [hj]
theorem cr_minT (hc : X.calm = true) (hu : X.A.units + 64 < cLine) : CallR X (.builtin "min") (rMinT X.K) := by
  intro pins s σ H vs us Q I r h
  obtain ⟨a, b, xs, ys, rfl, ha, hb, q⟩ := h
  obtain ⟨u, u', rfl, r1, r2⟩ := vals2 r
  cases r1
  cases r2
  obtain ⟨its, v1, p1, _⟩ := I.tuple ha
  obtain ⟨its2, v2, p2, _⟩ := I.tuple hb
  have hl1 : its.length = xs.length := by rw [← v1.length, List.length_map]
  have hl2 : its2.length = ys.length := by rw [← v2.length, List.length_map]
  refine min_two (bt := ltL ys xs) (I.ok.hd hc) (fun h' tk hk E' Q' hq => ?_) fun h' tk hk => ?_
  · have keep : ∀ {c its}, s.heap.IsTuple c its → h'.IsTuple c its := fun {c its} ⟨o, ho, e⟩ => ⟨o, hk _ _ ho, e⟩
    have R := Ob.RcOp.tuples_lt (A := X.A.in1) (s := { s with heap := h', toks := tk }) (e := fun j => decide (ys.getD j "" = xs.getD j "")) (r := fun j => ltS (ys.getD j "") (xs.getD j "")) (keep p2) (keep p1) (show X.A.units + 1 < cLine by omega) (fun j h1 h2 => by
      obtain ⟨t, et⟩ := strs_in v2 j h1
      obtain ⟨t', et'⟩ := strs_in v1 j h2
      rw [et, et']
      have z : (ys.getD j "" == xs.getD j "") = decide (ys.getD j "" = xs.getD j "") := by
        by_cases q : ys.getD j "" = xs.getD j ""
        · rw [decide_eq_true q]; exact beq_iff_eq.mpr q
        · rw [decide_eq_false q]; exact beq_eq_false_iff_ne.mpr q
      rw [← z]
      exact SeqAt.EqAt.str_str _ _ _ _) (fun j h1 h2 _ => by
      obtain ⟨t, et⟩ := strs_in v2 j h1
      obtain ⟨t', et'⟩ := strs_in v1 j h2
      rw [et, et']
      exact fun prog w E Q h => lt_str h)
    rw [List.size_toArray, List.size_toArray, hl1, hl2] at R
    have e := ltA_eq ys xs
    unfold ltA at e
    rw [e] at R
    exact R _ _ _ _ hq
  · refine ⟨.ref (if ltL ys xs then b else a), H, I.kept hk, ?_, q⟩
    cases ltL ys xs <;> rfl
def rdMinT : RDC := fun ds M Q => ∃ xs ys : List Str, ds = [.tup (xs.map .str), .tup (ys.map .str)] ∧ Q (.tup ((if ltL ys xs then ys else xs).map .str)) M
theorem snd_minT : SndC X (rMinT X.K) rdMinT := by
  intro Δ I M H σ env G vs ds r Q Qd k ⟨xs, ys, e, q⟩
  subst e
  obtain ⟨v, u, rfl, rv, ru⟩ := r.two_inv
  obtain ⟨a, us1, rfl, h1, s1⟩ := rv.tup_inv
  obtain ⟨b, us2, rfl, h2, s2⟩ := ru.tup_inv
  have e1 := s1.strs
  have e2 := s2.strs
  subst e1 e2
  refine ⟨a, b, xs, ys, rfl, G.at_.sqT h1, G.at_.sqT h2, ?_⟩
  cases h : ltL ys xs with
  | true => rw [h] at q; exact k _ _ _ _ _ (Ext.refl I) G ru q
  | false => rw [h] at q; exact k _ _ _ _ _ (Ext.refl I) G rv q
end
end BB

set_option maxHeartbeats 4000000
namespace BB
open L2 PySem PySem.Spec PyProof.Rows
/-! stepping through these readings -/
section
variable {env : Env} {M : Mem} {Q : DKt} {da de : DE} {R : List D → (Mem → Prop) → Mem → Prop}
theorem i_neDT {x : D} {kvs : List (List Key × D)} {p : Addr} (h1 : dctT M x = some kvs) (h2 : M p = some (.dT [])) (q : Q (.bl (!kvs.isEmpty)) (mdel M p)) : rdNeDT x (.ref p) M Q := ⟨kvs, p, h1, rfl, h2, q⟩
theorem i_keys (q : de env M fun x M1 => ∃ kvs, x = .dT kvs ∧ R (kvs.map keyD) (fun _ => True) M1) : dKeys de env M R := q
theorem i_updT (q : da env M fun x M1 => ∃ p kvs0, x = .ref p ∧ M1 p = some (.dT kvs0) ∧ de env M1 fun y M2 => ∃ kvs more, M2 p = some (.dT kvs) ∧ dctT M2 y = some more ∧ y ≠ .ref p ∧ kvs ≠ [] ∧ kvs.length + more.length ≤ sizeLine ∧ Q .non (mset M2 p (.dT (putAllD kvs more)))) : dUpdT da de env M Q := q
theorem i_minT {xs ys : List Str} (q : Q (.tup ((if ltL ys xs then ys else xs).map .str)) M) : rdMinT [.tup (xs.map .str), .tup (ys.map .str)] M Q := ⟨xs, ys, rfl, q⟩
theorem i_dictT {x : D} {kvs : List (List Key × D)} (h1 : dctT M x = some kvs) (h2 : Small kvs) (q : ∀ p, M p = none → Q (.ref p) (mset M p (.dT kvs))) : rdDictT [x] M Q := ⟨x, kvs, rfl, h1, h2, q⟩
theorem keyD_at {kvs : List (List Key × D)} {i : Nat} {d : D} (h : (kvs.map keyD)[i]? = some d) : ∃ k v, kvs[i]? = some (k, v) ∧ d = .htup (k.map kD) := by
  rw [List.getElem?_map] at h
  cases e : kvs[i]? with
  | none => rw [e] at h; cases h
  | some kv => rw [e] at h; obtain ⟨k, v⟩ := kv; exact ⟨k, v, rfl, (Option.some.inj h).symm⟩
theorem skeys_kD : ∀ ks : List Key, skeys (ks.map kD) = some ks
  | [] => rfl
  | .inl i :: r => by show (match some (Sum.inl i : Key), skeys (r.map kD) with | some k, some ks => some (k :: ks) | _, _ => none) = _; rw [skeys_kD r]
  | .inr z :: r => by show (match some (Sum.inr z : Key), skeys (r.map kD) with | some k, some ks => some (k :: ks) | _, _ => none) = _; rw [skeys_kD r]
theorem tkey_keyD (k : List Key) : tkey (.htup (k.map kD)) = some k := skeys_kD k
/-- what a dict holds behind an update: the later one first -/
theorem valD_putAll : ∀ (more kvs : List (List Key × D)) (k : List Key), (more.map (·.1)).Nodup → valD (putAllD kvs more) k = (valD more k).orElse fun _ => valD kvs k
  | [], kvs, k, _ => rfl
  | (a, v) :: r, kvs, k, h => by
    have h := List.nodup_cons.mp h
    have ih := valD_putAll r (putKD kvs a v) k h.2
    show valD (putAllD (putKD kvs a v) r) k = _
    rw [ih, valD_put, valD_cons]
    by_cases e : a = k
    · subst e
      have hn : valD r a = none := by
        cases hv : valD r a with
        | none => rfl
        | some x =>
          exfalso
          unfold valD at hv
          obtain ⟨p, hp, _⟩ := Option.map_eq_some_iff.mp hv
          have h1 := List.mem_of_find?_eq_some hp
          have h2 := List.find?_some hp
          exact h.1 (List.mem_map.mpr ⟨p, h1, of_decide_eq_true h2⟩)
      rw [if_pos rfl, if_pos rfl, hn]
      rfl
    · rw [if_neg (fun z => e z.symm), if_neg e]
end
end BB

set_option maxHeartbeats 4000000
namespace BB
open L2 PySem PySem.Spec PyProof.Rows
/-! ### range(a, b, -1) -/
section
variable {X : Cx} {Δ : DC} {tl : TA}
/-- lo, lo - 1, .. (n of them) -/
def rngDn (lo : Int) (n : Nat) : List D := (List.range n).map fun i => .int (lo - (i : Nat))
theorem rngDn_len {lo : Int} {n : Nat} : (rngDn lo n).length = n := by simp [rngDn]
theorem rngDn_at {lo : Int} {n i : Nat} {d : D} (h : (rngDn lo n)[i]? = some d) : i < n ∧ d = .int (lo - (i : Nat)) := by
  have hlt : i < n := by
    have := (List.getElem?_eq_some_iff.mp h).1
    rwa [rngDn_len] at this
  refine ⟨hlt, ?_⟩
  simp only [rngDn, List.getElem?_map, List.getElem?_range hlt] at h
  simpa using h.symm
theorem itc_ok {K : PySem.W.Frag} {I1 : Hp} {lo : Int} {n : Nat} : ItOk K I1 (Itc lo (-1) n) (rngDn lo n) (fun _ => True) := by
  refine ⟨fun F i I M H x A _ hi => ?_, fun F I M H x A _ => ?_, fun F i d x' I M H H' x A _ hd y => ?_⟩
  · show i < n
    rwa [rngDn_len] at hi
  · show n ≤ (rngDn lo n).length
    rw [rngDn_len]; exact Nat.le_refl _
  · obtain ⟨e, rfl⟩ := y
    subst e
    obtain ⟨_, rfl⟩ := rngDn_at hd
    refine ⟨I, Ext.refl I, A, ?_⟩
    rw [show lo + (i : Nat) * (-1 : Int) = lo - (i : Nat) by omega]
    exact .int _
def dRngDn (dl : DA) : DI := fun env M R => dl env M fun ds M1 => ∃ i j : Int, ds = [.int i, .int j, .int (-1)] ∧ (-(2 ^ 62) ≤ i ∧ i < 2 ^ 62 ∧ -(2 ^ 62) ≤ j ∧ j < 2 ^ 62) ∧ R (rngDn i (i - j).toNat) (fun _ => True) M1
theorem Rps.three_inv {K : PySem.W.Frag} {I : Hp} {vs : List V} {d e f : D} (h : Rps K I vs [d, e, f]) : ∃ v u w, vs = [v, u, w] ∧ Rp K I v d ∧ Rp K I u e ∧ Rp K I w f := by
  obtain ⟨v, r, rfl, a, b⟩ := h.cons_inv
  obtain ⟨u, w, rfl, c, d⟩ := b.two_inv
  exact ⟨v, u, w, rfl, a, c, d⟩
theorem pdi_rngDn {tg a b c : Expr} {dl : DA} {p pos : Pos} (hg : Gl X "range") (hm : X.mg "range" = none) (ha : PDa X Δ [a, b, c] tl dl) (hs : starEach [a, b, c] X.env = (false, eval a X.env) :: starEach [b, c] X.env := by rfl) (hpl : (backTo pos (starEach [b, c] X.env)).any (·.1) = false := by rfl) :
    PDi X Δ tg (.Call (.Name "range" p) [a, b, c] [] pos) (iRng3 tl) (dRngDn dl) := by
  obtain ⟨pa, s⟩ := ha
  refine ⟨pi_range3 hg hm pa hs hpl, fun I M H σ env G R Rd k q => s I M H σ env G _ _ (fun ds M1 I1 H1 vs x1 G1 r1 ⟨i, j, e, ⟨h1, h2, h3, h4⟩, q1⟩ => ?_) q⟩
  subst e
  obtain ⟨v, u, w, rfl, rv, ru, rw'⟩ := r1.three_inv
  rw [rv.int_inv, ru.int_inv, rw'.int_inv]
  exact ⟨i, j, -1, (i - j).toNat, rfl, RgC.neg h1 h2 h3 h4, k _ _ M1 _ I1 H1 x1 G1 itc_ok q1⟩
theorem i_rngDn {dl : DA} {env : Env} {M : Mem} {R : List D → (Mem → Prop) → Mem → Prop} (q : dl env M fun ds M1 => ∃ i j : Int, ds = [.int i, .int j, .int (-1)] ∧ (-(2 ^ 62) ≤ i ∧ i < 2 ^ 62 ∧ -(2 ^ 62) ≤ j ∧ j < 2 ^ 62) ∧ R (rngDn i (i - j).toNat) (fun _ => True) M1) : dRngDn dl env M R := q
end
end BB

set_option maxHeartbeats 4000000
namespace BB
open L2 PySem PySem.Spec PyProof.Rows
/-! ### a caught exception that is kept behind its clause -/
theorem exV_ok {P : Program} {w : World} {H : Hp} {h : Heap} {a : Addr} {cls : Value} {d : Option Addr} {o : Obj} (e : h.get? a = some o) (z : Zc cls d o) (f : ∃ vs, o.data = .fields vs) : ObjOk P w H h a (ExV cls d a) := by
  obtain ⟨vs, f⟩ := f
  exact ⟨⟨o, vs, e, z, f⟩, ⟨o, e⟩, fun _ _ ⟨o', v', q, r⟩ k => ⟨o', v', k o' q, r⟩⟩
section
variable {X : Cx} {pins : List (Addr × Obj)} {σ : L2.St} {H : Hp} {s : Shared}
/-- an object that is new since the entry is tracked from here on -/
theorem track {a : Addr} {o : HO} (I : Inv X pins σ H s) (hn : H a = none) (h0 : X.s_0.heap.get? a = none) (hL : a ≠ X.env.locals) (hC : ∀ x c, X.env.cells.lookup x = some c → c ≠ a) (hP : ∀ p ∈ X.pn ++ pins, p.1 ≠ a)
    (new : ObjOk X.prog X.w (upd H a o) s.heap a o) : Inv X pins σ (upd H a o) s := by
  have old : ∀ {b u}, X.s_0.heap.get? b = some u → b ≠ a := fun {b u} e z => by rw [z, h0] at e; cases e
  have has : ∀ {b u}, H b = some u → b ≠ a := fun {b u} e z => by rw [z, hn] at e; cases e
  have B := I.base
  refine ⟨I.ok, I.os, I.bare, ⟨B.keep, B.slot, fun b u e n x => ?_, B.there, fun b xs e => ?_, fun b u xs e => ?_, fun b ps e => ?_⟩, I.loc, I.cell, ?_, fun x c e => ?_, fun p hp => ?_, fun b u e => ?_, I.len⟩
  · rw [upd_ne (old e)]; exact B.free b u e n x
  · have q := B.tups b xs e
    rw [upd_ne (has q)]; exact q
  · have q := B.frzs b u xs e
    rw [upd_ne (has q)]; exact q
  · obtain ⟨m, q⟩ := B.tbls b ps e
    exact ⟨m, by rw [upd_ne (has q)]; exact q⟩
  · rw [upd_ne hL.symm]; exact I.free
  · rw [upd_ne (hC x c e)]; exact I.freeC x c e
  · obtain ⟨q1, q2, q3⟩ := I.pin p hp
    exact ⟨q1, by rw [upd_ne (hP p hp)]; exact q2, q3⟩
  · by_cases hb : b = a
    · subst hb
      rw [upd_same] at e; cases e
      exact new
    · rw [upd_ne hb] at e
      refine (I.hok b u e).stay (fun c v _ q => q) (fun c q => ?_) fun c xs q => ?_
      · rw [upd_ne (has q)]; exact q
      · rw [upd_ne (has q)]; exact q
end
/-- what the clause 'except x as n' wishes where the exception outlives it; slot i is n's -/
def wKeep (K : PySem.W.Frag) (c : Value) (i : Nat) (ts : Addr → Value → Option Addr → TS) (Wout : WX) (D : Ends) : WX := fun cls d σ H => ∃ b, PySem.W.exmOne K cls c = some b ∧
  (b = true → ∀ a, H a = none → ts a cls d { nx := fun σ' H' => H' a = none → D.nx (σ'.set i none) (upd H' a (ExV cls d a)), rt := D.rt, bk := fun σ' H' => D.bk (σ'.set i none) H', ct := fun σ' H' => D.ct (σ'.set i none) H' } (σ.set i (some (.ref a))) H) ∧ (b = false → Wout cls d σ H)
section
variable {X : Cx} {x n : Str} {c : Value} {i : Nat} {body suite : List Stmt} {b₀ : Stmt} {np pos pos' : Pos} {tb : WX → TS} {ts : Addr → Value → Option Addr → TS} {Wout : WX}
theorem ps_tryKeep (hs : X.stack = X.env :: X.outer) (hf : X.env.frame = some X.env.locals) (hex : X.ex = []) (hN : X.N.Nodup) (hi : X.N[i]? = some n) (hln : X.env.kindOf n = some .local) (hc : Names X x c) (tk : Takes X Wout)
    (hb : ∀ (W : WX) (pn : List (Addr × Obj)) (xe : Value → Shared → Prop), Takes (X.tr pn xe) W → PassesOwn (model X.prog X.w) X.A X.env xe → PSs (X.tr pn xe) body (tb W))
    (hsu : ∀ (a : Addr) (oe : Obj) (cls : Value) (d : Option Addr) (pn : List (Addr × Obj)), Zc cls d oe → (∃ vs, oe.data = .fields vs) → PSs (X.suite a ((a, oe) :: pn)) (b₀ :: suite) (ts a cls d)) :
    PS X (.Try body [.ExceptHandler (some (.Name x np)) (some n) (b₀ :: suite) pos'] [] [] pos) (fun D σ H => tb (wKeep X.K c i ts Wout D) D σ H) := by
  refine ⟨fun pins s σ H D I0 h => wpAny_Try_except ?_⟩
  obtain ⟨W, hW⟩ : ∃ W, W = wKeep X.K c i ts Wout D := ⟨_, rfl⟩
  rw [← hW] at h
  obtain ⟨CL, hCL⟩ : ∃ CL : List ExceptHandler, CL = [.ExceptHandler (some (.Name x np)) (some n) (b₀ :: suite) pos'] := ⟨_, rfl⟩
  rw [← hCL]
  -- what a clause is met with
  have meet : ∀ u s', XE (X.tr (X.pn ++ pins) (fun e s₁ => wpAny (model X.prog X.w) X.A (noteFrame e X.env) (fun _ s₂ => wpAny (model X.prog X.w) X.A (setFlight e none) (fun _ s₃ => wpAny (model X.prog X.w) X.A (handleBy e X.env CL) (SP X pins D) X.xe s₃) X.xe s₂) X.xe s₁)) W u s' →
      wpAny (model X.prog X.w) X.A (noteFrame u X.env) (fun _ s₂ => wpAny (model X.prog X.w) X.A (setFlight u none) (fun _ s₃ => wpAny (model X.prog X.w) X.A (handleBy u X.env CL) (SP X pins D) X.xe s₃) X.xe s₂) X.xe s' := by
    intro u s' xx
    obtain ⟨a, G, t, pins', σ', H', cls, d, eu, J0, inG, up, sky, na, os, ag, wish⟩ := xx
    subst eu
    have J : Inv X pins σ' H' t := J0.ofTry I0.ok
    have fr : X.A.frames = some (X.env :: X.outer) := I0.ok.frames.trans (congrArg some hs)
    -- the exception's object is new since the entry
    have gone : G.get? a = none ∧ a ∉ frs (X.env :: X.outer) := by
      have feet : ∀ {h : Heap} {o : Obj} {vs : Array Value}, h.FunFrames G (X.env :: X.outer) → h.get? a = some o → o.data = .fields vs → a ∉ frs (X.env :: X.outer) := fun ff e q hm => by
        obtain ⟨_, o2, e2, hne⟩ := ff.mem hm
        cases e.symm.trans e2
        exact hne _ q
      rw [show (X.tr (X.pn ++ pins) _).stack = X.env :: X.outer from hs] at sky
      rcases sky with ⟨_, g, ff, o, vs, e, _, q, _⟩ | fl | fl
      · exact ⟨g, feet ff e q⟩
      · obtain ⟨_, _, e, _, q⟩ := fl.there
        exact ⟨fl.2.1, feet fl.2.2.1 e q⟩
      · obtain ⟨_, _, _, _, _, e, _, q, _⟩ := fl.2.2.2
        exact ⟨fl.2.1, feet fl.2.2.1 e q⟩
    have notT : t.heap.get? a = none := by
      cases e : t.heap.get? a with
      | none => rfl
      | some o =>
        have e2 := inG a o e (by rw [show (X.tr (X.pn ++ pins) _).stack = X.env :: X.outer from hs]; exact gone.2)
        rw [gone.1] at e2; cases e2
    have not0 : X.s_0.heap.get? a = none := by
      cases e : X.s_0.heap.get? a with
      | none => rfl
      | some o =>
        obtain ⟨o2, e2⟩ := J.base.there a o e (by rw [hex]; exact List.not_mem_nil)
        rw [notT] at e2; cases e2
    have aL : a ≠ X.env.locals := fun z => by
      obtain ⟨m, ⟨o, _, _, e, _⟩, _⟩ := J.loc
      rw [← z, notT] at e; cases e
    have aC : ∀ y k, X.env.cells.lookup y = some k → k ≠ a := fun y k e z => by
      obtain ⟨_, o, eo, _⟩ := J.cell y k e
      rw [z, notT] at eo; cases eo
    have aP : ∀ p ∈ X.pn ++ pins, p.1 ≠ a := fun p hp z => by
      have := (J.pin p hp).1
      rw [z, notT] at this; cases this
    have aF : a ∉ X.fs := fun hm => gone.2 (by
      obtain ⟨e, he, q⟩ := List.mem_filterMap.mp hm
      exact List.mem_filterMap.mpr ⟨e, List.mem_cons_of_mem _ he, q⟩)
    rw [hW] at wish
    obtain ⟨b, hb1, yes, no⟩ := wish
    rw [show (X.tr (X.pn ++ pins) _).stack = X.env :: X.outer from hs] at sky
    refine Sky.land Zc.steady fr hf sky fun h3 fl up3 => ?_
    have at3 : Inv X pins σ' H' { s' with heap := h3 } := J.landed inG fl.1 (up.trans up3) os ag
    obtain ⟨o3, v3, e3, z3, f3⟩ := fl.there
    have in3 := at3.suite e3 f3 na aL aF
    rw [hCL]
    refine wpAny_handleBy_cons (codeAny_handlers_test ?_) (fun q => by cases q)
    have asked : wpAny (model X.prog X.w) (X.A.mark (some (.ref a))) (eval (.Name x np) X.env) (fun v s4 => v = c ∧ s4 = { s' with heap := h3 }) (fun _ _ => False) { s' with heap := h3 } := by
      obtain ⟨g1, g2, g3 | ⟨g3, g4, g5⟩⟩ := hc
      · exact ld_glob (X := X.suite a ((a, o3) :: (X.pn ++ pins))) in3 g1 g3 ⟨rfl, rfl⟩ g2
      · exact ld_blt (X := X.suite a ((a, o3) :: (X.pn ++ pins))) in3 g1 g3 g4 ⟨rfl, rfl⟩ g5 g2
    refine wpAny_mono asked (fun v s4 q => ?_) fun _ _ q => q.elim
    obtain ⟨rfl, rfl⟩ := q
    have kind : PySem.W.Looks (model X.prog X.w) h3 (typeOf (.ref a)) cls := fun A Q E s k q => wpAny_typeOf_ref (k _ _ e3) (z3.1.symm ▸ q)
    refine (PySem.W.exm_one (M := model X.prog X.w) at3.kIn kind hb1).here ?_
    cases b with
    | false =>
      show wpAny _ X.A (handleBy (.ref a) X.env []) _ _ _
      refine wpAny_handleBy_nil ?_
      obtain ⟨_, _, _, o, vs, T, _, _, e, _, f, hv, _⟩ := id fl
      have on : wpAny (model X.prog X.w) X.A (setFlight (.ref a) X.env.frame) (fun _ s4 => wpAny (model X.prog X.w) X.A (throw (.ref a) : Sem Flow) (SP X pins D) X.xe s4) X.xe { s' with heap := h3 } := by
        rw [hf]
        refine HandSPX.setFlight_upZ fl fun h4 held up4 => wpAny_throw (tk _ _ ⟨a, G, t, pins, σ', H', cls, d, rfl, J, inG, (up.trans up3).trans up4, .inr (.inr ?_), na, os, ag, no rfl⟩)
        rw [hs]; exact held
      unfold PySem.passOn
      refine wpAny_bind (wpAny_field e f hv ?_)
      rw [if_neg (by simp : ¬ ((Value.ref T == Value.none) = true))]
      first | exact wpAny_bind on | exact wpAny_bind (wpAny_pure (wpAny_bind on))
    | true =>
      refine codeAny_handlers_suite_as (HandSPX.lands_againZ fl fun h4 fl4 up4 => ?_)
      have at4 : Inv X pins σ' H' { s' with heap := h4 } := J.landed inG fl4.1 ((up.trans up3).trans up4) os ag
      obtain ⟨o4, v4, e4, z4, f4⟩ := fl4.there
      refine store_ok (X := X.suite a ((a, o4) :: (X.pn ++ pins))) (v := .ref a) (at4.suite e4 f4 na aL aF) hN hi (.inl hln) rfl (fun s5 in5 => ?_) (.inr hln)
      refine wpAny_mono ((hsu a o4 cls d (X.pn ++ pins) z4 ⟨_, f4⟩).run [] s5 _ H' _ in5 (yes rfl a na)) (fun f s6 out => ?_) fun _ _ z => z.elim
      cases f with
      | next =>
        obtain ⟨σ6, H6, in6, q6⟩ := out
        obtain ⟨p1, p2, _⟩ := in6.pin (a, o4) (List.mem_append_left _ List.mem_cons_self)
        have kept : Inv X pins σ6 (upd H6 a (ExV cls d a)) s6 := track (in6.unsuite I0.ok) p2 not0 aL aC aP (exV_ok p1 z4 ⟨_, f4⟩)
        exact gone_ok kept hN hi hln fun s7 in7 => ⟨_, _, in7, q6 p2⟩
      | brk =>
        obtain ⟨σ6, H6, in6, q6⟩ := out
        exact gone_ok (in6.unsuite I0.ok) hN hi hln fun s7 in7 => ⟨_, _, in7, q6⟩
      | cont =>
        obtain ⟨σ6, H6, in6, q6⟩ := out
        exact gone_ok (in6.unsuite I0.ok) hN hi hln fun s7 in7 => ⟨_, _, in7, q6⟩
      | ret u =>
        obtain ⟨v6, σ6, H6, in6, r6, q6⟩ := out
        exact gone_ok (in6.unsuite I0.ok) hN hi hln fun s7 in7 => ⟨_, _, _, in7, r6, q6⟩
  refine wpAny_mono ((hb W (X.pn ++ pins) _ meet PassesOwn.looking).run [] s σ H D (I0.toTry _) h) (fun f s1 out => ?_) fun e s1 q => q
  cases f with
  | next =>
    obtain ⟨σ1, H1, J1, q1⟩ := out
    exact wpAny_execs_nil ⟨σ1, H1, J1.ofTry I0.ok, q1⟩
  | brk =>
    obtain ⟨σ1, H1, J1, q1⟩ := out
    exact ⟨σ1, H1, J1.ofTry I0.ok, q1⟩
  | cont =>
    obtain ⟨σ1, H1, J1, q1⟩ := out
    exact ⟨σ1, H1, J1.ofTry I0.ok, q1⟩
  | ret u =>
    obtain ⟨v1, σ1, H1, J1, r1, q1⟩ := out
    exact ⟨v1, σ1, H1, J1.ofTry I0.ok, r1, q1⟩
end
end BB

set_option maxHeartbeats 4000000
namespace BB
open L2 PySem PySem.Spec PyProof.Rows
/-! ### a kept exception, over data -/
theorem ExcR.ext {K : PySem.W.Frag} {I J : Hp} {fs : List (Str × D)} {d : Option Addr} (x : Ext I J) (h : ExcR K I fs d) : ExcR K J fs d := by
  cases d with
  | none => exact h
  | some dd => obtain ⟨fvs, h1, h2⟩ := h; exact ⟨fvs, x.xd h1, RpF.ext x h2⟩
theorem Rp.exc {K : PySem.W.Frag} {I : Hp} {a : Addr} {c : Value} {d : Option Addr} {fs : List (Str × D)} (h : I a = some (ExV c d a)) (er : ExcR K I fs d) : Rp K I (.ref a) (.exc c fs) := by
  cases d with
  | none => cases er; exact .exc0 h
  | some dd => obtain ⟨fvs, h1, h2⟩ := er; exact .excD h h1 h2
theorem Rp.exc_inv {K : PySem.W.Frag} {I : Hp} {v : V} {c : Value} {fs : List (Str × D)} (h : Rp K I v (.exc c fs)) : ∃ a d, v = .ref a ∧ I a = some (ExV c d a) ∧ ExcR K I fs d := by
  cases h with
  | exc0 h => exact ⟨_, none, rfl, h, rfl⟩
  | excD h h1 h2 => exact ⟨_, some _, rfl, h, _, h1, h2⟩
/-- the exception is known behind its clause, wherever a name holds it -/
def seenX (a : Addr) (c : Value) (fs : List (Str × D)) : Option D → Option D
  | some (.ref b) => if b = a then some (.exc c fs) else some (.ref b)
  | o => o
theorem EnvR.seen {K : PySem.W.Frag} {I : Hp} {σ : L2.St} {env : Env} {a : Addr} {c : Value} {d : Option Addr} {fs : List (Str × D)} (R : EnvR K I σ env) (h : I a = some (ExV c d a)) (er : ExcR K I fs d) : EnvR K I σ (env.map (seenX a c fs)) := by
  refine ⟨by rw [List.length_map]; exact R.len, fun i x hx => ?_⟩
  rw [List.getElem?_map] at hx
  cases e : env[i]? with
  | none => rw [e] at hx; cases hx
  | some o =>
    rw [e] at hx
    have hx : seenX a c fs o = some x := Option.some.inj hx
    cases o with
    | none => cases hx
    | some y =>
      by_cases hy : y = .ref a
      · subst hy
        have e2 : seenX a c fs (some (.ref a)) = some (.exc c fs) := if_pos rfl
        rw [e2] at hx
        cases hx
        obtain ⟨v, hv, rv⟩ := R.get i (.ref a) e
        rw [rv.ref_inv] at hv
        exact ⟨_, hv, Rp.exc h er⟩
      · have e2 : seenX a c fs (some y) = some y := by
          cases y <;> first | rfl | exact if_neg (fun z => hy (by rw [z]))
        rw [e2] at hx
        cases hx
        exact R.get i _ e
/-- what the clause wishes, over data -/
def wKeepD (K : PySem.W.Frag) (c : Value) (i : Nat) (us : Addr → Value → List (Str × D) → DS) (Wout : DW) (T : EndsD) : DW := fun cls fs env M => ∃ b, PySem.W.exmOne K cls c = some b ∧
  (b = true → ∀ a, us a cls fs { nx := fun env' M' => T.nx ((env'.set i none).map (seenX a cls fs)) M', rt := T.rt, bk := fun env' M' => T.bk (env'.set i none) M', ct := fun env' M' => T.ct (env'.set i none) M' } (env.set i (some (.ref a))) M) ∧ (b = false → Wout cls fs env M)
def dTryKeep (K : PySem.W.Frag) (c : Value) (i : Nat) (us : Addr → Value → List (Str × D) → DS) (Wd : DW) (db : DW → DS) : DS := fun T env M => db (wKeepD K c i us Wd T) T env M
section
variable {X : Cx} {Δ : DC} {x n : Str} {c : Value} {i : Nat} {body suite : List Stmt} {b₀ : Stmt} {np pos pos' : Pos} {tb : WX → TS} {db : DW → DS} {ts : Addr → Value → Option Addr → TS} {us : Addr → Value → List (Str × D) → DS}
theorem pds_tryKeep (hs : X.stack = X.env :: X.outer) (hf : X.env.frame = some X.env.locals) (hex : X.ex = []) (hN : X.N.Nodup) (hi : X.N[i]? = some n) (hln : X.env.kindOf n = some .local) (hc : Names X x c) (xo : XOk X Δ)
    (hb : BodyOk X Δ body tb db) (hsu : SuiteOk X Δ (b₀ :: suite) ts us) :
    PDs X Δ (.Try body [.ExceptHandler (some (.Name x np)) (some n) (b₀ :: suite) pos'] [] [] pos) (fun D σ H => tb (wKeep X.K c i ts Δ.W D) D σ H) (dTryKeep X.K c i us Δ.Wd db) := by
  refine ⟨ps_tryKeep hs hf hex hN hi hln hc xo.takes (fun W pn xe tk po => (hb Δ.I0 W noD pn xe (Ext.refl _) ⟨tk, fun _ _ h => h.elim⟩ po).1) (fun a oe cls d pn hz hd => ?_), fun I M H σ env G T Td R h => ?_⟩
  · obtain ⟨I0, fs, er⟩ := exc_some X.K d
    exact (hsu a oe cls d pn I0 fs hz hd er).1
  · refine body_run hs hf hex hb G (fun {I' M' H' σ' env' cls fs d} x' G' er w => ?_) R h
    obtain ⟨b, e, yes, no⟩ := w
    refine ⟨b, e, fun hy a ha => ?_, fun hn => xo.link G' er (no hn)⟩
    have R' := R.ext x'
    refine suite_run hsu (I := I') (Td := { nx := fun env' M' => Td.nx ((env'.set i none).map (seenX a cls fs)) M', rt := Td.rt, bk := fun env' M' => Td.bk (env'.set i none) M', ct := fun env' M' => Td.ct (env'.set i none) M' }) (Ext.refl I') (G'.set (.ref a)) er ⟨fun env M I2 H2 σ2 x2 G2 q => ?_, fun env M I2 H2 σ2 x2 G2 q => ?_, fun env M I2 H2 σ2 x2 G2 q => ?_, R'.rt⟩ (yes hy a)
    · intro hn
      have hI : I2 a = none := G2.at_.freeI hn
      have x3 : Ext I2 (upd I2 a (ExV cls d a)) := Ext.new hI
      refine R'.nx _ _ (upd I2 a (ExV cls d a)) _ _ (x2.trans x3) ⟨G2.base.trans x3, G2.at_.newI hn _, ?_⟩ q
      exact EnvR.seen (G2.env.setN.ext x3) upd_same (er.ext (x2.trans x3))
    · exact R'.bk _ _ _ _ _ x2 ⟨G2.base, G2.at_, G2.env.setN⟩ q
    · exact R'.ct _ _ _ _ _ x2 ⟨G2.base, G2.at_, G2.env.setN⟩ q
theorem pds_tryKeepX (hs : X.stack = X.env :: X.outer) (hf : X.env.frame = some X.env.locals) (hex : X.ex = []) (hN : X.N.Nodup) (hi : X.N[i]? = some n) (hln : X.env.kindOf n = some .local) (hc : Names X x c) (xo : XOk X Δ)
    (hb : BodyX X Δ body db) (hsu : SuiteX X Δ (b₀ :: suite) us) :
    PDs X Δ (.Try body [.ExceptHandler (some (.Name x np)) (some n) (b₀ :: suite) pos'] [] [] pos) (fun D σ H => lfB X Δ db (wKeep X.K c i (lfU X Δ us) Δ.W D) D σ H) (dTryKeep X.K c i us Δ.Wd db) :=
  pds_tryKeep hs hf hex hN hi hln hc xo (bodyX hb) (suiteX hsu)
end
/-! ### isinstance of a kept exception -/
structure ExcQ (K : PySem.W.Frag) (C : Addr) : Prop where
  xf : XfC K C
  atr : PySem.W.findIn K (.ref C) "__class__" = some (.some (.builtin "object.__class__"))
  got : PySem.W.specialIn K (.builtin "object.__class__") "__get__" = some (.some (.builtin "getset_descriptor.__get__"))
  tak : PySem.W.takesIn K (.builtin "object.__class__") = .some true
  all : PySem.W.mroIn K C (.type "object") = .some true
theorem excQ_ok {K : PySem.W.Frag} {x : Str} (c1 : (Bf.xf x).ok K = true) (c : (Bf.isi x).ok K = true) : ExcQ K (He.ga K x) := by
  obtain ⟨h1, c⟩ := He.ba c
  obtain ⟨h2, c⟩ := He.ba c
  obtain ⟨h3, h4⟩ := He.ba c
  exact ⟨xf_ok c1, He.eqO_ok h1, He.eqO_ok h2, of_decide_eq_true h3, of_decide_eq_true h4⟩
def rIsiE (K : PySem.W.Frag) : List V → Hp → VK → Prop := fun xs H Q => ∃ (a C : Addr) (d : Option Addr) (c : V) (cv : Value) (b : Bool), xs = [.ref a, c] ∧ H a = some (ExV (.ref C) d a) ∧ (∀ dd, d = some dd → ∃ fs, H dd = some (.xd fs)) ∧ ExcQ K C ∧ (∀ u, RelV c u → u = cv) ∧ PySem.W.kitOne K (.ref C) cv = some b ∧ Q (.bl b) H
theorem call_isiE {X : Cx} : CallR X (.builtin "isinstance") (rIsiE X.K) := by
  intro pins s σ H xs us Q I r h
  obtain ⟨a, C, d, c, cv, b, rfl, h1, hd, q, hcv, hk, hq⟩ := h
  match us, r with
  | [_, u], .cons rx (.cons rt .nil) =>
    cases rx
    cases hcv _ rt
    obtain ⟨⟨o, vs, e, z, f⟩, _⟩ := I.hok a _ h1
    obtain ⟨od, J⟩ : ∃ od, PySem.W.InstAt s.heap a o C od := by
      have no : PySem.W.notCls o = true := by unfold PySem.W.notCls; rw [f]
      cases d with
      | none => exact ⟨none, e, z.1, no, by rw [z.2]; trivial⟩
      | some dd =>
        obtain ⟨fs, hx⟩ := hd dd rfl
        obtain ⟨mA, hns, _⟩ := I.hok dd _ hx
        obtain ⟨od, ho, _⟩ := lookIn_ns hns
        exact ⟨some od, e, z.1, no, by rw [z.2]; exact ho⟩
    obtain ⟨cd, hcl, _⟩ := PySem.W.any_some q.xf.hdC
    exact PySem.W.kia_one (PySem.W.kitx_exc (x := a) (ox := o) (od := od) (by rw [hcl]; rfl) q.xf.ga q.xf.gg q.xf.exC q.atr q.got q.tak q.all) I.kIn J hk (fun z => nomatch z) fun tk => ⟨.bl b, H, I.tok _, rfl, hq⟩
abbrev rIsiX (K : PySem.W.Frag) : List V → Hp → VK → Prop := fun xs H Q => rIsi K xs H Q ∨ rIsiE K xs H Q
theorem call_isiX {X : Cx} : CallR X (.builtin "isinstance") (rIsiX X.K) := CallR.or call_isi call_isiE
/-- of an own class -/
def rdIsiX (K : PySem.W.Frag) : RDC := fun ds M Q => rdIsiO K ds M Q ∨ ∃ C fs C' b, ds = [.exc (.ref C) fs, .ref C'] ∧ ExcQ K C ∧ PySem.W.kitOne K (.ref C) (.ref C') = some b ∧ Q (.bl b) M
theorem snd_isiX {X : Cx} : SndC X (rIsiX X.K) (rdIsiX X.K) := by
  intro Δ I M H σ env G vs ds r Q Qd k h
  rcases h with h | ⟨C, fs, C', b, e, hq, hk, q⟩
  · exact .inl (snd_isiO Δ I M H σ env G vs ds r Q Qd k h)
  · subst e
    obtain ⟨v, u, rfl, rv, ru⟩ := r.two_inv
    rw [ru.ref_inv]
    obtain ⟨a, d, rfl, h1, er⟩ := rv.exc_inv
    refine .inr ⟨a, C, d, .ref C', .ref C', b, rfl, G.at_.ex _ _ h1, fun dd hd => ?_, hq, fun u hu => hu, hk, k _ _ _ _ _ (Ext.refl I) G (.bl b) q⟩
    subst hd
    obtain ⟨fvs, h2, _⟩ := er
    exact ⟨fvs, G.at_.ex _ _ h2⟩
/-- of a built-in class -/
def rdIsiY (K : PySem.W.Frag) : RDC := fun ds M Q => rdIsi ds M Q ∨ ∃ C fs T b, ds = [.exc (.ref C) fs, .ty T] ∧ ExcQ K C ∧ PySem.W.kitOne K (.ref C) (.type T) = some b ∧ Q (.bl b) M
theorem snd_isiY {X : Cx} : SndC X (rIsiX X.K) (rdIsiY X.K) := by
  intro Δ I M H σ env G vs ds r Q Qd k h
  rcases h with h | ⟨C, fs, T, b, e, hq, hk, q⟩
  · exact .inl (snd_isi Δ I M H σ env G vs ds r Q Qd k h)
  · subst e
    obtain ⟨v, u, rfl, rv, ru⟩ := r.two_inv
    rw [ru.ty_inv]
    obtain ⟨a, d, rfl, h1, er⟩ := rv.exc_inv
    refine .inr ⟨a, C, d, .ty T, .type T, b, rfl, G.at_.ex _ _ h1, fun dd hd => ?_, hq, fun u hu => hu, hk, k _ _ _ _ _ (Ext.refl I) G (.bl b) q⟩
    subst hd
    obtain ⟨fvs, h2, _⟩ := er
    exact ⟨fvs, G.at_.ex _ _ h2⟩
theorem i_isiX {K : PySem.W.Frag} {M : Mem} {Q : DKt} {C C' : Addr} {fs : List (Str × D)} {b : Bool} (h1 : ExcQ K C) (h2 : PySem.W.kitOne K (.ref C) (.ref C') = some b) (q : Q (.bl b) M) : rdIsiX K [.exc (.ref C) fs, .ref C'] M Q := .inr ⟨C, fs, C', b, rfl, h1, h2, q⟩
theorem i_isiY {K : PySem.W.Frag} {M : Mem} {Q : DKt} {C : Addr} {T : String} {fs : List (Str × D)} {b : Bool} (h1 : ExcQ K C) (h2 : PySem.W.kitOne K (.ref C) (.type T) = some b) (q : Q (.bl b) M) : rdIsiY K [.exc (.ref C) fs, .ty T] M Q := .inr ⟨C, fs, T, b, rfl, h1, h2, q⟩
end BB

set_option maxHeartbeats 4000000
namespace BB
open L2 PySem PySem.Spec PyProof.Rows
/-! ### dict(a list of pairs), list(range(a, b)) -/
section
variable {κ α : Type} [DecidableEq κ]
def mergeD (kvs more : List (κ × α)) : List (κ × α) := more.foldl (fun acc p => putKD acc p.1 p.2) kvs
theorem valD_merge : ∀ (more kvs : List (κ × α)) (k : κ), (more.map (·.1)).Nodup → valD (mergeD kvs more) k = (valD more k).orElse fun _ => valD kvs k
  | [], _, _, _ => rfl
  | (a, v) :: r, kvs, k, h => by
    obtain ⟨h1, h2⟩ := List.nodup_cons.mp h
    show valD (mergeD (putKD kvs a v) r) k = _
    rw [valD_merge r _ k h2, valD_put, valD_cons]
    by_cases e : k = a
    · subst e
      have hn : valD r k = none := by
        cases hv : valD r k with
        | none => rfl
        | some x =>
          unfold valD at hv
          obtain ⟨p, hp, _⟩ := Option.map_eq_some_iff.mp hv
          have hq := List.find?_some (p := fun kv : κ × α => decide (kv.1 = k)) hp
          have : p.1 = k := of_decide_eq_true hq
          exact (h1 (List.mem_map.mpr ⟨p, List.mem_of_find?_eq_some hp, this⟩)).elim
      rw [hn, if_pos rfl, if_pos rfl]; rfl
    · rw [if_neg e, if_neg (fun z => e z.symm)]
end
section
variable {K : PySem.W.Frag} {I : Hp}
theorem RpK.merge : ∀ {mv : List (Key × V)} {md : List (Key × D)} {kv : List (Key × V)} {kd : List (Key × D)}, RpK K I mv md → RpK K I kv kd → RpK K I (mergeK kv mv) (mergeD kd md)
  | _, _, _, _, .nil, r => r
  | (k, v) :: mv, (_, d) :: md, kv, kd, .cons a t, r => by
    have ih := RpK.merge t (r.put (k := k) a)
    exact ih
/-- a list of pairs as keys and values -/
theorem pairs_in {F H : Hp} {M : Mem} (A : At K F I M H) : ∀ {kvs : List (Key × D)} {vs : List V}, Rps K I vs (kvs.map fun kv => .tup [kD kv.1, kv.2]) → ∃ (ps : List Addr) (kv : List (Key × V)), vs = ps.map V.ref ∧ Paired (fun p kv => SqT K H p [kV kv.1, kv.2]) ps kv ∧ RpK K I kv kvs
  | [], vs, r => ⟨[], [], r.nil_inv, .nil, .nil⟩
  | (k, d) :: kvs, vs, r => by
    obtain ⟨v, rest, rfl, rv, rr⟩ := Rps.cons_inv (show Rps K I vs (.tup [kD k, d] :: kvs.map fun kv => .tup [kD kv.1, kv.2]) from r)
    obtain ⟨p, us, rfl, h1, h2⟩ := rv.tup_inv
    obtain ⟨a, b, rfl, ra, rb⟩ := h2.two_inv
    obtain ⟨ps, kv, rfl, h3, h4⟩ := pairs_in A rr
    have e : a = kV k := by
      cases k with
      | inl i => exact ra.int_inv
      | inr z => exact ra.str_inv
    subst e
    exact ⟨p :: ps, (k, b) :: kv, rfl, .cons (A.sqT h1) h3, .cons rb h4⟩
end
section
variable {X : Cx}
def rdDictP : RDC := fun ds M Q => ∃ (x : D) (kvs : List (Key × D)), ds = [x] ∧ lstOf M x = some (kvs.map fun kv => .tup [kD kv.1, kv.2]) ∧ ∀ p, M p = none → Q (.ref p) (mset M p (.dK (mergeD [] kvs)))
theorem snd_dictP : SndC X (fun xs H Q => ∃ (a : Addr) (ps : List Addr) (kvs : List (Key × V)), xs = [.ref a] ∧ SqL X.K H a (ps.map V.ref) ∧ Paired (fun p kv => SqT X.K H p [kV kv.1, kv.2]) ps kvs ∧ ∀ p, H p = none → Q (.ref p) (upd H p (.dK (mergeK [] kvs)))) rdDictP := by
  intro Δ I M H σ env G vs ds r Q Qd k ⟨x, kvs, e, h1, q⟩
  subst e
  obtain ⟨v, rfl, rv⟩ := r.one_inv
  obtain ⟨a, us, rfl, h2, h3⟩ := lst_of G.at_ rv h1
  obtain ⟨ps, kv, rfl, h4, h5⟩ := pairs_in G.at_ h3
  exact ⟨a, ps, kv, rfl, .inl (.inl h2), h4, fun p hp => k _ _ _ _ _ (Ext.refl I) (G.newM hp _ (.dK (mergeD [] kvs)) ⟨_, upd_same, h5.merge .nil⟩) (.ref p) (q p (G.at_.freeM hp))⟩
theorem i_dictP {x : D} {kvs : List (Key × D)} {M : Mem} {Q : DKt} (h : lstOf M x = some (kvs.map fun kv => .tup [kD kv.1, kv.2])) (q : ∀ p, M p = none → Q (.ref p) (mset M p (.dK (mergeD [] kvs)))) : rdDictP [x] M Q := ⟨x, kvs, rfl, h, q⟩
variable {Δ : DC} {a b : Expr} {ta tb : TE} {da db : DE} {p p2 pos pos2 : Pos}
/-- as a list that can be written -/
def dListRgM (da db : DE) : DE := fun env M Q => da env M fun x M1 => db env M1 fun y M2 => ∃ i j : Int, x = .int i ∧ y = .int j ∧ RgOk i j ∧ ∀ p, M2 p = none → Q (.ref p) (mset M2 p (.lst (rngD i (j - i).toNat)))
theorem rg_reps {K : PySem.W.Frag} {I : Hp} (i j : Int) : Rps K I (rgV i j) (rngD i (j - i).toNat) := by
  have key : ∀ (l : List Nat), Rps K I (l.map fun n => V.int (i + (n : Nat))) (l.map fun n => D.int (i + (n : Nat))) := fun l => by
    induction l with
    | nil => exact .nil
    | cons n l ih => exact .cons (.int _) ih
  exact key _
theorem pd_listRgM (hc : X.calm = true) (hg : Gl X "list") (hm : X.mg "list" = none) (hg2 : Gl X "range") (hm2 : X.mg "range" = none) (ha : PDe X Δ a ta da) (hb : PDe X Δ b tb db)
    (n1 : starEach [a, b] X.env = (false, eval a X.env) :: starEach [b] X.env := by rfl) (n2 : starEach [b] X.env = (false, eval b X.env) :: starEach [] X.env := by rfl) (n3 : (backTo pos2 (starEach [b] X.env)).any (·.1) = false := by rfl)
    (n4 : starEach [.Call (.Name "range" p2) [a, b] [] pos2] X.env = (false, eval (.Call (.Name "range" p2) [a, b] [] pos2) X.env) :: starEach [] X.env := by rfl) :
    PDe X Δ (.Call (.Name "list" p) [.Call (.Name "range" p2) [a, b] [] pos2] [] pos) (tLstRg (tRg2 ta tb)) (dListRgM da db) :=
  ⟨pe_listRg hc hg hm (prg_2 hg2 hm2 ha.1 hb.1 n1 n2 n3) n4, fun I M H σ env G Q Qd k q => ha.2 I M H σ env G _ _ (fun x M1 I1 H1 v x1 G1 r1 q1 => hb.2 I1 M1 H1 σ env G1 _ _ (fun y M2 I2 H2 u x2 G2 r2 q2 => by
    obtain ⟨i, j, e1, e2, ok, q3⟩ := q2
    subst e1 e2
    refine ⟨i, j, r1.int_inv, r2.int_inv, ok, fun q hq => ?_⟩
    exact k _ _ _ _ _ (x1.trans x2) (G2.newM hq _ (.lst (rngD i (j - i).toNat)) ⟨_, upd_same, rg_reps i j⟩) (.ref q) (q3 q (G2.at_.freeM hq))) q1) q⟩
theorem i_listRgM {env : Env} {M : Mem} {Q : DKt} (q : da env M fun x M1 => db env M1 fun y M2 => ∃ i j : Int, x = .int i ∧ y = .int j ∧ RgOk i j ∧ ∀ p, M2 p = none → Q (.ref p) (mset M2 p (.lst (rngD i (j - i).toNat)))) : dListRgM da db env M Q := q
end
end BB

set_option maxHeartbeats 4000000
namespace PySem
namespace HandSPX
section
variable {M : Model} {A : Around} {E : Value → Shared → Prop} {h : Heap} {g : Array GenState} {d : Drawn} {t : Nat} {os : OsState}
variable {nm q : Str} {C N : Addr} {bs bm bmB : List Value} {hdct : Bool} {sn : List Str} {sub : List Value} {ab : Bool} {col : Option Bool} {dd : Option Addr} {k0 k1 k2 k3 k5 : Option Value} {B newId initId : String}
/-- a class of errors called by the name of one field: the checks -/
theorem kw_check_new (F : ExcBaseFacts B newId initId bmB) (hT : ∀ X : String, bm.contains (.type X) = bmB.contains (.type X)) {kv : Str × Value} {Q : Unit → Shared → Prop}
    (hC : h.get? C = some (excClassObj nm q C N bs bm hdct sn sub ab col dd k0 k1 k2 k3 k5 newId)) (hq : Q () ⟨h, g, d, t, os⟩) : wpAny M A (checkBuiltinCall newId ⟨[.ref C], [kv]⟩) Q E ⟨h, g, d, t, os⟩ := by
  have inB : (Value.ref C :: bm).contains (.type B) = true := (List.contains_cons ..).trans (by rw [hT, F.hasB, Bool.or_true])
  have star := F.noStar
  simp only [checkBuiltinCall, F.newKind, F.newSplit, F.newRow]
  repeat (first
    | exact hq
    | refine wpAny_loadPart_at hC ?_
    | (refine wpAny_isSubtype_exc hC ?_
       rw [inB])
    | refine wpAny_staticBase_exc hC ?_
    | refine wpAny_madeBy_exc hC ?_
    | simp only [bne_self_eq_false, Bool.false_eq_true, if_false]
    | wp_step)
theorem kw_check_type {kv : Str × Value} {Q : Unit → Shared → Prop} (hC : h.get? C = some (excClassObj nm q C N bs bm hdct sn sub ab col dd k0 k1 k2 k3 k5 newId))
    (hq : Q () ⟨h, g, d, t, os⟩) : wpAny M A (checkBuiltinCall "type.__call__" ⟨[.ref C], [kv]⟩) Q E ⟨h, g, d, t, os⟩ := by
  have isSub := tc_sub
  have isT : (⟨h, g, d, t, os⟩ : Shared).TypeIs (.ref C) "type" := ⟨_, hC, rfl⟩
  simp only [checkBuiltinCall, tc_kind, tc_split]
  repeat (any_goals (first
    | assumption
    | with_reducible refine wpAny_onRaise ?_
    | with_reducible refine wpAny_loadPart_at hC ?_
    | with_reducible refine wpAny_map ?_
    | wp_step))
end
section
variable {prog : Program} {w : World} {A : Around} {E : Value → Shared → Prop} {R : Result → Shared → Prop} {h : Heap} {g : Array GenState} {d : Drawn} {t : Nat} {os : OsState}
variable {nm q : Str} {C N : Addr} {bs bm bmB : List Value} {hdct : Bool} {sn : List Str} {sub : List Value} {ab : Bool} {col : Option Bool} {dd : Option Addr} {k0 k1 k2 k3 k5 : Option Value} {B newId initId : String}
theorem kw_new (F : ExcBaseFacts B newId initId bmB) (hT : ∀ X : String, bm.contains (.type X) = bmB.contains (.type X)) {kv : Str × Value}
    (hC : h.get? C = some (excClassObj nm q C N bs bm hdct sn sub ab col dd k0 k1 k2 k3 k5 newId))
    (hq : R (.ok (.ret (.ref (h.objs.size + 1)))) ⟨(h.push (W.kdv_tup [])).push (excO C h.objs.size), g, d, t, os⟩) :
    codeAny (model prog w) A (.builtin newId ⟨[.ref C], [kv]⟩) R ⟨h, g, d, t, os⟩ := by
  have ends := F.ends
  have has : ∀ X : String, (Value.ref C :: bm).contains (.type X) = bmB.contains (.type X) := fun X => by rw [List.contains_cons, hT]; rfl
  refine codeAny_builtinAt F.entry ?_
  unfold Builtin.«BaseException.__new__»
  refine wpAt_bind (show wpAt _ _ _ (stack >>= _) _ _ _ from wpAt_bind (wpAt_stack fun p below => wpAt_of_wpAny ?_))
  wp_walk
  refine wpAt_of_wpAny ?_
  rw [F.owner]
  repeat (first
    | with_reducible refine wpAny_madeHere_exc F.canon hC ?_
    | with_reducible refine wpAny_loadPart_at hC ?_
    | (with_reducible refine wpAny_isSubtype_exc hC ?_
       rw [has]
       first | rw [F.hasB] | rw [F.noAttr] | rw [F.noName])
    | wp_step)
  show R _ _
  rw [Heap.size_push]
  exact hq
theorem kw_type_call (F : ExcBaseFacts B newId initId bmB) (hT : ∀ X : String, bm.contains (.type X) = bmB.contains (.type X)) {kv : Str × Value} {fI : Addr} {Q : Fin → Shared → Prop}
    (hC : h.get? C = some (excClassObj nm q C N bs bm hdct sn sub ab col dd k0 k1 k2 k3 k5 newId))
    (hi : W.Looks (model prog w) h (typeLookup (.ref C) "__init__") (some (.ref fI))) (hb : ∀ self, W.Looks (model prog w) h (bindSpecial (.ref fI) self) (.ref fI, [self]))
    (hq : codeAny (model prog w) A (.call (.ref fI) ⟨[.ref (h.objs.size + 1)], [kv]⟩)
      (fun r s' => match r with | .ok (.ret v) => v = .none ∧ Q (.done (.ret (.ref (h.objs.size + 1)))) s' | .ok _ => False | .error e => E e s')
      ⟨(h.push (W.kdv_tup [])).push (excO C h.objs.size), g, d, t, os⟩) :
    wpAny (model prog w) A (Builtin.«type.__call__» ⟨[.ref C], [kv]⟩) Q E ⟨h, g, d, t, os⟩ := by
  repeat (first | with_reducible refine wpAny_loadPart_at hC ?_ | with_reducible refine wpAny_madeBy_exc hC ?_ | wp_step)
  refine codeAny_call_builtin_code (Code.quiet_builtin _ F.quiet) (kw_check_new F hT hC ?_)
  refine kw_new F hT hC ?_
  show wpAny _ _ _ _ _ _
  have k : ∀ b o, h.get? b = some o → ((h.push (W.kdv_tup [])).push (excO C h.objs.size)).get? b = some o := fun b o e => Heap.get?_push_of_some _ (Heap.get?_push_of_some _ e)
  have hC₁ := k _ _ hC
  have hget : ((h.push (W.kdv_tup [])).push (excO C h.objs.size)).get? (h.objs.size + 1) = some (excO C h.objs.size) := by heap_get
  have hcC : (Value.ref C :: bm).contains (.ref C) = true := by simp
  have i1 := hi.keeps k
  have b1 := (hb (.ref (h.objs.size + 1))).keeps k
  unfold isInstance
  repeat (first | with_reducible refine wpAny_loadPart_at hget ?_ | (with_reducible refine wpAny_isSubtype_exc hC₁ ?_; rw [hcC]) | wp_step)
  show wpAny _ _ (typeLookup (.ref C) _) _ _ _
  refine i1.at ?_
  refine wpAny_holding (wpAny_bind (b1.at ?_))
  refine wpAny_bind (wpAny_call (codeAny_mono hq fun r s' z => ?_))
  rcases r with e | (v | _ | _ | _) <;> first | exact z | exact z.elim | skip
  obtain ⟨rfl, z⟩ := z
  first
    | exact wpAny_pure (wpAny_pure z)
    | (wp_walk; exact z)
theorem kw_call_own (F : ExcBaseFacts B newId initId bmB) (hT : ∀ X : String, bm.contains (.type X) = bmB.contains (.type X)) {kv : Str × Value} {fI : Addr}
    (hC : h.get? C = some (excClassObj nm q C N bs bm hdct sn sub ab col dd k0 k1 k2 k3 k5 newId))
    (hi : W.Looks (model prog w) h (typeLookup (.ref C) "__init__") (some (.ref fI))) (hb : ∀ self, W.Looks (model prog w) h (bindSpecial (.ref fI) self) (.ref fI, [self]))
    (hq : codeAny (model prog w) (A.under (.builtin "type.__call__" ⟨[.ref C], [kv]⟩)) (.call (.ref fI) ⟨[.ref (h.objs.size + 1)], [kv]⟩) (W.InitBack (h.objs.size + 1) R)
      ⟨(h.push (W.kdv_tup [])).push (excO C h.objs.size), g, d, t, os⟩) :
    codeAny (model prog w) A (.call (.ref C) ⟨[], [kv]⟩) R ⟨h, g, d, t, os⟩ := by
  have f1 := tc_lookup
  have f2 := tc_bind (.ref C)
  have hTy : (⟨h, g, d, t, os⟩ : Shared).TypeIs (.ref C) "type" := ⟨_, hC, rfl⟩
  refine codeAny_of_tree ?_
  show wpAny _ _ (callAny (.ref C) _) _ _ _
  repeat (any_goals (first | assumption | with_reducible refine wpAny_loadPart_at hC ?_ | wp_step))
  refine ⟨rfl, ?_⟩
  refine codeAny_call_builtin_at (Code.quiet_builtin _ (by decide +kernel)) entry_typeCall (kw_check_type hC (kw_type_call F hT hC hi hb ?_))
  refine codeAny_mono hq fun r s' z => ?_
  rcases r with e | (v | _ | _ | _) <;> exact z
end
end HandSPX
end PySem

set_option maxHeartbeats 4000000
namespace BB
open L2 PySem PySem.Spec PyProof.Rows
/-! ### exceptions made as values -/
section
variable {X : Cx} {e : Expr}
theorem pe_mk {t : L2.St → Hp → XK → Prop} (he : PMk X e t) : PE X e (fun σ H Q => t σ H fun cls d H' => ∀ a, H' a = none → Q (.ref a) (upd H' a (ExV cls d a))) := by
  refine ⟨fun pins s σ H Q I h => wpAny_mono (he pins s σ H _ I h) (fun u s' hu => ?_) fun _ _ x => x⟩
  obtain ⟨a, oe, vs, sI, H', cls, d, rfl, J, k, hne, ha, hz, hd, h1, na, os, ag, r, q⟩ := hu
  have J2 := J.laidN (t' := s'.toks) (a := a) (o := ExV cls d a) k hne na (exV_ok ha hz ⟨_, hd⟩)
  exact ⟨.ref a, _, ⟨J2.ok, os.trans J2.os, ag, J2.base, J2.loc, J2.cell, J2.free, J2.freeC, J2.pin, J2.hok, J2.len⟩, rfl, q a na⟩
/-- an own exception class without own __init__, called with one thing -/
theorem pe_excV {C : Addr} {bmB : List Value} {B newId initId : String} {x : Str} {ta : TE} {p pos : Pos} (F : ExcBaseFacts B newId initId bmB) (q : PySem.W.excIn X.K C bmB newId = true) (gC : X.mg x = some (.ref C)) (kC : PySem.W.keepIn X.K (.ref C) = true) (hg : Gl X x)
    (he : PE X e ta) (hs : starEach [e] X.env = (false, eval e X.env) :: starEach [] X.env := by rfl) (hdb : (x == ("__debug__" : Str)) = false := by decide) :
    PE X (.Call (.Name x p) [e] [] pos) (fun σ H Q => ta σ H fun _ H1 => ∀ a, H1 a = none → Q (.ref a) (upd H1 a (ExV (.ref C) none a))) := by
  refine ⟨fun pins s σ H Q I h => ?_⟩
  refine wpAny_Call_Name_kw (ld_glob I hg gC ?_ hdb)
  refine PySem.W.callWith_K (h₀ := X.base) I.ok.mod.kin kC ?_ hs (by rfl)
  rw [hs]
  show wpAny _ _ (spliced ((false, eval e X.env) :: backTo pos (starEach [] X.env))) _ _ s
  refine Calls.spliced_cons (thn (he.run pins s σ H _ I h) fun u s1 ⟨v, H1, I1, r1, q1⟩ => ?_)
  refine Calls.spliced_nil ⟨I1.kIn, ?_⟩
  show wpAny _ _ (call (.ref C) [u]) _ _ _
  obtain ⟨bm, N, nm, qn, bs, hdct, sn, sub, ab, col, dd, k0, k1, k2, k3, k5, mN, hC, hN, hni, T⟩ := exc_obj I1.kIn q
  refine wpAny_call_exc_subT F T hC hN hni (fun h' a hm => ?_) (by show 1 ≤ sizeLine; rw [sizeLine_eq]; omega)
  have hn : H1 a = none := I1.hok.gone hm.new
  obtain ⟨t, ht, _, _⟩ := hm.there
  exact ⟨.ref a, upd H1 a (ExV (.ref C) none a), I1.laidN hm.keeps hm.new hn (exV_ok ht ⟨rfl, rfl⟩ ⟨_, rfl⟩), rfl, q1 a hn⟩
/-- C(k = v), C's own __init__ keeping sp -/
def tMkOK (C : Addr) (sp : Sp) (gV : List V → List V → List V) (tk : TA) : L2.St → Hp → XK → Prop := fun σ H Q => tk σ H fun zs H1 => zs.length = 1 ∧ ∀ a, H1 a = none → sp (gV [.ref a] zs) (upd H1 a (exo a C none))
  (fun v H2 => v = .non ∧ ∃ (d : Addr) (fs : List (Str × V)), H2 a = some (exo a C (some d)) ∧ H2 d = some (exd d fs) ∧ H1 d = none ∧ Q (.ref C) (some d) (upd (del H2 a) d (.xd fs))) (fun _ _ _ => False)
theorem pmk_oexK {CX : CXT} {x kn : Str} {C fI : Addr} {k : Nat} {fd : FuncData} {ps : List Str} {sp : Sp} {p pos kpos : Pos} {tk : TA} {g : List Value → List Value → List Value} {gV : List V → List V → List V} (T : OexC X.K C) (iC : PySem.W.findIn X.K (.ref C) "__init__" = some (some (.ref fI))) (tI : PySem.W.typeIn X.K (.ref fI) = some (.type "function"))
    (F1 : FnOk X.prog X.w X.K X.mg X.base CX k fI fd ps sp) (hr : Room (k + 1) X.A) (hb : KBn X.K fd ps 1 [kn] g gV) (hx : Passes CX X (fun _ _ _ => False)) (hg : Gl X x) (hm : X.mg x = some (.ref C)) (ha : PK X [⟨some kn, e, kpos⟩] tk)
    (hdb : (x == ("__debug__" : Str)) = false := by decide)
    (hall : (backToKw pos (keywordEach [⟨some kn, e, kpos⟩] X.env)).all (·.1.isSome) = true := by rfl) (hks : (backToKw pos (keywordEach [⟨some kn, e, kpos⟩] X.env)).filterMap (·.1) = [kn] := by rfl)
    (hpl : ((backTo pos (starEach [] X.env)).any (·.1) || (backToKw pos (keywordEach [⟨some kn, e, kpos⟩] X.env)).any (·.1.isNone)) = false := by rfl) :
    PMk X (.Call (.Name x p) [] [⟨some kn, e, kpos⟩] pos) (tMkOK C sp gV tk) := by
  intro pins s σ H Q I h
  obtain ⟨nm, q, N, bs, bm, sn, sub, ab, col, dd, k0, k1, k2, k3, k5, hC, hbm⟩ := T.cls
  refine wpAny_Call_Name_kw (ld_glob I hg hm ?_ hdb)
  refine PySem.W.callWith_KW0 (h₀ := X.base) I.ok.mod.kin T.kC hall (thn (ha.run pos pins s σ H _ I h) fun us s1 ⟨vs, H1, I1, r1, hz, q1⟩ => ⟨I1.kIn, ?_⟩) hpl
  rw [hks]
  obtain ⟨u, rfl⟩ : ∃ u, us = [u] := by
    have e := r1.length
    rw [hz] at e
    match us, e with
    | [u], _ => exact ⟨u, rfl⟩
  show wpAny _ _ (call (.ref C) [] [(kn, u)]) _ _ _
  obtain ⟨hp, g0, dr, tk0, os⟩ := s1
  have hsz : hp.objs.size ≤ hp.objs.size + 1 := Nat.le_succ _
  have hn : H1 (hp.objs.size + 1) = none := I1.hok.fresh hsz
  have hq := q1 (hp.objs.size + 1) hn
  have kk : ∀ b o, hp.get? b = some o → ((hp.push (PySem.W.kdv_tup [])).push (PySem.HandSPX.excO C hp.objs.size)).get? b = some o := fun b o e => Heap.get?_push_of_some _ (Heap.get?_push_of_some _ e)
  have hget : ((hp.push (PySem.W.kdv_tup [])).push (PySem.HandSPX.excO C hp.objs.size)).get? (hp.objs.size + 1) = some (PySem.HandSPX.excO C hp.objs.size) := by heap_get
  have I2 : Inv X pins σ (upd H1 (hp.objs.size + 1) (exo (hp.objs.size + 1) C none)) ⟨(hp.push (PySem.W.kdv_tup [])).push (PySem.HandSPX.excO C hp.objs.size), g0, dr, tk0, os⟩ :=
    I1.laid (t' := tk0) (a := hp.objs.size + 1) (o := exo (hp.objs.size + 1) C none) (h' := (hp.push (PySem.W.kdv_tup [])).push (PySem.HandSPX.excO C hp.objs.size)) kk hsz (exo_ok hget)
  have r2 : Vals (gV [V.ref (hp.objs.size + 1)] vs) (g [Value.ref (hp.objs.size + 1)] [u]) := hb.rel (.cons rfl .nil) r1
  refine wpAny_call (PySem.HandSPX.kw_call_own F.excBase_ValueError (fun Y => PySem.HandSPX.refsVE_contains Y bm hbm) (I1.kIn _ _ hC) (PySem.W.looks_findIn I1.kIn iC) (fun self => PySem.W.bind_fn I1.kIn self tI)
    (codeAny_mono (F1.run _ X.stack _ _ ⟨[Value.ref (hp.objs.size + 1)], [(kn, u)]⟩ (g [Value.ref (hp.objs.size + 1)] [u]) _ _ (fun _ _ _ => False) (hr.make C [] [(kn, u)]) (I2.env0.make C [] [(kn, u)]) (hb.to _ [Value.ref (hp.objs.size + 1)] [u] I2.kIn rfl rfl) r2 hq) fun r s' hq' => ?_))
  cases r with
  | error er => exact hx pins σ _ _ er s' I2 hq'
  | ok fl =>
    cases fl with
    | ret u =>
      obtain ⟨v, H2, os2, bare2, un2, hok2, rv, ev, d, fs, ea, ed, hd1, q2⟩ := hq'
      subst ev
      obtain ⟨h2, g2, d2, t2, os'⟩ := s'
      exact ⟨rv, mk_end (raises_own T.exC T.tyC) I1 hsz kk un2 hok2 os2 bare2 ea ed hd1 q2⟩
    | next => exact False.elim hq'
    | brk => exact False.elim hq'
    | cont => exact False.elim hq'
end
end BB

set_option maxHeartbeats 4000000
namespace BB
open L2 PySem PySem.Spec PyProof.Rows
section
variable {X : Cx} {Δ : DC} {e : Expr} {te : TE} {de : DE} {x fn : Str} {C fI : Addr} {p pos kpos : Pos} {k : Nat} {fd : FuncData} {ps : List Str}
def dMkE (C : Addr) (de : DE) : DE := fun env M Q => de env M fun _ M1 => Q (.exc (.ref C) []) M1
theorem pd_mkE {bmB : List Value} {B newId initId : String} (F : ExcBaseFacts B newId initId bmB) (q : PySem.W.excIn X.K C bmB newId = true) (gC : X.mg x = some (.ref C)) (kC : PySem.W.keepIn X.K (.ref C) = true) (hg : Gl X x)
    (ha : PDe X Δ e te de) (hs : starEach [e] X.env = (false, eval e X.env) :: starEach [] X.env := by rfl) (hdb : (x == ("__debug__" : Str)) = false := by decide) :
    PDe X Δ (.Call (.Name x p) [e] [] pos) (fun σ H Q => te σ H fun _ H1 => ∀ a, H1 a = none → Q (.ref a) (upd H1 a (ExV (.ref C) none a))) (dMkE C de) :=
  ⟨pe_excV F q gC kC hg ha.1 hs hdb, fun I M H σ env G Q Qd k h => ha.2 I M H σ env G _ _ (fun d M1 I1 H1 v x1 G1 r1 q1 a ha1 => by
    have x2 : Ext I1 (upd I1 a (ExV (.ref C) none a)) := Ext.new (G1.at_.freeI ha1)
    exact k _ M1 _ _ (.ref a) (x1.trans x2) (G1.go x2 (G1.at_.newI ha1 _)) (.exc0 upd_same) q1) h⟩
def dMkX (C : Addr) (fn : Str) (de : DE) : DE := fun env M Q => de env M fun d M1 => Q (.exc (.ref C) [(fn, d)]) M1
/-- what an exception's __init__ with one field leaves, over data -/
theorem snd_mkX {d : D} {M1 : Mem} {I1 H1 : Hp} {v : V} {σ : L2.St} {env : Env} {I : Hp} {Q : VK} {Qd : DKt} (T : OexC X.K C) (hno : PySem.W.findIn X.K (.ref C) fn = some none) (x1 : Ext I I1) (G1 : Gd X.K Δ I1 M1 H1 σ env) (r1 : Rp X.K I1 v d) (q1 : Qd (.exc (.ref C) [(fn, d)]) M1)
    (k : ∀ d M' I' H' v, Ext I I' → Gd X.K Δ I' M' H' σ env → Rp X.K I' v d → Qd d M' → Q v H') (a : Addr) (ha1 : H1 a = none) :
    spOex X.K fn (.ref a :: [v]) (upd H1 a (exo a C none)) (fun v H2 => v = .non ∧ ∃ (d : Addr) (fs : List (Str × V)), H2 a = some (exo a C (some d)) ∧ H2 d = some (exd d fs) ∧ H1 d = none ∧
      ∀ b, upd (del H2 a) d (.xd fs) b = none → Q (.ref b) (upd (upd (del H2 a) d (.xd fs)) b (ExV (.ref C) (some d) b))) (fun _ _ _ => False) := by
  refine ⟨a, C, v, rfl, T, hno, upd_same, fun dx hdx hne => ⟨rfl, dx, [(fn, v)], upd_same, by rw [upd_ne hne, upd_same], by rw [upd_ne hne] at hdx; exact hdx, fun b hb => ?_⟩⟩
  have hdx' : H1 dx = none := by rw [upd_ne hne] at hdx; exact hdx
  have x2 : Ext I1 (upd I1 dx (.xd [(fn, v)])) := Ext.new (G1.at_.freeI hdx')
  have A2 : At X.K Δ.F (upd I1 dx (.xd [(fn, v)])) M1 (upd (del (upd (upd (upd H1 a (exo a C none)) dx (exd dx [(fn, v)])) a (exo a C (some dx))) a) dx (.xd [(fn, v)])) := by
    refine (G1.at_.newI hdx' (.xd [(fn, v)])).same fun b u hb0 => ?_
    have hda : dx ≠ a := hne
    have hba : b ≠ a := fun z => by rw [z, upd_ne hda.symm, ha1] at hb0; cases hb0
    by_cases hb : b = dx
    · subst hb
      rw [upd_same] at hb0 ⊢
      exact hb0
    · rw [upd_ne hb] at hb0
      rw [upd_ne hb, del_ne hba, upd_ne hba, upd_ne hb, upd_ne hba]
      exact hb0
  have hI := A2.freeI hb
  have x3 : Ext (upd I1 dx (.xd [(fn, v)])) (upd (upd I1 dx (.xd [(fn, v)])) b (ExV (.ref C) (some dx) b)) := Ext.new hI
  have hbd : dx ≠ b := fun z => by rw [← z, upd_same] at hb; cases hb
  refine k _ M1 _ _ (.ref b) (x1.trans (x2.trans x3)) (G1.go (x2.trans x3) (A2.newI hb _)) (.excD upd_same (by rw [upd_ne hbd, upd_same]) (.cons (r1.ext (x2.trans x3)) .nil)) q1
theorem pd_mkX (T : OexC X.K C) (iC : PySem.W.findIn X.K (.ref C) "__init__" = some (some (.ref fI))) (tI : PySem.W.typeIn X.K (.ref fI) = some (.type "function"))
    (F1 : FnOk X.prog X.w X.K X.mg X.base CX0 k fI fd ps (spOex X.K fn)) (hno : PySem.W.findIn X.K (.ref C) fn = some none) (hr : Room (k + 1) X.A) (hb : Binds X.K fd ps []) (hg : Gl X x) (hm : X.mg x = some (.ref C)) (ha : PDe X Δ e te de)
    (hdb : (x == ("__debug__" : Str)) = false := by decide) (he : starEach [e] X.env = (false, eval e X.env) :: starEach [] X.env := by rfl) (hpl : (backTo pos (starEach [] X.env)).any (·.1) = false := by rfl) :
    PDe X Δ (.Call (.Name x p) [e] [] pos) (fun σ H Q => tMkO C (spOex X.K fn) [] (tCons te tNil) σ H fun cls d H' => ∀ a, H' a = none → Q (.ref a) (upd H' a (ExV cls d a))) (dMkX C fn de) := by
  refine ⟨pe_mk (pmk_oex T iC tI F1 hr hb .nil (fun _ _ _ _ _ _ _ h => h.elim) hg hm (pa_cons ha.1 pa_nil he) hdb he hpl), fun I M H σ env G Q Qd k q => ha.2 I M H σ env G _ _ (fun d M1 I1 H1 v x1 G1 r1 q1 => ?_) q⟩
  exact ⟨by show 1 ≤ 1000; omega, fun a ha1 => snd_mkX T hno x1 G1 r1 q1 k a ha1⟩
/-- by the field's name -/
theorem pd_mkXK {kn : Str} (T : OexC X.K C) (iC : PySem.W.findIn X.K (.ref C) "__init__" = some (some (.ref fI))) (tI : PySem.W.typeIn X.K (.ref fI) = some (.type "function"))
    (F1 : FnOk X.prog X.w X.K X.mg X.base CX0 k fI fd ps (spOex X.K fn)) (hno : PySem.W.findIn X.K (.ref C) fn = some none) (hr : Room (k + 1) X.A) (hb : KBn X.K fd ps 1 [kn] (fun us ws => us ++ ws) (fun vs zs => vs ++ zs)) (hg : Gl X x) (hm : X.mg x = some (.ref C)) (ha : PDe X Δ e te de)
    (hdb : (x == ("__debug__" : Str)) = false := by decide)
    (hall : (backToKw pos (keywordEach [⟨some kn, e, kpos⟩] X.env)).all (·.1.isSome) = true := by rfl) (hks : (backToKw pos (keywordEach [⟨some kn, e, kpos⟩] X.env)).filterMap (·.1) = [kn] := by rfl)
    (hpl : ((backTo pos (starEach [] X.env)).any (·.1) || (backToKw pos (keywordEach [⟨some kn, e, kpos⟩] X.env)).any (·.1.isNone)) = false := by rfl) :
    PDe X Δ (.Call (.Name x p) [] [⟨some kn, e, kpos⟩] pos) (fun σ H Q => tMkOK C (spOex X.K fn) (fun vs zs => vs ++ zs) (tCons te tNil) σ H fun cls d H' => ∀ a, H' a = none → Q (.ref a) (upd H' a (ExV cls d a))) (dMkX C fn de) := by
  refine ⟨pe_mk (pmk_oexK T iC tI F1 hr hb (fun _ _ _ _ _ _ _ h => h.elim) hg hm (pk_cons ha.1 pk_nil) hdb hall hks hpl), fun I M H σ env G Q Qd k q => ha.2 I M H σ env G _ _ (fun d M1 I1 H1 v x1 G1 r1 q1 => ?_) q⟩
  exact ⟨rfl, fun a ha1 => snd_mkX T hno x1 G1 r1 q1 k a ha1⟩
/-! ### the field of a kept exception -/
def ExcF (K : PySem.W.Frag) (C : Addr) (fn : Str) : Prop := XfC K C ∧ PySem.W.findIn K (.ref C) fn = some none
def tXv (K : PySem.W.Frag) (f : Str) (te : TE) : TE := fun σ H Q => te σ H fun x H1 => ∃ (a C dd : Addr) (fs : List (Str × V)) (v : V), x = .ref a ∧ ExcF K C f ∧ H1 a = some (ExV (.ref C) (some dd) a) ∧ H1 dd = some (.xd fs) ∧ fs.lookup f = some v ∧ Q v H1
theorem pe_xv (he : PE X e te) (hb : attributeBase e fn X.env (eval e X.env) = eval e X.env) : PE X (.Attribute e fn pos) (tXv X.K fn te) := by
  refine ⟨fun pins s σ H Q I h => ?_⟩
  refine attr_of hb (thn (he.run pins s σ H _ I h) fun u s1 hh => ?_)
  obtain ⟨x, H1, I1, rx, a, C, dd, fs, v, ex, ⟨T, hno⟩, ha, ea, l, q⟩ := hh
  subst ex
  obtain rfl : u = Value.ref a := rx
  obtain ⟨⟨oe, vs, ho, hz, hd⟩, _⟩ := I1.hok a _ ha
  have hx : ObjOk X.prog X.w H1 s1.heap dd (.xd fs) := I1.hok dd _ ea
  obtain ⟨mA, hns, hr⟩ := hx
  obtain ⟨od, ho2, hl⟩ := lookIn_ns hns
  obtain ⟨u, hu, ru⟩ := RelO.some_of (v := v) (o := mA fn) (by rw [← l]; exact hr fn)
  have J : PySem.W.InstAt s1.heap a oe C (some od) := ⟨ho, hz.1, by unfold PySem.W.notCls; rw [hd] <;> rfl, by rw [hz.2]; exact ho2⟩
  exact HandSPX.exc_get I1.kIn J T.ga T.gg T.exC (PySem.W.findObj_own T.hdC hno rfl (by rw [hl, hu])) (handed_of ru) ⟨v, H1, I1.tok _, ru, q⟩
def dXv (K : PySem.W.Frag) (f : Str) (de : DE) : DE := fun env M Q => de env M fun x M1 => ∃ (C : Addr) (fs : List (Str × D)) (d : D), x = .exc (.ref C) fs ∧ ExcF K C f ∧ fs.lookup f = some d ∧ Q d M1
theorem pd_xv (ha : PDe X Δ e te de) (hb : attributeBase e fn X.env (eval e X.env) = eval e X.env := by rfl) : PDe X Δ (.Attribute e fn pos) (tXv X.K fn te) (dXv X.K fn de) :=
  ⟨pe_xv ha.1 hb, fun I M H σ env G Q Qd k h => ha.2 I M H σ env G _ _ (fun d M1 I1 H1 v x1 G1 r1 ⟨C, fs, d', ex, hF, hl, q⟩ => by
    subst ex
    obtain ⟨a, dd, rfl, h1, er⟩ := r1.exc_inv
    cases dd with
    | none => cases er; cases hl
    | some dd =>
      obtain ⟨fvs, h2, h3⟩ := er
      obtain ⟨v', l', r'⟩ := h3.look hl
      exact ⟨a, C, dd, fvs, v', rfl, hF, G1.at_.ex _ _ h1, G1.at_.ex _ _ h2, l', k _ _ _ _ _ x1 G1 r' q⟩) h⟩
end
/-! ### i ** j -/
def powD (M : Mem) : D → D → Option D
  | .int i, .int j => if 0 ≤ i ∧ i ≤ 10 ∧ 0 ≤ j ∧ j ≤ 18 then some (.int (i ^ j.toNat)) else none
  | _, _ => none
theorem snd_pow {X : Cx} : SndR X (rI CPow fun i j => .int (i ^ j.toNat)) (rdO powD) := by
  intro Δ I M H σ env G x y dx dy rx ry Q Qd k ⟨d, e, q⟩
  unfold powD at e
  split at e
  · split at e
    · cases e
      rename_i hc
      rw [rx.int_inv, ry.int_inv]
      exact ⟨_, _, rfl, rfl, ⟨hc.2.2.1, by omega, by omega⟩, k _ _ _ _ _ (Ext.refl I) G (.int _) q⟩
    · cases e
  · cases e
/-! ### two readings of one test -/
def dEitherT (a b : DT) : DT := fun env M N => a env M N ∨ b env M N
theorem pdt_either {X : Cx} {Δ : DC} {e : Expr} {t u : TT} {a b : DT} (ha : PDt X Δ e t a) (hb : PDt X Δ e u b) : PDt X Δ e (fun σ H Q => t σ H Q ∨ u σ H Q) (dEitherT a b) :=
  ⟨⟨fun pins s σ H Q I q => q.elim (ha.1.run pins s σ H Q I) (hb.1.run pins s σ H Q I)⟩, fun I M H σ env G Q Qd k q => q.imp (ha.2 I M H σ env G Q Qd k) (hb.2 I M H σ env G Q Qd k)⟩
end BB

set_option maxHeartbeats 4000000
namespace BB
open L2 PySem PySem.Spec PyProof.Rows
/-! ### max(xs), xs a list of whole numbers, not empty -/
def rMaxL (K : PySem.W.Frag) : List V → Hp → VK → Prop := fun xs H Q => ∃ (p : Addr) (ns : List Int), xs = [.ref p] ∧ SqL K H p (ns.map V.int) ∧ 0 < ns.length ∧ ∀ m, m ∈ ns → (∀ y, y ∈ ns → y ≤ m) → Q (.int m) H
theorem ints_its {ns : List Int} : ∀ {us : List Value}, Vals (ns.map V.int) us → us.length = ns.length ∧ ∀ (i : Nat) (v : Value), us[i]? = some v → ∃ t, v = .int (ns.getD i 0) t := by
  induction ns with
  | nil =>
    intro us r
    cases r
    exact ⟨rfl, fun i v h => by cases h⟩
  | cons n ns ih =>
    intro us r
    cases r with
    | cons r0 rs =>
      obtain ⟨l, f⟩ := ih rs
      refine ⟨by rw [List.length_cons, List.length_cons, l], fun i v h => ?_⟩
      cases i with
      | zero =>
        cases Option.some.inj h
        exact r0
      | succ i => exact f i v h
theorem call_maxL {X : Cx} (hc : X.calm = true) : CallR X (.builtin "max") (rMaxL X.K) := by
  intro pins s σ H vs us Q I r h
  obtain ⟨p, ns, rfl, hs, hne, q⟩ := h
  obtain ⟨its, rv, hl, _⟩ := I.list hs
  rw [Vals.ref1 r]
  obtain ⟨hlen, hP⟩ := ints_its rv
  have hsz : its.toArray.size = ns.length := by rw [List.size_toArray]; exact hlen
  refine call_max_walk (iter_anyList hl.isList fun s₂ e st hfp hlI => ?_)
  subst e
  refine ⟨_, _, _, _, _, _, fun i j => decide (ns.getD i 0 > ns.getD j 0), rfl, Walks.list (A := X.A.in1) (I.ok.hd hc) _ p hlI its.toArray, st, hfp, by rw [hsz]; exact hne, CmpOf.ints_gt (fun i => ns.getD i 0) (fun i v z => hP i v (by simpa using z)), fun v h' tk hv hk => ?_⟩
  have hv' : its.toArray[argBest (fun i j => decide (ns.getD i 0 > ns.getD j 0)) (its.toArray.size - 1)]? = some v := hv
  rw [List.getElem?_toArray] at hv'
  obtain ⟨t, rfl⟩ := hP _ _ hv'
  obtain ⟨m1', m2'⟩ := argBest_gt (fun i => ns.getD i 0) (its.toArray.size - 1)
  have m1 : argBest (fun i j => decide (ns.getD i 0 > ns.getD j 0)) (its.toArray.size - 1) ≤ its.toArray.size - 1 := m1'
  have m2 : ∀ j, j ≤ its.toArray.size - 1 → ns.getD j 0 ≤ ns.getD (argBest (fun i j => decide (ns.getD i 0 > ns.getD j 0)) (its.toArray.size - 1)) 0 := m2'
  refine ⟨.int _, H, I.kept (t' := tk) (PySem.old_kept hk), ⟨t, rfl⟩, q _ (PySem.getD_mem (by omega)) fun y hy => ?_⟩
  obtain ⟨j, hj, e⟩ := List.mem_iff_getElem.mp hy
  have z := m2 j (by omega)
  have e3 : ns.getD j 0 = y := by rw [List.getD_eq_getElem?_getD, List.getElem?_eq_getElem hj, ← e] <;> rfl
  rw [e3] at z
  exact z
theorem rps_ints {K : PySem.W.Frag} {I : Hp} {ns : List Int} : ∀ {vs : List V}, Rps K I vs (ns.map D.int) → vs = ns.map V.int := by
  induction ns with
  | nil => intro vs r; cases r; rfl
  | cons n ns ih =>
    intro vs r
    cases r with
    | cons r0 rs => rw [r0.int_inv, ih rs]; rfl
def rdMaxL : RDC := fun ds M Q => ∃ x, ds = [x] ∧ ∃ ns : List Int, lstOf M x = some (ns.map D.int) ∧ 0 < ns.length ∧ ∀ m, m ∈ ns → (∀ y, y ∈ ns → y ≤ m) → Q (.int m) M
theorem snd_maxL {X : Cx} : SndC X (rMaxL X.K) rdMaxL := by
  intro Δ I M H σ env G vs ds r Q Qd k ⟨x, e, ns, e2, hne, q⟩
  subst e
  obtain ⟨v, rfl, rv⟩ := r.one_inv
  obtain ⟨a, us, rfl, h1, h2⟩ := lst_of G.at_ rv e2
  have e := rps_ints h2
  subst e
  exact ⟨a, ns, rfl, .inl (.inl h1), hne, fun m h3 h4 => k _ _ _ _ _ (Ext.refl I) G (.int m) (q m h3 h4)⟩
end BB

set_option maxHeartbeats 4000000
namespace BB
open L2 PySem PySem.Spec PyProof.Rows
section
variable {X : Cx} {Δ : DC} {e f o : Expr} {da db dc de : DE} {apos cpos : Pos} {to td te ty tx : TE}
/-! ### xs.extend(ys): ys a fixed list -/
def dExt (da de : DE) : DE := fun env M Q => da env M fun x M1 => ∃ q xs0, x = .ref q ∧ M1 q = some (.lst xs0) ∧ de env M1 fun y M2 => ∃ xs ys, M2 q = some (.lst xs) ∧ y = .lst ys ∧ xs.length + ys.length ≤ sizeLine ∧ Q .non (mset M2 q (.lst (xs ++ ys)))
theorem pd_ext (ho : PDe X Δ o to da) (ha : PDe X Δ e te de)
    (walk : PE X o to → PE X e te → PE X (.Call (.Attribute o "extend" apos) [e] [] cpos) (tBM X.K "list" rExtend to (tCons te tNil)) := by exact fun a b => pe_bm PySem.F.plainAttrs_list PySem.F.slot_list_extend PySem.F.type_list_extend mt_extend a (pa_cons b pa_nil)) :
    PDe X Δ (.Call (.Attribute o "extend" apos) [e] [] cpos) (tBM X.K "list" rExtend to (tCons te tNil)) (dExt da de) :=
  ⟨walk ho.1 ha.1, fun I M H σ env G Q Qd k q => ho.2 I M H σ env G _ _ (fun x M1 I1 H1 v x1 G1 r1 q1 => by
    obtain ⟨p, xs0, e1, m1, q1⟩ := q1
    subst e1
    rw [r1.ref_inv]
    obtain ⟨_, vs0, h0, _⟩ := G1.at_.mem _ _ m1
    refine ⟨.inl ⟨rfl, vs0, .inl (.inl h0)⟩, ha.2 I1 M1 H1 σ env G1 _ _ (fun d M2 I2 H2 u x2 G2 r2 q2 => ?_) q1⟩
    obtain ⟨xs, ys, m2, ey, hz, q2⟩ := q2
    subst ey
    obtain ⟨b, zs, rfl, hb, rz⟩ : ∃ b zs, u = .ref b ∧ I2 b = some (.lst zs) ∧ Rps X.K I2 zs ys := by
      cases r2 with
      | lst h1 h2 => exact ⟨_, _, rfl, h1, h2⟩
    obtain ⟨_, vs, h2, rs⟩ := G2.at_.mem _ _ m2
    exact ⟨p, b, vs, zs, rfl, rfl, h2, G2.at_.ex _ _ hb, by rw [rs.length, rz.length]; exact hz, k _ _ _ _ _ (x1.trans x2) (G2.go (Ext.refl I2) (G2.at_.write (m' := .lst (xs ++ ys)) m2 (fun _ z => by cases z) ⟨_, upd_same, rs.append rz⟩)) .non q2⟩) q⟩
/-! ### d.setdefault(y, z): keys that are numbers or texts -/
def dSetd (da db dc : DE) : DE := fun env M Q => da env M fun x M1 => ∃ p kvs0, x = .ref p ∧ M1 p = some (.dK kvs0) ∧ db env M1 fun y M2 => dc env M2 fun z M3 => ∃ kvs k, M3 p = some (.dK kvs) ∧ skey y = some k ∧ kvs.length < sizeLine ∧
  (∀ v, valD kvs k = some v → Q v M3) ∧ (valD kvs k = none → Q z (mset M3 p (.dK (putKD kvs k z))))
theorem pd_setd (ho : PDe X Δ o td da) (he : PDe X Δ e ty db) (hf : PDe X Δ f tx dc) (m : M2 X o "setdefault" apos e f cpos := by exact ⟨rfl, rfl, rfl, rfl⟩) : PDe X Δ (.Call (.Attribute o "setdefault" apos) [e, f] [] cpos) (tDSetd td ty tx) (dSetd da db dc) :=
  ⟨pe_dsetd ho.1 he.1 hf.1 m, fun I M H σ env G Q Qd k q => ho.2 I M H σ env G _ _ (fun x M1 I1 H1 v x1 G1 r1 q1 => by
    obtain ⟨p, kvs0, e1, m1, q1⟩ := q1
    subst e1
    rw [r1.ref_inv]
    obtain ⟨_, kv0, h0, _⟩ := G1.at_.mem _ _ m1
    refine ⟨p, rfl, .inl ⟨kv0, .inl h0⟩, he.2 I1 M1 H1 σ env G1 _ _ (fun d2 M2 I2 H2 v2 x2 G2 r2 q2 => hf.2 I2 M2 H2 σ env G2 _ _ (fun d3 M3 I3 H3 v3 x3 G3 r3 q3 => ?_) q2) q1⟩
    obtain ⟨kvs, kk, m3, hk, hl, qs, qn⟩ := q3
    obtain ⟨_, kv, h3, rk⟩ := G3.at_.mem _ _ m3
    have rv := RpK.val kk rk
    refine ⟨kv, kk, h3, skey_of (r2.ext x3) hk, by rw [rk.len]; exact hl, fun w hw => ?_, fun hn => ?_⟩
    · rw [hw] at rv
      cases e : valD kvs kk with
      | none => rw [e] at rv; exact rv.elim
      | some d => rw [e] at rv; exact k _ _ _ _ _ ((x1.trans x2).trans x3) G3 rv (qs d e)
    · rw [hn] at rv
      cases e : valD kvs kk with
      | some d => rw [e] at rv; exact rv.elim
      | none =>
        exact k _ _ _ _ _ ((x1.trans x2).trans x3) (G3.go (Ext.refl I3) (G3.at_.write (m' := .dK (putKD kvs kk d3)) m3 (fun _ z => by cases z) ⟨_, upd_same, rk.put r3⟩)) r3 (qn e)) q⟩
end
end BB

set_option maxHeartbeats 4000000
namespace BB
open L2 PySem PySem.Spec PyProof.Rows PySem.Froz
/-! ### sets of texts that can be walked -/
theorem tail_ris {ep : Nat} {es : Array (Int × Value)} {t : SetTable} {wd : Bool} (r : Ris t.place.toList) : Ris (tailTx ep es t wd).2.2.place.toList := by
  unfold tailTx
  by_cases c : (!wd && t.tooFull) = true
  · rw [if_pos c]; exact relayAll_ris _ _ _
  · rw [if_neg c]; exact r
theorem tail_led {ep : Nat} {es : Array (Int × Value)} {t : SetTable} {wd : Bool} : (tailTx ep es t wd).2.2.led = t.led := by
  unfold tailTx
  by_cases c : (!wd && t.tooFull) = true
  · rw [if_pos c]; exact relayAll_led _ _ _
  · rw [if_neg c]
theorem tail_perm {ep : Nat} {es : Array (Int × Value)} {t : SetTable} {wd : Bool} : (tailTx ep es t wd).1.toList.Perm es.toList := by
  unfold tailTx
  by_cases c : (!wd && t.tooFull) = true
  · rw [if_pos c]; exact relayAll_perm _ _ _
  · rw [if_neg c]
theorem addT_ris {h : Int} {v : Value} {D : SD} (r : Ris D.2.2.place.toList) : Ris (addTx h v D).2.2.place.toList := by
  refine tail_ris ?_
  split <;> exact layNew_ris _ _ _ _ r
theorem addT_led {h : Int} {v : Value} {D : SD} : (addTx h v D).2.2.led = D.2.2.led := by
  refine tail_led.trans ?_
  split <;> exact layNew_led _ _ _ _
theorem addT_perm {h : Int} {v : Value} {D : SD} : (addTx h v D).1.toList.Perm ((h, v) :: D.1.toList) := by
  have p1 := layNew_perm D.2.2 D.1 h v
  rw [Array.toList_push] at p1
  exact tail_perm.trans (p1.trans (List.perm_append_singleton (h, v) D.1.toList))
/-- at a stands a set of the texts l (each once) -/
def TSet (P : Program) (w : World) (h : Heap) (a : Addr) (l : List Str) : Prop :=
  ∃ D, h.get? a = some (sObj "set" D) ∧ TxOk P w D l ∧ Ris D.2.2.place.toList ∧ (w.params.followText "set-order" = true ∨ D.2.2.led = true) ∧ l.Nodup ∧ ∃ vs, Vals (l.map V.str) vs ∧ (D.1.toList.map (·.2)).Perm vs
section
variable {P : Program} {w : World} {A : Around} {E : Value → Shared → Prop} {s : Shared} {a : Addr} {l : List Str}
theorem TSet.at {h h' : Heap} (T : TSet P w h a l) (k : ∀ o, h.get? a = some o → h'.get? a = some o) : TSet P w h' a l := by
  obtain ⟨D, e, r⟩ := T
  exact ⟨D, k _ e, r⟩
theorem tset_new {h : Heap} (e : h.get? a = some { cls := .type "set", dict := none, data := .set #[] 0 (.fresh 0 0 (!w.params.followText "set-order")) }) : TSet P w h a [] :=
  ⟨(#[], 0, .fresh 0 0 (!w.params.followText "set-order")), e, TxOk.nil rfl, List.Pairwise.nil, by
    show _ ∨ (!w.params.followText "set-order") = true
    cases w.params.followText "set-order"
    · exact .inr rfl
    · exact .inl rfl, List.nodup_nil, [], .nil, .nil⟩
/-- a text that is there already changes nothing -/
theorem put_old {D : SD} {k : Str} {u : Tok} {Q : Bool → Shared → Prop} (ho : s.heap.get? a = some (sObj "set" D)) (F : TxOk P w D l) (hk : k ∈ l) (hb : l.length < scanBound) (h : ∀ b, Q b s) : wpAny (model P w) A (setAddHashed a (.str k u) (hashStr w k)) Q E s := by
  obtain ⟨es, ep, t⟩ := D
  have there : ∃ j, List.findIdx? (fun e => (strKind P w).is k e.2) es.toList = some j := by
    cases e : List.findIdx? (fun e => (strKind P w).is k e.2) es.toList with
    | some j => exact ⟨j, rfl⟩
    | none =>
      obtain ⟨x, hx, q⟩ := (F.mem k).mp hk
      have c := List.findIdx?_eq_none_iff.mp e x hx
      rw [q] at c
      cases c
  obtain ⟨j, hj⟩ := there
  have hsz : es.size = l.length := F.sz
  have small : es.size < scanBound := by omega
  unfold setAddHashed setAddHashedIn
  refine wpAny_holding (wpAny_bind (wpAny_setState_of ho rfl F.fit ?_))
  dsimp only
  rw [byScan_of rfl small F.el]
  simp only [↓reduceIte]
  unfold setAddByScan
  refine wpAny_bind (wpAny_bind (wpAny_rule (wpAny_bind (wpAny_setScan_of (knd := strKind P w) (k := k) (is_str k u) ho rfl F.fit F.el ?_))))
  rw [hj]
  exact wpAny_pure (wpAny_pure (h _))
/-- a text put into the set -/
theorem tset_put {k : Str} {u : Tok} {Q : Bool → Shared → Prop} (T : TSet P w s.heap a l) (hb : l.length + 1 < scanBound)
    (h : ∀ b h', Heap.SameBut a s.heap h' → TSet P w h' a (if k ∈ l then l else k :: l) → Q b { s with heap := h' }) : wpAny (model P w) A (setAddHashed a (.str k u) (hashStr w k)) Q E s := by
  obtain ⟨D, ho, F, r, ld, nd, vs, rv, pm⟩ := id T
  by_cases hk : k ∈ l
  · rw [if_pos hk] at h
    exact put_old ho F hk (by omega) fun b => h b s.heap (Heap.SameBut.refl a s.heap) T
  · rw [if_neg hk] at h
    refine add_x ho F hk hb (h true _ (Heap.SameBut.update s.heap a _) ?_)
    refine ⟨addTx (hashStr w k) (.str k u) D, get_upd _ ho rfl, add_ok u F, addT_ris r, by rw [addT_led]; exact ld, List.nodup_cons.mpr ⟨hk, nd⟩, .str k u :: vs, .cons ⟨u, rfl⟩ rv, ?_⟩
    exact (List.Perm.map (fun x : Int × Value => x.2) (addT_perm (h := hashStr w k) (v := .str k u) (D := D))).trans (pm.cons _)
theorem tset_put_if {k : Str} {l zs : List Str} (n : l.Nodup) (m : ∀ z, z ∈ l ↔ z ∈ zs) : (if k ∈ l then l else k :: l).Nodup ∧ ∀ z, z ∈ (if k ∈ l then l else k :: l) ↔ z ∈ zs ++ [k] := by
  by_cases hk : k ∈ l
  · rw [if_pos hk]
    refine ⟨n, fun z => ?_⟩
    rw [m z, List.mem_append, List.mem_singleton]
    exact ⟨.inl, fun q => q.elim id fun e => by rw [e]; exact (m k).mp hk⟩
  · rw [if_neg hk]
    refine ⟨List.nodup_cons.mpr ⟨hk, n⟩, fun z => ?_⟩
    rw [List.mem_cons, m z, List.mem_append, List.mem_singleton]
    exact Or.comm
/-- the texts that an iterator hands out, put into the set one by one -/
theorem tset_update {I : Addr} {fp wr : List Addr} {G : Array GenState → Array GenState → Prop} {n : Nat} {Pv : Nat → Value → Prop} {St : Nat → Shared → Prop} {R : Result → Shared → Prop} (W : WalksS P w A.in1 I fp wr G n Pv St) {zs : List Str}
    (out : a ∉ fp) (hn : n = zs.length) (hb : zs.length + 1 < scanBound) (hv : ∀ i v, Pv i v → ∃ z u, zs[i]? = some z ∧ v = .str z u) :
    ∀ (left i : Nat) (s : Shared), i + left = n → St i s → (∃ l, l.length ≤ i ∧ (∀ z, z ∈ l ↔ z ∈ zs.take i) ∧ TSet P w s.heap a l) →
      (∀ s' l, Moved (a :: wr) G s s' → l.length ≤ n → (∀ z, z ∈ l ↔ z ∈ zs) → TSet P w s'.heap a l → R (.ok (.ret .none)) s') → codeAny (model P w) A (.builtin "set.update.loop" ⟨[.ref a, .ref I], []⟩) R s := by
  have free : a ∉ wr := fun q => out (W.sub _ q)
  have wide : ∀ b ∈ wr, b ∈ a :: wr := fun b q => List.mem_cons_of_mem _ q
  intro left
  induction left with
  | zero =>
    rintro i s hi st ⟨l, hl, hm, T⟩ fin
    obtain rfl : i = n := by omega
    refine codeAny_builtin PyProof.Rows.F.entry_set_update_loop ?_
    rw [Around.under_plainId PyProof.Rows.F.plain_set_update_loop _]
    show wpAny _ A.in1 (pyNext (.ref I) >>= _) _ _ s
    refine wpAny_bind (W.done s _ _ st fun s1 mv => ?_)
    show wpAny _ A.in1 (ret Value.none) _ _ s1
    rw [List.take_of_length_le (by omega)] at hm
    exact wpAny_pure (fin s1 l (mv.mono wide) hl hm (T.at fun o e => mv.heap a o free e))
  | succ left ih =>
    rintro i s hi st ⟨l, hl, hm, T⟩ fin
    have lt : i < n := by omega
    refine codeAny_builtin PyProof.Rows.F.entry_set_update_loop ?_
    rw [Around.under_plainId PyProof.Rows.F.plain_set_update_loop _]
    show wpAny _ A.in1 (pyNext (.ref I) >>= _) _ _ s
    refine wpAny_bind (W.item i s _ _ lt st fun v s1 pv st1 mv => ?_)
    obtain ⟨z, u, hz, rfl⟩ := hv i v pv
    have T1 : TSet P w s1.heap a l := T.at fun o e => mv.heap a o free e
    have nd : l.Nodup := by obtain ⟨_, _, _, _, _, q, _⟩ := T1; exact q
    show wpAny _ A.in1 (holding [Value.str z u] (setAdd a (.str z u)) >>= _) _ _ s1
    refine wpAny_bind (wpAny_holding ?_)
    unfold setAdd
    refine wpAny_holding (wpAny_bind ((strKind P w).pyHash (k := z) (is_str _ _) ?_))
    refine tset_put (s := { s1 with toks := s1.toks + 1 }) T1 (by omega) fun b h1 same T2 => ?_
    have hm2 : ∀ x, x ∈ (if z ∈ l then l else z :: l) ↔ x ∈ zs.take (i + 1) := fun x => by
      rw [(tset_put_if nd hm).2 x, List.take_add_one, hz]; rfl
    have hl2 : (if z ∈ l then l else z :: l).length ≤ i + 1 := by
      split
      · omega
      · rw [List.length_cons]; omega
    have kept : ∀ c, c ≠ a → ∀ o, s1.heap.get? c = some o → h1.get? c = some o := fun c hc o e => by rw [same.2 c hc]; exact e
    refine wpAny_pure ⟨plainId_quiet PyProof.Rows.F.plain_set_update_loop _, ih (i + 1) _ (by omega) (W.frame _ s1 _ _ st1 (Nat.le_succ _) fun c hc o e => kept c (fun q => out (q ▸ hc)) o e) ⟨_, hl2, hm2, T2⟩ fun s2 l2 mv2 hl3 hm3 T3 => ?_⟩
    refine fin s2 l2 (Moved.trans W.gtrans ((mv.mono wide).then_heap (Nat.le_succ _) fun c o hc e => kept c (fun q => hc (q ▸ List.mem_cons_self)) o e) mv2) hl3 hm3 T3
end
end BB

set_option maxHeartbeats 4000000
namespace BB
open L2 PySem PySem.Spec PyProof.Rows PySem.Froz
/-! ### set(xs), xs a list of texts -/
abbrev emptySet (w : World) : Obj := { cls := .type "set", dict := none, data := .set #[] 0 (.fresh 0 0 (!w.params.followText "set-order")) }
section
variable {P : Program} {w : World} {A : Around} {E : Value → Shared → Prop} {s : Shared}
/-- what the making leaves -/
def SetMade (P : Program) (w : World) (s : Shared) (zs : List Str) (h' : Heap) : Prop :=
  ∃ m : List Str, TSet P w h' s.heap.objs.size m ∧ (∀ z, z ∈ m ↔ z ∈ zs) ∧ m.length ≤ zs.length ∧ ∀ b o, s.heap.get? b = some o → h'.get? b = some o
/-- the second half: __init__ of the new set -/
theorem set_fill {l : Addr} {items : Array Value} {zs : List Str} {R : Result → Shared → Prop} (hh : A.handled = none) (hl : s.heap.IsList l items) (hv : ∀ (i : Nat) (v : Value), items[i]? = some v → ∃ z u, zs[i]? = some z ∧ v = .str z u) (hn : items.size = zs.length) (hb : zs.length + 1 < scanBound)
    (h : ∀ h' tk, SetMade P w s zs h' → R (.ok (.ret .none)) { s with heap := h', toks := tk }) :
    codeAny (model P w) A (.call (.builtin "set.__init__") ⟨[.ref s.heap.objs.size, .ref l], []⟩) R { s with heap := s.heap.push (emptySet w) } := by
  have new : (s.heap.push (emptySet w)).get? s.heap.objs.size = some (emptySet w) := Heap.get?_push_size _ rfl
  have isSet : Shared.TypeIs { s with heap := s.heap.push (emptySet w) } (.ref s.heap.objs.size) "set" := ⟨_, new, rfl⟩
  refine codeAny_call_builtin F.called_set.init.plain F.entry_set_init (check_set_init_1 isSet ?_)
  obtain ⟨ol, hol, hcl, nl, hdl⟩ := hl
  obtain ⟨ocls, odict, odata, oslots⟩ := ol
  simp only at hcl hdl
  subst hcl; subst hdl
  have there : (s.heap.push (emptySet w)).get? l = some { cls := .type "list", dict := odict, data := .seq items nl, slots := oslots } := Heap.get?_push_of_some _ hol
  have no1 := F.sub_list_set
  have no2 := F.sub_list_frozenset
  have no3 : (Value.type "list" == Value.type "dict") = false := by decide
  have aList : (s.heap.push (emptySet w)).IsList l items := ⟨_, there, rfl, nl, rfl⟩
  unfold Builtin.«set.__init__» noKeywords Builtin.Frozenset.updateFrom
  generalize hPI : pyIter = PI
  wp_walk
  subst hPI
  refine wpAny_pyIter_list aList ?_
  refine wpAny_bind (wpAny_runValue ?_)
  have old : l < s.heap.objs.size := Heap.lt_size hol
  have calm : A.in1.in1.handled = none := by simp [hh]
  have sz : (s.heap.push (emptySet w)).objs.size = s.heap.objs.size + 1 := Heap.size_push ..
  have neI : l ≠ (s.heap.push (emptySet w)).objs.size := by rw [sz]; exact Nat.ne_of_lt (Nat.lt_succ_of_lt old)
  have out : s.heap.objs.size ∉ [(s.heap.push (emptySet w)).objs.size, l] := by
    rw [sz]; simp only [List.mem_cons, List.not_mem_nil, or_false, not_or]; exact ⟨Nat.ne_of_lt (Nat.lt_succ_self _), Nat.ne_of_gt old⟩
  refine tset_update ((Walks.list calm _ l neI items).toS) (a := s.heap.objs.size) out hn hb hv items.size 0 _ (by omega) ⟨⟨_, Heap.get?_push_size _ rfl, rfl, rfl⟩, aList.push _⟩ ⟨[], Nat.le_refl 0, by simp, tset_new (Heap.get?_push_of_some _ new)⟩ fun s1 m mv hm1 hm2 T => ?_
  obtain ⟨h1, g1, d1, tk, os1⟩ := s1
  obtain rfl : g1 = s.gens := mv.gens
  obtain rfl : d1 = s.drawn := mv.drawn
  obtain rfl : os1 = s.os := mv.os
  show wpAny _ _ _ _ _ _
  refine wpAny_pure ?_
  show wpAny _ _ (ret Value.none) _ _ _
  refine wpAny_pure (h _ _ ⟨m, T, hm2, by omega, fun b o e => ?_⟩)
  have lt : b < s.heap.objs.size := Heap.lt_size e
  exact mv.heap b o (by rw [sz]; simp only [List.mem_cons, List.not_mem_nil, or_false, not_or]; exact ⟨Nat.ne_of_lt lt, Nat.ne_of_lt (Nat.lt_succ_of_lt lt)⟩) (Heap.get?_push_of_some _ (Heap.get?_push_of_some _ e))
theorem call_setT {l : Addr} {items : Array Value} {zs : List Str} {Q : Value → Shared → Prop} (hh : A.handled = none) (hl : s.heap.IsList l items) (hv : ∀ (i : Nat) (v : Value), items[i]? = some v → ∃ z u, zs[i]? = some z ∧ v = .str z u) (hn : items.size = zs.length) (hb : zs.length + 1 < scanBound)
    (h : ∀ h' tk, SetMade P w s zs h' → Q (.ref s.heap.objs.size) { s with heap := h', toks := tk }) : wpAny (model P w) A (call (.type "set") [.ref l]) Q E s := by
  obtain ⟨c, tl, hmro⟩ := F.called_set.mro
  have hmade := F.called_set.made
  have hsub := F.called_set.sub
  refine wpAny_call (codeAny_of_tree ?_)
  show wpAny _ _ (callAny (.type "set") _) _ _ _
  refine wpAny_pure ⟨Code.quiet_builtin _ (by decide +kernel), codeAny_builtin F.entry_type_call ?_⟩
  rw [Around.under_plain (weight_type_call_type "set" [.ref l] []) rfl]
  have h1 := F.called_set.notType
  have h2 := F.called_set.canCreate
  have hct := F.typeCall_set_1 (.ref l)
  repeat (any_goals (first | assumption | wp_step))
  refine codeAny_mono (code_set_led1 (.ref l) (E := E) (Q₁ := fun v s1 => v = .ref s.heap.objs.size ∧ s1 = { s with heap := s.heap.push (emptySet w) }) ⟨rfl, rfl⟩) fun r s1 hr => ?_
  match r, hr with
  | .error _, hr => exact hr
  | .ok .next, hr => exact hr.elim
  | .ok .brk, hr => exact hr.elim
  | .ok .cont, hr => exact hr.elim
  | .ok (.ret v), hr =>
    obtain ⟨rfl, rfl⟩ := hr
    have isSet : Shared.TypeIs { s with heap := s.heap.push (emptySet w) } (.ref s.heap.objs.size) "set" := ⟨_, Heap.get?_push_size _ rfl, rfl⟩
    have hli := F.called_set.init.lookup
    have hbi := F.called_set.init.bind (.ref s.heap.objs.size)
    repeat (any_goals (first | assumption | wp_step))
    refine codeAny_mono (set_fill (R := fun r s2 => r = .ok (.ret .none) ∧ ∃ h' tk, SetMade P w s zs h' ∧ s2 = { s with heap := h', toks := tk }) (by simp [hh]) hl hv hn hb fun h' tk m => ⟨rfl, h', tk, m, rfl⟩) fun r s2 hr2 => ?_
    obtain ⟨rfl, h', tk, m, rfl⟩ := hr2
    repeat (any_goals (first | assumption | wp_step))
    exact h _ _ m
end
end BB

set_option maxHeartbeats 4000000
namespace BB
open L2 PySem PySem.Spec PyProof.Rows PySem.Froz
/-! ### sorted(a set of texts) -/
section
variable {P : Program} {w : World} {A : Around} {E : Value → Shared → Prop} {s : Shared} {a : Addr} {m : List Str}
theorem sorted_setT {Q : Value → Shared → Prop} (T : TSet P w s.heap a m) (hh : A.handled = none) (hb : m.length < scanBound) (hz : m.length ≤ sizeLine)
    (h : ∀ s' p (out : Array Value) (c : Nat) (ys : List Str), (∀ b o, s.heap.get? b = some o → s'.heap.get? b = some o) → s'.gens = s.gens → s'.os = s.os → s.heap.objs.size ≤ p → s'.heap.get? p = some (seqObj "list" out c) →
      StrsAre out.toList ys → ys.Perm m → sortedS ys = true → Q (.ref p) s') : wpAny (model P w) A (call (.builtin "sorted") [.ref a]) Q E s := by
  obtain ⟨⟨es, ep, t⟩, ho, F, r, ld, nd, vs, rv, pm⟩ := T
  have hsz : es.size = m.length := F.sz
  refine Calls.call_function_entry kind_sorted plain_sorted entry_sorted (args_sorted1 _) ?_
  unfold Builtin.«sorted»
  refine wpAny_bind (m := checkCount "sorted" 1 1 _) (wpAny_pure ?_)
  refine wpAny_bind (collect_set (A := A.in1) hh ⟨_, ho, rfl, rfl⟩ F.fit (by show es.size < scanBound; omega) r ld fun s1 us k1 grown g1 o1 pu => ?_)
  have pv : us.Perm vs := pu.trans pm
  have str0 : StrsAre vs m := rv.strs
  have str1 : StrsAre us (us.map strOf) := strsAre_map us fun v hv => str0.all v (pv.mem_iff.mp hv)
  have pn : (us.map strOf).Perm m := by
    have q := pv.map strOf
    rw [str0.strs] at q
    exact q
  have hlen : us.length = m.length := by rw [← pn.length_eq, List.length_map]
  refine wpAny_bind (wpAny_newList ?_ (by rw [hlen]; exact hz))
  have at_ : (s1.heap.push (seqObj "list" us.toArray 0)).get? s1.heap.objs.size = some (seqObj "list" us.toArray 0) := Heap.get?_push_size _ rfl
  refine wpAny_bind (wpAny_holding (wpAny_call_entry slot_list_sort ⟨_, at_, rfl⟩ entry_list_sort (list_sort_treeKAny strKind_oneLt at_ str1.keysOf (fun v₁ v₂ rest e => keyKind_strs (by rw [← e]; exact str1)) (by rw [hlen]; exact hz) fun st' hp hs => ⟨_, rfl, ?_⟩) (args_list_sort _)))
  obtain ⟨ys, e1, e2, e3⟩ := sorted_out_str str1 hp hs
  obtain ⟨c, hc⟩ := sortedHeap_at (vs := us) (out := (arrOf st').map (·.2)) at_
  refine wpAny_pure ⟨_, rfl, h _ s1.heap.objs.size _ c ys (fun b u e => ?_) g1 o1 grown hc e1 (e2.trans pn) e3⟩
  have q := k1 b u e
  have lt := Heap.lt_size q
  show (sortedHeap (s1.heap.push (seqObj "list" us.toArray 0)) s1.heap.objs.size us _).get? b = some u
  rw [sortedHeap_old (Nat.ne_of_lt lt) (by rw [Heap.size_push]; exact Nat.lt_succ_of_lt lt)]
  exact Heap.get?_push_of_some _ q
end
/-- the set of the texts m at a -/
def SetO (P : Program) (w : World) (a : Addr) (m : List Str) : HO := .ext fun h => TSet P w h a m
theorem setO_ok {P : Program} {w : World} {H : Hp} {h : Heap} {a : Addr} {m : List Str} (T : TSet P w h a m) : ObjOk P w H h a (SetO P w a m) := ⟨T, let ⟨_, e, _⟩ := T; ⟨_, e⟩, fun _ _ t k => t.at k⟩
section
variable {X : Cx}
def rSetT (X : Cx) : List V → Hp → VK → Prop := fun xs H Q => ∃ (a : Addr) (zs : List Str), xs = [.ref a] ∧ SqL X.K H a (zs.map V.str) ∧ zs.length < 1000 ∧
  ∀ p m, H p = none → m.Nodup → (∀ z, z ∈ m ↔ z ∈ zs) → m.length ≤ zs.length → Q (.ref p) (upd H p (SetO X.prog X.w p m))
theorem call_setR (hc : X.calm = true) : CallR X (.type "set") (rSetT X) := by
  intro pins s σ H vs us Q I r h
  obtain ⟨a, zs, rfl, hs, hl0, q⟩ := h
  obtain ⟨its, rv, hl, _⟩ := I.list hs
  rw [Vals.ref1 r]
  have hn : its.toArray.size = zs.length := by rw [List.size_toArray, ← rv.length, List.length_map]
  have hv : ∀ (i : Nat) (v : Value), its.toArray[i]? = some v → ∃ z u, zs[i]? = some z ∧ v = .str z u := fun i v e => by
    rw [List.getElem?_toArray] at e
    have lt : i < zs.length := by
      have := (List.getElem?_eq_some_iff.mp e).1
      rw [List.size_toArray] at hn; omega
    obtain ⟨u, e2, r2⟩ := rv.get (i := i) (x := .str zs[i]) (by rw [List.getElem?_map, List.getElem?_eq_getElem lt]; rfl)
    rw [e] at e2
    cases e2
    obtain ⟨t, rfl⟩ := r2
    exact ⟨zs[i], t, List.getElem?_eq_getElem lt, rfl⟩
  refine call_setT (I.ok.hd hc) hl.isList hv hn (by unfold scanBound; omega) fun h' tk ⟨m, T, hm, hlen, k⟩ => ?_
  have nd : m.Nodup := by obtain ⟨_, _, _, _, _, q, _⟩ := T; exact q
  exact ⟨.ref _, _, I.laid (t' := tk) k (Nat.le_refl _) (setO_ok T), rfl, q _ m (I.hok.fresh (Nat.le_refl _)) nd hm hlen⟩
def rSortT (X : Cx) : List V → Hp → VK → Prop := fun xs H Q => ∃ (p : Addr) (m : List Str), xs = [.ref p] ∧ H p = some (SetO X.prog X.w p m) ∧ m.length < 1000 ∧
  ∀ ys q, ys.Perm m → sortedS ys = true → H q = none → Q (.ref q) (upd H q (.lst (ys.map V.str)))
theorem call_sortT (hc : X.calm = true) : CallR X (.builtin "sorted") (rSortT X) := by
  intro pins s σ H vs us Q I r h
  obtain ⟨p, m, rfl, hp, hl, q⟩ := h
  rw [Vals.ref1 r]
  obtain ⟨T, _⟩ := I.hok p _ hp
  refine sorted_setT T (I.ok.hd hc) (by unfold scanBound; omega) (by rw [sizeLine_eq]; omega) fun s' p' out c ys k g o hp' e h1 h2 h3 => ?_
  have hlen : (ys.map V.str).length ≤ sizeLine := by rw [List.length_map, h2.length_eq, sizeLine_eq]; omega
  have J := I.laid (t' := s'.toks) (o := .lst (ys.map V.str)) k hp' ⟨hlen, out.toList, c, vals_of_strs h1, e⟩
  have bare : AllBare s'.gens := by rw [g]; exact I.bare
  exact ⟨.ref p', _, ⟨J.ok, o.trans I.os, bare, J.base, J.loc, J.cell, J.free, J.freeC, J.pin, J.hok, J.len⟩, rfl, q ys p' h2 h3 (I.hok.fresh hp')⟩
end
end BB

set_option maxHeartbeats 4000000
namespace BB
open L2 PySem PySem.Spec PyProof.Rows PySem.Froz
/-! ### sorted(set(xs)), xs a list of texts, over data -/
section
variable {X : Cx} {Δ : DC} {e : Expr} {te : TE} {de : DE} {p1 p2 q1 q2 : Pos}
def tSetL (X : Cx) (te : TE) : TE := tCB (rSortT X) (tCons (tCB (rSetT X) (tCons te tNil)) tNil)
def dSortSet (de : DE) : DE := fun env M Q => de env M fun x M1 => ∃ xs : List Str, lstOf M1 x = some (xs.map D.str) ∧ xs.length < 1000 ∧ ∀ ys : List Str, ys.Nodup → (∀ z, z ∈ ys ↔ z ∈ xs) → sortedS ys = true → Q (.lst (ys.map D.str)) M1
theorem pd_sortSet (hc : X.calm = true) (g1 : Gl X "sorted") (m1 : X.mg "sorted" = none) (b1 : bootBuiltins "sorted" = some (.builtin "sorted")) (g2 : Gl X "set") (m2 : X.mg "set" = none) (b2 : bootBuiltins "set" = some (.type "set")) (ha : PDe X Δ e te de)
    (he : starEach [e] X.env = (false, eval e X.env) :: starEach [] X.env := by rfl)
    (he2 : starEach [.Call (.Name "set" p2) [e] [] q2] X.env = (false, eval (.Call (.Name "set" p2) [e] [] q2) X.env) :: starEach [] X.env := by rfl)
    (h1 : (backTo q2 (starEach [] X.env)).any (·.1) = false := by rfl) (h2 : (backTo q1 (starEach [] X.env)).any (·.1) = false := by rfl) :
    PDe X Δ (.Call (.Name "sorted" p1) [.Call (.Name "set" p2) [e] [] q2] [] q1) (tSetL X te) (dSortSet de) := by
  have inner : PE X (.Call (.Name "set" p2) [e] [] q2) (tCB (rSetT X) (tCons te tNil)) := pe_callTy (call_setR hc) g2 m2 b2 (pa_cons ha.1 pa_nil he) (by decide) (by decide) he h1
  refine ⟨pe_callB (call_sortT hc) g1 m1 b1 (pa_cons inner pa_nil he2) (by decide) (by decide) he2 h2, fun I M H σ env G Q Qd k q => ?_⟩
  refine ha.2 I M H σ env G _ _ (fun d M1 I1 H1 v x1 G1 r1 q1 => ?_) q
  obtain ⟨xs, ex, hl, q1⟩ := q1
  obtain ⟨a, us, rfl, h3, h4⟩ := lst_of G1.at_ r1 ex
  have e := h4.strs
  subst e
  refine ⟨a, xs, rfl, .inl (.inl h3), hl, fun p m hp nd hm hlen => ⟨p, m, rfl, upd_same, by omega, fun ys r hpm hs hr => ?_⟩⟩
  have hrp : r ≠ p := fun z => by rw [z, upd_same] at hr; cases hr
  have hr1 : H1 r = none := by rw [upd_ne hrp] at hr; exact hr
  have x2 : Ext I1 (upd I1 r (.lst (ys.map V.str))) := Ext.new (G1.at_.freeI hr1)
  refine k _ M1 _ _ (.ref r) (x1.trans x2) (G1.go x2 ((G1.at_.newI hr1 (.lst (ys.map V.str))).same fun b u hb => ?_)) (.lst upd_same (Rps.ofStrs ys)) (q1 ys (hpm.nodup_iff.mpr nd) (fun z => by rw [hpm.mem_iff, hm]) hs)
  by_cases e1 : b = r
  · subst e1
    rw [upd_same] at hb ⊢; exact hb
  · rw [upd_ne e1] at hb ⊢
    have : b ≠ p := fun z => by rw [z, hp] at hb; cases hb
    rw [upd_ne this]; exact hb
end
end BB

set_option maxHeartbeats 4000000
namespace BB
open L2 PySem PySem.Spec PyProof.Rows
/-! ### xs.remove(z): a list of texts of the store -/
def isT (z : Str) : Value → Bool
  | .str y _ => y == z
  | _ => false
theorem texts_get : ∀ {zs : List Str} {us : List Value}, Vals (zs.map V.str) us → ∀ (i : Nat) (y : Str), zs[i]? = some y → ∃ t, us[i]? = some (.str y t) := fun r i y h => by
  obtain ⟨u, e, t, rfl⟩ := r.get (i := i) (x := .str y) (by rw [List.getElem?_map, h]; rfl)
  exact ⟨t, e⟩
theorem erase_texts : ∀ (l : List Str) (j : Nat), (l.map V.str).eraseIdx j = (l.eraseIdx j).map V.str
  | [], _ => rfl
  | _ :: _, 0 => rfl
  | x :: r, j + 1 => congrArg (V.str x :: ·) (erase_texts r j)
def rRemT : V → List V → Hp → VK → Prop := fun x xs H Q => ∃ (l : Addr) (zs : List Str) (z : Str) (j : Nat), x = .ref l ∧ xs = [.str z] ∧ H l = some (.lst (zs.map V.str)) ∧ zs[j]? = some z ∧ (∀ m : Nat, m < j → zs[m]? ≠ some z) ∧ Q .non (upd H l (.lst ((zs.eraseIdx j).map V.str)))
section
variable {X : Cx}
theorem mt_removeT : MtM X "list.remove" rRemT := by
  intro pins s σ H x xs v us Q I rx rxs h
  obtain ⟨l, zs, z, j, rfl, rfl, hH, hj, hno, q⟩ := h
  cases rx
  obtain ⟨u, rfl, t, rfl⟩ := rxs.one
  obtain ⟨hz, its, n, r, hl, e⟩ := I.lstM hH
  have hlen : its.length = zs.length := by rw [← r.length, List.length_map]
  have hjn : j < zs.length := (List.getElem?_eq_some_iff.mp hj).1
  have item : ∀ m (hm : m < its.toArray.size), ∃ y tm, zs[m]? = some y ∧ its.toArray[m] = .str y tm := fun m hm => by
    have hmz : m < zs.length := by rw [List.size_toArray] at hm; omega
    obtain ⟨tm, em⟩ := texts_get r m _ (List.getElem?_eq_getElem hmz)
    exact ⟨zs[m], tm, List.getElem?_eq_getElem hmz, by simpa using (List.getElem?_eq_some_iff.mp em).2⟩
  have gives : ∀ y ∈ its.toArray, MeetsSeq.EqGives y (.str z t) (isT z y) := fun y hy => by
    obtain ⟨m, hm, rfl⟩ := Array.mem_iff_getElem.mp hy
    obtain ⟨w, tm, _, ew⟩ := item m hm
    rw [ew]
    exact eqGives_str w z tm t
  have hjs : j < its.toArray.size := by rw [List.size_toArray]; omega
  refine call_meets PySem.F.slot_list_remove ⟨_, e, rfl⟩ PySem.F.entry_list_remove (PySem.F.args_list_remove_2 _ _) (MeetsSeq.list_remove l its.toArray n (.str z t) (isT z) gives j hjs ?_ ?_ (by rw [List.size_toArray]; rw [List.length_map] at hz; omega)) ⟨e, ?_⟩
  · obtain ⟨y, tm, h1, h2⟩ := item j hjs
    rw [hj] at h1
    cases h1
    rw [h2]
    exact beq_self_eq_true z
  · intro m hm hmj
    obtain ⟨y, tm, h1, h2⟩ := item m hm
    rw [h2]
    exact beq_eq_false_iff_ne.mpr fun e2 => hno m hmj (e2 ▸ h1)
  · have rr := r.eraseIdx j
    rw [erase_texts] at rr
    refine ⟨.non, _, I.lset (its' := its.eraseIdx j) (t' := s.toks) hH e ?_ rr ?_, rfl, q⟩
    · show its.toArray.eraseIdxIfInBounds j = (its.eraseIdx j).toArray
      rw [List.eraseIdxIfInBounds_toArray]
    · have h2 := len_erase zs j
      rw [List.length_map] at hz ⊢
      omega
end
section
variable {X : Cx} {Δ : DC} {e o : Expr} {da de : DE} {apos cpos : Pos} {to te : TE}
def dRemT (da de : DE) : DE := fun env M Q => da env M fun x M1 => ∃ q xs0, x = .ref q ∧ M1 q = some (.lst xs0) ∧ de env M1 fun y M2 => ∃ (zs : List Str) (z : Str) (j : Nat), M2 q = some (.lst (zs.map D.str)) ∧ y = .str z ∧ zs[j]? = some z ∧ (∀ m : Nat, m < j → zs[m]? ≠ some z) ∧ Q .non (mset M2 q (.lst ((zs.eraseIdx j).map D.str)))
theorem pd_remT (ho : PDe X Δ o to da) (ha : PDe X Δ e te de)
    (walk : PE X o to → PE X e te → PE X (.Call (.Attribute o "remove" apos) [e] [] cpos) (tBM X.K "list" rRemT to (tCons te tNil)) := by exact fun a b => pe_bm PySem.F.plainAttrs_list PySem.F.slot_list_remove PySem.F.type_list_remove mt_removeT a (pa_cons b pa_nil)) :
    PDe X Δ (.Call (.Attribute o "remove" apos) [e] [] cpos) (tBM X.K "list" rRemT to (tCons te tNil)) (dRemT da de) :=
  ⟨walk ho.1 ha.1, fun I M H σ env G Q Qd k q => ho.2 I M H σ env G _ _ (fun x M1 I1 H1 v x1 G1 r1 q1 => by
    obtain ⟨p, xs0, e1, m1, q1⟩ := q1
    subst e1
    rw [r1.ref_inv]
    obtain ⟨_, vs0, h0, _⟩ := G1.at_.mem _ _ m1
    refine ⟨.inl ⟨rfl, vs0, .inl (.inl h0)⟩, ha.2 I1 M1 H1 σ env G1 _ _ (fun d M2 I2 H2 u x2 G2 r2 q2 => ?_) q1⟩
    obtain ⟨zs, z, j, m2, ey, hj, hno, q2⟩ := q2
    subst ey
    obtain ⟨_, vs, h2, rs⟩ := G2.at_.mem _ _ m2
    have ev := rs.strs
    subst ev
    rw [r2.str_inv]
    exact ⟨p, zs, z, j, rfl, rfl, h2, hj, hno, k _ _ _ _ _ (x1.trans x2) (G2.go (Ext.refl I2) (G2.at_.write (m' := .lst ((zs.eraseIdx j).map D.str)) m2 (fun _ z => by cases z) ⟨_, upd_same, Rps.ofStrs _⟩)) .non q2⟩) q⟩
end
end BB

set_option maxHeartbeats 4000000
namespace BB
open L2 PySem PySem.Spec PyProof.Rows PySem.Froz
/-! ### sorted(set(xs)) as a list of the store -/
section
variable {X : Cx} {Δ : DC} {e : Expr} {te : TE} {de : DE} {p1 p2 q1 q2 : Pos}
def dSortSetM (de : DE) : DE := fun env M Q => de env M fun x M1 => ∃ xs : List Str, lstOf M1 x = some (xs.map D.str) ∧ xs.length < 1000 ∧ ∀ ys : List Str, ys.Nodup → (∀ z, z ∈ ys ↔ z ∈ xs) → sortedS ys = true → ∀ p, M1 p = none → Q (.ref p) (mset M1 p (.lst (ys.map D.str)))
theorem pd_sortSetM (hc : X.calm = true) (g1 : Gl X "sorted") (m1 : X.mg "sorted" = none) (b1 : bootBuiltins "sorted" = some (.builtin "sorted")) (g2 : Gl X "set") (m2 : X.mg "set" = none) (b2 : bootBuiltins "set" = some (.type "set")) (ha : PDe X Δ e te de)
    (he : starEach [e] X.env = (false, eval e X.env) :: starEach [] X.env := by rfl)
    (he2 : starEach [.Call (.Name "set" p2) [e] [] q2] X.env = (false, eval (.Call (.Name "set" p2) [e] [] q2) X.env) :: starEach [] X.env := by rfl)
    (h1 : (backTo q2 (starEach [] X.env)).any (·.1) = false := by rfl) (h2 : (backTo q1 (starEach [] X.env)).any (·.1) = false := by rfl) :
    PDe X Δ (.Call (.Name "sorted" p1) [.Call (.Name "set" p2) [e] [] q2] [] q1) (tSetL X te) (dSortSetM de) := by
  have inner : PE X (.Call (.Name "set" p2) [e] [] q2) (tCB (rSetT X) (tCons te tNil)) := pe_callTy (call_setR hc) g2 m2 b2 (pa_cons ha.1 pa_nil he) (by decide) (by decide) he h1
  refine ⟨pe_callB (call_sortT hc) g1 m1 b1 (pa_cons inner pa_nil he2) (by decide) (by decide) he2 h2, fun I M H σ env G Q Qd k q => ?_⟩
  refine ha.2 I M H σ env G _ _ (fun d M1 I1 H1 v x1 G1 r1 q1 => ?_) q
  obtain ⟨xs, ex, hl, q1⟩ := q1
  obtain ⟨a, us, rfl, h3, h4⟩ := lst_of G1.at_ r1 ex
  have e := h4.strs
  subst e
  refine ⟨a, xs, rfl, .inl (.inl h3), hl, fun p m hp nd hm hlen => ⟨p, m, rfl, upd_same, by omega, fun ys r hpm hs hr => ?_⟩⟩
  have hrp : r ≠ p := fun z => by rw [z, upd_same] at hr; cases hr
  have hr1 : H1 r = none := by rw [upd_ne hrp] at hr; exact hr
  have G2 : Gd X.K Δ I1 M1 (upd H1 p (SetO X.prog X.w p m)) σ env := G1.go (Ext.refl I1) (G1.at_.same fun b u hb => by
    have : b ≠ p := fun z => by rw [z, hp] at hb; cases hb
    rw [upd_ne this]; exact hb)
  exact k _ _ _ _ _ x1 (G2.newM hr (.lst (ys.map V.str)) (.lst (ys.map D.str)) ⟨_, upd_same, Rps.ofStrs ys⟩) (.ref r) (q1 ys (hpm.nodup_iff.mpr nd) (fun z => by rw [hpm.mem_iff, hm]) hs r (G1.at_.freeM hr1))
end
end BB

set_option maxHeartbeats 4000000
namespace BB
open L2 PySem PySem.Spec PyProof.Rows
/-! ### len(d), d a dict of the store whose keys are tuples -/
def rdLenT : RDC := fun ds M Q => ∃ p kvs, ds = [.ref p] ∧ M p = some (.dT kvs) ∧ Q (.int kvs.length) M
theorem snd_lenT {X : Cx} : SndC X rLenT rdLenT := by
  intro Δ I M H σ env G vs ds r Q Qd k ⟨p, kvs, e, hm, q⟩
  subst e
  obtain ⟨v, rfl, rv⟩ := r.one_inv
  obtain ⟨_, kv, h1, h2⟩ := G.at_.mem _ _ hm
  rw [rv.ref_inv]
  refine ⟨p, kv, rfl, h1, ?_⟩
  rw [h2.len]
  exact k _ _ _ _ _ (Ext.refl I) G (.int _) q
end BB

set_option maxHeartbeats 4000000
namespace BB
open L2 PySem PySem.Spec PyProof.Rows
/-! ### a lambda without parameters is made -/
/-- how the heap stands behind it: as ahead, or with one code object more, told in the table -/
def Made (H H1 : Hp) (P c' : Addr) (q : Str) (ps : Array Value) : Prop :=
  (H1 = H ∧ ∃ pos, codeAmong pos ps.toList = some (.ref c')) ∨
  (H c' = none ∧ ∃ qs : Array Value, H1 = upd (upd H P (.tbl qs)) c' (LamX.CodeO c' q) ∧ TriplesOk qs.toList ∧ ∀ pos cv, codeAmong pos qs.toList = some cv → codeAmong pos ps.toList = some cv ∨ cv = .ref c')
/-- the function at f: made here of the lambda, tracked by nobody, no frame's -/
structure Fn0 (X : Cx) (s : Shared) (H : Hp) (params : Arguments) (body : Expr) (scope : Scope) (f c' : Addr) : Prop where
  obj : ∃ pm ctv, s.heap.get? f = some (PySem.W.kla_obj "<lambda>" (X.env.qual ++ "<lambda>") params body scope (cloFrom X.env.cells scope.names []) pm c' ctv)
  un : H f = none
  fr : f ∉ frs X.stack
section
variable {X : Cx} {pins : List (Addr × Obj)} {σ : L2.St} {H : Hp} {s : Shared} {c P : Addr} {params : Arguments} {body : Expr} {scope : Scope} {pos : Pos} {ps : Array Value}
theorem no_frame (I : Inv X pins σ H s) {f : Addr} (h : s.heap.objs.size ≤ f) : f ∉ frs X.stack := by
  intro z
  rcases List.mem_cons.mp (I.stkSub _ z) with e | e
  · have lt := I.lt
    rw [← e] at lt
    exact absurd lt (Nat.not_lt_of_le h)
  · exact I.nofs h e
theorem lam_at {E : Value → Shared → Prop} {Q : Value → Shared → Prop} (I : Inv X pins σ H s) (TB : LamX.TabB X.base X.mg c P) (code : X.env.code = .ref c) (tab : H P = some (.tbl ps)) (tri : TriplesOk ps.toList)
    (known : ∀ pos cv, codeAmong pos ps.toList = some cv → ∃ c, cv = .ref c) (nodef : defaultsOf params X.env = ([], [])) (has : ∀ y ∈ scope.names, y.2 = .free → ∃ c, X.env.cells.lookup y.1 = some c)
    (go : ∀ f c' H1 s1, Inv X pins σ H1 s1 → Made H H1 P c' (X.env.qual ++ "<lambda>") ps → Fn0 X s1 H1 params body scope f c' → Q (.ref f) s1) : wpAny (model X.prog X.w) X.A (eval (.Lambda params body scope pos) X.env) Q E s := by
  have there : s.heap.get? P = some { cls := .none, data := .fields ps } := I.hok _ _ tab
  refine PySem.W.kla_eval nodef ?_
  rcases hit : codeAmong pos ps.toList with _ | cv
  · refine PySem.W.kla_makeFunction (mg := X.mg) (c := c) (P := P) (ps := ps) (closure_ok has) I.ok.glob (I.mod.glob.keeps I.bk) code (TB.code.keeps I.bk) there tri hit TB.gP (TB.bm.keeps I.bk) ?_
    rintro c' ctv g tk keep big less ⟨_, oc, vs, t, ⟨⟩, atc, isF, named⟩ tabled
    have size : s.heap.objs.size ≤ g.objs.size := by omega
    have noC : H c' = none := I.hok.fresh big
    let g2 := g.push (PySem.W.kla_obj "<lambda>" (X.env.qual ++ "<lambda>") params body scope (cloFrom X.env.cells scope.names []) ((X.mg "__name__").getD .none) c' ctv)
    have J := LamX.inv_table (t' := tk) (h' := g2) (more := #[rawInt pos.line, rawInt pos.col, .ref c']) I tab (fun b o ne e => Heap.get?_push_of_some _ (keep b o ne e)) (Heap.get?_push_of_some _ tabled) big ⟨oc, vs, t, Heap.get?_push_of_some _ atc, isF, named⟩
    have eqL : (ps ++ #[rawInt pos.line, rawInt pos.col, .ref c']).toList = ps.toList ++ [rawInt pos.line, rawInt pos.col, .ref c'] := by simp
    refine go g.objs.size c' _ _ J (.inr ⟨noC, _, rfl, by rw [eqL]; exact PySem.TriplesOk_snoc _ _ _ _ tri, fun p' cv hc => ?_⟩) ⟨⟨_, ctv, Heap.get?_push_size _ rfl⟩, ?_, no_frame I size⟩
    · rw [eqL] at hc
      exact LamX.among_app _ tri hc
    · have gP : g.objs.size ≠ P := Nat.ne_of_gt (Nat.lt_of_lt_of_le (Heap.lt_size there) size)
      rw [upd_ne (Nat.ne_of_gt less), upd_ne gP]
      exact I.hok.fresh size
  · obtain ⟨c', rfl⟩ := known _ _ hit
    refine PySem.W.kla_makeFunctionHit (mg := X.mg) (c := c) (P := P) (ps := ps) (closure_ok has) I.ok.glob (I.mod.glob.keeps I.bk) code (TB.code.keeps I.bk) there tri hit (TB.bm.keeps I.bk) ?_
    intro ctv g tk keep size
    exact go g.objs.size c' H _ (I.kept fun b o e => Heap.get?_push_of_some _ (keep b o e)) (.inl ⟨rfl, _, hit⟩) ⟨⟨_, ctv, Heap.get?_push_size _ rfl⟩, I.hok.fresh size, no_frame I size⟩
end
/-- the store behind it is as ahead; the code object is fixed -/
theorem At.made {K : PySem.W.Frag} {F I H H1 : Hp} {M : Mem} {P c' : Addr} {q : Str} {ps : Array Value} (A : At K F I M H) (hP : M P = some (.tab q)) (hH : H P = some (.tbl ps)) (known : ∀ pos cv, codeAmong pos ps.toList = some cv → ∃ c, cv = .ref c ∧ I c = some (LamX.CodeO c q))
    (m : Made H H1 P c' q ps) : ∃ J, Ext I J ∧ At K F J M H1 ∧ J c' = some (LamX.CodeO c' q) := by
  rcases m with ⟨rfl, pos, hc⟩ | ⟨noC, qs, rfl, tri, old⟩
  · obtain ⟨c, e, h⟩ := known pos _ hc
    cases e
    exact ⟨I, Ext.refl I, A, h⟩
  · have ne : c' ≠ P := fun z => by rw [z, hH] at noC; cases noC
    have x : Ext I (upd I c' (LamX.CodeO c' q)) := Ext.new (A.freeI noC)
    have A1 := A.newI noC (LamX.CodeO c' q)
    have A2 := A1.write (m' := .tab q) (o := .tbl qs) hP (fun _ z => by cases z) ⟨qs, upd_same, tri, fun pos cv hc => by
      rcases old pos cv hc with h | h
      · obtain ⟨c, e, hI⟩ := known pos cv h
        exact ⟨c, e, by rw [upd_ne (fun z => by rw [z, A.freeI noC] at hI; cases hI)]; exact hI⟩
      · exact ⟨c', h, upd_same⟩⟩
    have eM : mset M P (.tab q) = M := by
      funext b
      by_cases hb : b = P
      · rw [hb, mset_same, hP]
      · rw [mset_ne hb]
    have eH : upd (upd H c' (LamX.CodeO c' q)) P (.tbl qs) = upd (upd H P (.tbl qs)) c' (LamX.CodeO c' q) := by
      funext b
      by_cases h1 : b = P
      · rw [h1, upd_same, upd_ne ne.symm, upd_same]
      · by_cases h2 : b = c'
        · rw [h2, upd_ne ne, upd_same, upd_same]
        · rw [upd_ne h1, upd_ne h2, upd_ne h2, upd_ne h1]
    rw [eM, eH] at A2
    exact ⟨_, x, A2, upd_same⟩
end BB

set_option maxHeartbeats 4000000
namespace BB
open L2 PySem PySem.Spec PyProof.Rows
/-! ### the lambda is called, in the def that got it -/
/-- that def's context, entered from X's -/
abbrev takCx (X : Cx) (N : List Str) (q : Str) (sc : Scope) (g : Addr) (cd : Value) (s : Shared) (H : Hp) (E : XK) : Cx := cxOf (L2.CX X.prog X.w) X.prog X.w X.K X.mg X.base N q sc g cd X.A X.stack s H E
/-- how no argument binds -/
abbrev NoArgs (params : Arguments) (body : Expr) (scope : Scope) : Prop := ∀ (q : Str) (cl : List (Str × Addr)) (pm cv ctv : Value), bindArgs (PySem.W.kla_fn "<lambda>" q params body scope cl pm cv ctv) ⟨[], []⟩ = pure []
section
variable {X : Cx} {pins : List (Addr × Obj)} {σ : L2.St} {H : Hp} {s : Shared} {params : Arguments} {body : Expr} {scope : Scope} {f c' g : Addr} {N : List Str} {q : Str} {sc : Scope} {cd : Value} {Eg : XK} {pn : List (Addr × Obj)} {xe : Value → Shared → Prop} {W : WX} {k : Nat} {a : Str} {p1 p2 : Pos}
theorem pe_act (I : Inv X pins σ H s) (L : LamX.LamS X.env.scope scope) (fn : Fn0 X s H params body scope f c') (bind : NoArgs params body scope) (hr : Room (k + 1) (X.A.deeper (envOfC q sc s.heap.objs.size g cd)))
    (tk : Takes ((takCx X N q sc g cd s H Eg).tr pn xe) W) (first : N[0]? = some a) (vis : Vis sc a) (own : OwnName a) (own2 : (a == ("__classdict__" : Str)) = false) :
    PE ((takCx X N q sc g cd s H Eg).tr pn xe) (.Call (.Name a p1) [] [] p2) (fun τ G Q => τ[0]? = some (some (.ref f)) ∧ G c' = some (LamX.CodeO c' (X.env.qual ++ "<lambda>")) ∧
      ∀ (A : Around) (outer : List PySem.Env) (s2 : Shared), Room k (A.deeper (LamX.lamEnv X scope s2.heap.objs.size f c')) → ∃ t, PE (LamX.lamCx X A outer s2 G (WE W τ) scope f c') body t ∧ t σ G Q) where
  run := fun pinsZ sZ τ G Q Z ⟨isF, isC, go⟩ => by
    refine wpAny_Call_Name_kw (thn ((pe_var (pos := p1) (i := 0) first vis own own2).run pinsZ sZ τ G (fun v G1 => v = .ref f ∧ G1 = G) Z ⟨.ref f, isF, rfl, rfl⟩) ?_)
    rintro u s1 ⟨v, G1, I1, same, rfl, rfl⟩
    cases same
    obtain ⟨pm, ctv, was⟩ := fn.obj
    have un : Un (frs X.stack) [] H G1 s.heap s1.heap := I1.base
    have now := un.keep f _ was fn.un fn.fr (List.not_mem_nil)
    obtain ⟨⟨oc, vs, t, atc, isFs, named⟩, _⟩ := I1.hok c' _ isC
    refine PySem.W.callWith_F0 ⟨_, _, _, _, now⟩ (wpAny_call ?_)
    refine codeAny_mono (R := CR (L2.CX X.prog X.w) ((takCx X N q sc g cd s H Eg).tr pn xe).stack X.prog X.w G1 s1 Q (WE W τ)) ?_ (at_end (passAt tk τ) I1 fun _ _ z => z)
    refine PySem.W.kla_callFunE hr.depth now rfl L.co L.gen rfl ⟨c', oc, vs, t, rfl, atc, isFs, named⟩ ?_
    show wpAny _ _ (bindArgs _ ⟨[], []⟩) _ _ _
    rw [bind]
    refine wpAny_pure (wpAny_newFunctionEnv (fun y hy => (L.own y hy).2) (fun y hy => nomatch hy) (fun h₁ ns ext => ⟨I1.nolimit.fresh _ ext, ?_⟩) L.kind)
    have kp : ∀ b o, s1.heap.get? b = some o → h₁.get? b = some o := fun b o e => ext.extBut b o (Nat.ne_of_lt (Heap.lt_size e)) (Heap.get?_push_of_some _ e)
    obtain ⟨tt, pe, holds⟩ := go (X.A.deeper (envOfC q sc s.heap.objs.size g cd)) ((takCx X N q sc g cd s H Eg).tr pn xe).stack s1 (hr.deeper _)
    have J := fun tk => LamX.lam_start2 (f := f) (c' := c') (E := WE W τ) (tk := tk) I L I1.env0 hr.hd un ns kp
    refine PySem.W.kla_codeExpr (wpAny_mono (pe.run [] _ _ G1 Q (J _) holds) (fun w s' hq => ?_) fun _ _ hq => hq)
    obtain ⟨w', H', K, rv, yes⟩ := hq
    exact ⟨w', H', K.os, K.bare, K.base, K.hok, rv, yes⟩
end
end BB

set_option maxHeartbeats 4000000
namespace BB
open L2 PySem PySem.Spec PyProof.Rows
/-! ### a lambda handed to a def, over data -/
/-- what a lambda's body tells, called at a store: what may be let out, what is handed back -/
abbrev ThkD := DX → Mem → DKt → Prop
/-- a(), a the parameter that is the lambda at f -/
def dAct (f : Addr) (tl : ThkD) (Wd : DW) : DE := fun env M Q => env[0]? = some (some (.ref f)) ∧ tl (fun c fs M' => Wd c fs env M') M Q
/-- in the def that got it: what a() reads as, from I0 on -/
def ActOk (X : Cx) (a : Str) (I0 : Hp) (f : Addr) (tl : ThkD) : Prop := ∀ (pn : List (Addr × Obj)) (xe : Value → Shared → Prop) (Δ : DC) (p1 p2 : Pos), Ext I0 Δ.I0 → XOk (X.tr pn xe) Δ → ∃ t, PDe (X.tr pn xe) Δ (.Call (.Name a p1) [] [] p2) t (dAct f tl Δ.Wd)
/-- the lambda's body, wherever it is run -/
def LamOk (X : Cx) (scope : Scope) (body : Expr) (f c' : Addr) (k : Nat) (db : DW → DE) : Prop := ∀ (A : Around) (outer : List PySem.Env) (s : Shared) (H : Hp) (E : XK) (Δ : DC), Room k (A.deeper (LamX.lamEnv X scope s.heap.objs.size f c')) → Δ.W = (fun cls d _ H => E cls d H) → XOk (LamX.lamCx X A outer s H E scope f c') Δ →
  ∃ t, PDe (LamX.lamCx X A outer s H E scope f c') Δ body t (db Δ.Wd)
abbrev thk (db : DW → DE) (env : Env) : ThkD := fun Ed M Q => db (fun c fs _ M' => Ed c fs M') env M Q
theorem Ext.code {I J : Hp} (x : Ext I J) {c : Addr} {q : Str} (h : I c = some (LamX.CodeO c q)) : J c = some (LamX.CodeO c q) := by
  obtain ⟨o, h1, e⟩ := x.1 c _ h
  rw [h1]
  exact congrArg some (strip_ext e)
section
variable {X : Cx} {pins : List (Addr × Obj)} {σ : L2.St} {H : Hp} {s : Shared} {params : Arguments} {body : Expr} {scope : Scope} {f c' g : Addr} {N : List Str} {q : Str} {sc : Scope} {cd : Value} {Eg : XK} {k : Nat} {a : Str} {I0 : Hp} {env : Env} {db : DW → DE}
theorem act_ok (I : Inv X pins σ H s) (L : LamX.LamS X.env.scope scope) (fn : Fn0 X s H params body scope f c') (bind : NoArgs params body scope) (hr : Room (k + 1) (X.A.deeper (envOfC q sc s.heap.objs.size g cd)))
    (first : N[0]? = some a) (vis : Vis sc a) (own : OwnName a) (own2 : (a == ("__classdict__" : Str)) = false) (isC : I0 c' = some (LamX.CodeO c' (X.env.qual ++ "<lambda>"))) (R : EnvR X.K I0 σ env) (hb : LamOk X scope body f c' k db) :
    ActOk (takCx X N q sc g cd s H Eg) a I0 f (thk db env) := by
  intro pn xe Δ p1 p2 x0 xo
  refine ⟨fun τ G Q => ∃ J M env' Qd, Gd X.K Δ J M G τ env' ∧ dAct f (thk db env) Δ.Wd env' M Qd ∧ ∀ d M' J' G' v, Ext J J' → Gd X.K Δ J' M' G' τ env' → Rp X.K J' v d → Qd d M' → Q v G', ⟨?_⟩, fun J M G τ env' Gg Q Qd k q => ⟨J, M, env', Qd, Gg, q, k⟩⟩
  rintro pinsZ sZ τ G Q Z ⟨J, M, env', Qd, Gg, ⟨e0, told⟩, back⟩
  obtain ⟨v, h1, rv⟩ := Gg.env.get 0 _ e0
  cases rv.ref_inv
  have x1 : Ext I0 J := x0.trans Gg.base
  refine (pe_act (p1 := p1) (p2 := p2) I L fn bind hr xo.takes first vis own own2).run pinsZ sZ τ G Q Z ⟨h1, Gg.at_.ex _ _ (x1.code isC), fun A outer s2 hk => ?_⟩
  obtain ⟨t, pe, sn⟩ := hb A outer s2 G (WE Δ.W τ) { F := Δ.F, I0 := J, W := fun cls d _ H => Δ.W cls d τ H, Wd := fun c fs _ M' => Δ.Wd c fs env' M' } hk rfl
    ⟨takes_of rfl rfl rfl rfl, fun {J2 M2 H2 σ2 env2 c fs d} G2 er w => xo.link (I := J2) (M := M2) (H := H2) (σ := τ) (env := env') ⟨Gg.base.trans G2.base, G2.at_, Gg.env.ext G2.base⟩ er w⟩
  refine ⟨t, pe, sn J M G σ env ⟨Ext.refl J, Gg.at_, R.ext x1⟩ Q Qd (fun d M' J' G' v x g r qd => ?_) told⟩
  exact back d M' J' G' v x ⟨Gg.base.trans x, g.at_, Gg.env.ext x⟩ r qd
end
/-- a def that gets a lambda keeps its promise -/
def TakOk (P : Program) (w : World) (K : PySem.W.Frag) (mg : Str → Option Value) (base : Heap) (k : Nat) (g : Addr) (a : Str) (spT : Addr → ThkD → Mem → DKt → DX → Prop) : Prop :=
  ∃ (N : List Str) (q : Str) (sc : Scope) (cd : Value), N[0]? = some a ∧ Vis sc a ∧ ∀ (A : Around) (outer : List PySem.Env) (s : Shared) (H : Hp) (E : XK) (f : Addr) (tl : ThkD) (F I : Hp) (M : Mem) (Qd : DKt) (Ed : DX) (Q : VK), Room (k + 1) A → Env0 P w K mg base A outer s H → At K F I M H →
    ActOk (cxOf (L2.CX P w) P w K mg base N q sc g cd A outer s H E) a I f tl → spT f tl M Qd Ed → (∀ d M' I' H' v, Ext I I' → At K F I' M' H' → Rp K I' v d → Qd d M' → Q v H') →
    (∀ c fs M' I' H' dd, Ext I I' → At K F I' M' H' → ExcR K I' fs dd → Ed c fs M' → E c dd H') → codeAny (model P w) A (.call (.ref g) ⟨[.ref f], []⟩) (CR (L2.CX P w) outer P w H s Q E) s
section
variable {base : Heap} {mg : Str → Option Value} {K : PySem.W.Frag} {P : Program} {w : World}
theorem tak_mk {x qual : Str} {params : Arguments} {body : List Stmt} {scope : Scope} {g : Addr} {fd : FuncData} {N : List Str} {a : Str} {k : Nat} {spT : Addr → ThkD → Mem → DKt → DX → Prop} (Fd : FunD K x qual params body scope [] [] g fd) (S : FnScope N [a] scope) (B : Binds K fd [a] [])
    (first : N[0]? = some a) (vis : Vis scope a)
    (hbody : ∀ (X : Cx) (Δ : DC) (M : Mem) (f : Addr) (tl : ThkD) (Q : DKt) (E : DX), CxOf P w K mg base N qual scope g k X → XOk X Δ → (Δ.Wd = fun c fs _ M' => FzV (fun _ M'' => E c fs M'') .non M') → ActOk X a Δ.I0 f tl → spT f tl M Q E →
      ∃ t d, PDss X Δ body t d ∧ d (ends Q) (startD N [.ref f]) M) : TakOk P w K mg base k g a spT := by
  obtain ⟨_, _, _, _, _, _, _, cdv, _, _, rfl, lk, hcd, _, _⟩ := Fd.ex
  refine ⟨N, qual, scope, cdv, first, vis, fun A outer s H E f tl F I M Qd Ed Q hr e0 At0 act sp hn hx => ?_⟩
  have inK : K.In s.heap := e0.mod.kin.keeps fun b o e => (e0.bs b o e).1
  refine LamX.run_ofS (CX := L2.CX P w) (N := N) (ps := [a]) (us := [.ref f]) (vs := [.ref f]) lk hcd S hr e0 (B s [.ref f] inK rfl) (.cons rfl .nil) rfl fun hr' => ?_
  obtain ⟨X, eX⟩ : ∃ X, X = cxOf (L2.CX P w) P w K mg base N qual scope g cdv A outer s H E := ⟨_, rfl⟩
  have XK : X.K = K := by rw [eX]; rfl
  have tk : Takes X (fun cls d _ H => E cls d H) := by
    subst eX
    exact takes_of rfl rfl rfl rfl
  obtain ⟨t, d, pd, q⟩ := hbody X { F := F, I0 := I, W := fun cls d _ H => E cls d H, Wd := fun c fs _ M' => FzV (fun _ M'' => Ed c fs M'') .non M' } M f tl Qd Ed ⟨cdv, A, outer, s, H, E, eX, hr'⟩ ⟨tk, fun {I1 M1 H1 σ1 env1 c fs dd} G er w => by
      rw [XK] at G er
      obtain ⟨I2, M2, d', x2, A3, r3, q3⟩ := fzv w G.at_ (v := .non) .non
      refine hx c fs M2 I2 H1 dd (G.base.trans x2) A3 ?_ q3
      cases dd with
      | none => exact er
      | some dd => obtain ⟨fvs, e1, e2⟩ := er; exact ⟨fvs, x2.xd e1, e2.ext x2⟩⟩ rfl (by rw [eX]; exact act) sp
  subst eX
  refine ⟨t, pd.1, pd.2 I M H _ _ ⟨Ext.refl I, At0, envr_start (.cons (.ref f) .nil)⟩ _ (ends Qd) ⟨fun env' M' I' H' σ' x G q' => ?_, fun _ _ _ _ _ _ _ q' => q', fun _ _ _ _ _ _ _ q' => q', fun d' M' I' H' v x b A' r' q' => ?_⟩ q⟩
  · obtain ⟨I2, M2, d', x2, A3, r3, q3⟩ := fzv q' G.at_ (v := .non) .non
    exact hn _ _ _ _ _ (x.trans x2) A3 r3 q3
  · obtain ⟨I2, M2, d', x2, A3, r3, q3⟩ := fzv q' A' r'
    exact hn _ _ _ _ _ (x.trans x2) A3 r3 q3
end
/-- x(lambda: body): the table of code objects stands at P -/
def dLam (P : Addr) (q : Str) (spT : Addr → ThkD → Mem → DKt → DX → Prop) (db : DW → DE) (Wd : DW) : DE := fun env M Q => M P = some (.tab q) ∧ ∀ f, spT f (thk db env) M Q fun c fs M' => Wd c fs env M'
section
variable {X : Cx} {Δ : DC} {params : Arguments} {body : Expr} {scope : Scope} {g c P : Addr} {q x a : Str} {k kl : Nat} {spT : Addr → ThkD → Mem → DKt → DX → Prop} {db : DW → DE} {p lpos pos : Pos}
theorem pd_lam (T : TakOk X.prog X.w X.K X.mg X.base k g a spT) (hr : Room (k + 1) X.A) (hr2 : Room (kl + 2) X.A) (gl : Gl X x) (hm : X.mg x = some (.ref g)) (kp : PySem.W.keepIn X.K (.ref g) = true)
    (TB : LamX.TabB X.base X.mg c P) (code : X.env.code = .ref c) (hq : X.env.qual ++ "<lambda>" = q) (L : LamX.LamS X.env.scope scope) (nodef : defaultsOf params X.env = ([], [])) (bind : NoArgs params body scope) (xo : XOk X Δ) (hb : ∀ f c', LamOk X scope body f c' kl db)
    (own : OwnName x := by decide) (owna : OwnName a := by decide) (own2 : (a == ("__classdict__" : Str)) = false := by decide) :
    PDe X Δ (.Call (.Name x p) [.Lambda params body scope lpos] [] pos) (fun σ H Q => ∃ J M env Qd, Gd X.K Δ J M H σ env ∧ dLam P q spT db Δ.Wd env M Qd ∧ ∀ d M' J' G' v, Ext J J' → Gd X.K Δ J' M' G' σ env → Rp X.K J' v d → Qd d M' → Q v G') (dLam P q spT db Δ.Wd) := by
  refine ⟨by_name gl hm own fun pins s σ H Q I ⟨J, M, env, Qd, G, ⟨hP, sp⟩, back⟩ => ?_, fun J M G σ env Gg Q Qd k q => ⟨J, M, env, Qd, Gg, q, k⟩⟩
  subst hq
  obtain ⟨N, qg, sc, cd, first, vis, run⟩ := T
  obtain ⟨_, ps, tab, tri, known⟩ := G.at_.mem _ _ hP
  refine PySem.W.callWith_K (h₀ := X.base) I.ok.mod.kin kp ?_ (by rfl) (by rfl)
  show wpAny _ _ (spliced ((false, eval (.Lambda params body scope lpos) X.env) :: backTo pos (starEach [] X.env))) _ _ s
  refine Calls.spliced_cons (lam_at I TB code tab tri (fun pos cv hc => let ⟨c, e, _⟩ := known pos cv hc; ⟨c, e⟩) nodef (L.has I.ok) fun f c' H1 s1 I1 m fn => ?_)
  obtain ⟨J1, x1, A1, isC⟩ := G.at_.made hP tab known m
  refine Calls.spliced_nil ⟨I1.kIn, wpAny_call (codeAny_mono (R := CR (L2.CX X.prog X.w) X.stack X.prog X.w H1 s1 Q (WE Δ.W σ)) ?_ (at_end (passAt xo.takes σ) I1 fun _ _ z => z))⟩
  refine run X.A X.stack s1 H1 (WE Δ.W σ) f (thk db env) Δ.F J1 M Qd (fun c fs M' => Δ.Wd c fs env M') Q hr I1.env0 A1 (act_ok I1 L fn bind (hr2.deeper _) first vis owna own2 isC (G.env.ext x1) (hb f c')) (sp f) (fun d M' J' H' v x A r qd => ?_) fun c fs M' J' H' dd x A er w => ?_
  · exact back d M' J' H' v (x1.trans x) (G.go (x1.trans x) A) r qd
  · exact xo.link (G.go (x1.trans x) A) er w
end
end BB

set_option maxHeartbeats 4000000
namespace BB
open L2 PySem PySem.Spec PyProof.Rows
/-! ### the law's def makes lambdas: its code object and its table are known -/
/-- the law's code object; the table of the code objects in it -/
def codL (K : PySem.W.Frag) : Addr := (He.cT K (("law" : Str), none)).1
def tabL (K : PySem.W.Frag) : Addr := (He.cT K (("law" : Str), none)).2
abbrev lamQ : Str := "law.<locals>.<lambda>"
section
variable {base : Heap} {mg : Str → Option Value} {K : PySem.W.Frag} {P : Program} {w : World}
def CxOfT (P : Program) (w : World) (K : PySem.W.Frag) (mg : Str → Option Value) (base : Heap) (N : List Str) (qual : Str) (scope : Scope) (f : Addr) (k : Nat) (c : Addr) (X : Cx) : Prop :=
  ∃ A outer s H Ev, X = cxOf (L2.CX P w) P w K mg base N qual scope f (.ref c) A outer s H Ev ∧ Room k (A.deeper (envOfC qual scope s.heap.objs.size f (.ref c)))
theorem fn_mkDT {x qual : Str} {params : Arguments} {body : List Stmt} {scope : Scope} {dvs : List V} {kws : List (Str × V)} {fd : FuncData} {N ps : List Str} {k : Nat} {sp : SpD} (F : FunD K x qual params body scope dvs kws (He.ga K "law") fd) (S : FnScope N ps scope)
    (len : ∀ ds M Q E, sp ds M Q E → ds.length = ps.length)
    (hbody : ∀ (X : Cx) (Δ : DC) (M : Mem) (ds : List D) (Q : DKt) (E : DX), CxOfT P w K mg base N qual scope (He.ga K "law") k (codL K) X → XOk X Δ → (Δ.Wd = fun c fs _ M' => FzV (fun _ M'' => E c fs M'') .non M') → sp ds M Q E →
      ∃ t d, PDss X Δ body t d ∧ d (ends Q) (startD N ds) M) : FnOk P w K mg base (L2.CX P w) (k + 1) (He.ga K "law") fd ps (liftSp K sp) := by
  obtain ⟨_, _, _, _, _, _, _, cdv, _, _, rfl, lk, hcd, _, _⟩ := F.ex
  obtain ⟨c, rfl⟩ := He.codeIn_ref hcd
  have ec : codL K = c := He.codeOf_eq (p := (("law" : Str), none)) lk rfl
  subst ec
  refine fn_of lk hcd S (fun vs H Q E ⟨F0, I, M, ds, Qd, Ed, A, r, h, _⟩ => r.length.trans (len _ _ _ _ h)) (fun A outer s H vs Q E hr ⟨F0, I, M, ds, Qd, Ed, At0, r, h, hn, hx⟩ => ?_)
  obtain ⟨X, eX⟩ : ∃ X, X = cxOf (L2.CX P w) P w K mg base N qual scope (He.ga K "law") (.ref (codL K)) A outer s H E := ⟨_, rfl⟩
  have XK : X.K = K := by rw [eX]; rfl
  have tk : Takes X (fun cls d _ H => E cls d H) := by
    subst eX
    exact takes_of rfl rfl rfl rfl
  obtain ⟨t, d, pd, q⟩ := hbody X { F := F0, I0 := I, W := fun cls d _ H => E cls d H, Wd := fun c fs _ M' => FzV (fun _ M'' => Ed c fs M'') .non M' } M ds Qd Ed ⟨A, outer, s, H, E, eX, hr⟩ ⟨tk, fun {I1 M1 H1 σ1 env1 c fs dd} G er w => by
      rw [XK] at G er
      obtain ⟨I2, M2, d', x2, A3, r3, q3⟩ := fzv w G.at_ (v := .non) .non
      refine hx c fs M2 I2 H1 dd (G.base.trans x2) A3 ?_ q3
      cases dd with
      | none => exact er
      | some dd => obtain ⟨fvs, e1, e2⟩ := er; exact ⟨fvs, x2.xd e1, e2.ext x2⟩⟩ rfl h
  subst eX
  refine ⟨t, pd.1, pd.2 I M H _ _ ⟨Ext.refl I, At0, envr_start r⟩ _ (ends Qd) ⟨fun env' M' I' H' σ' x G q' => ?_, fun _ _ _ _ _ _ _ q' => q', fun _ _ _ _ _ _ _ q' => q', fun d' M' I' H' v x b A' r' q' => ?_⟩ q⟩
  · obtain ⟨I2, M2, d', x2, A3, r3, q3⟩ := fzv q' G.at_ (v := .non) .non
    exact hn _ _ _ _ _ (x.trans x2) A3 r3 q3
  · obtain ⟨I2, M2, d', x2, A3, r3, q3⟩ := fzv q' A' r'
    exact hn _ _ _ _ _ (x.trans x2) A3 r3 q3
end
/-- a law's end where its def has a table of code objects -/
theorem walk_ofT {l : PySem.W.OpenLaw} {n k : Nat} {q : Program} {loose : List Str} {XP : (Str → Option Value) → Heap → Prop} {YP : World → Heap → Prop} {d : DefRec} {x : Str}
    (most : l.most = some n) (inSize : n ≤ sizeLine) (plain : d.params.defaults = []) (hr : Room k callerA)
    (F : ∀ (w : World) (mg : Str → Option Value) (fa : Addr) (h : Heap), YP w h → h.Ns mainGlobals mg → mg d.name = some (.ref fa) →
      ∃ (K : PySem.W.Frag) (fd : FuncData) (cs : List (Addr × Addr)) (sp : Sp), K.In h ∧ (∀ p ∈ cs, h.get? p.2 = some { cls := .none, data := .fields #[] }) ∧ (∀ p ∈ cs, K.lookup p.2 = none) ∧ (∀ p ∈ cs, PySem.W.CodeHd h p.1 p.2) ∧ (∀ (s : Shared) (u : Value), BindsTo s fd ⟨[u], []⟩ [(x, u)]) ∧
        (∀ (H : Hp) (a : Addr) (ns : List Int), ns.length ≤ n → (∀ p ∈ cs, H p.2 = some (.tbl #[])) → SqL K H a (ns.map V.int) → sp [.ref a] H (fun v _ => v = .bl true) fun _ _ _ => False) ∧
        ∀ base : Heap, K.In base → base.Ns mainGlobals mg → (∀ p ∈ cs, LamX.TabB base mg p.1 p.2) → FnOk l.prog w K mg base (L2.CX l.prog w) k fa fd [x] sp) :
    PySem.W.WalkO q loose XP YP l.row.toRowW d [] (fun f vs => PySem.call f vs) :=
  Att.attach_call most plain fun w s₀ s₁ mg mb fa o pm cd doc a vs ns G Y _ _ _ named at1 nums len noGen => by
    obtain ⟨K, fd, cs, sp, KX, isT, noT, code, binds, asks, promise⟩ := F w mg fa _ Y G.T.g named
    exact LamX.law_callTs KX G.T.g G.T.b G.T.builtins G.T.nolimit noGen isT noT code G.T.bmain at1 nums (Nat.le_trans len inSize) hr promise binds (fun H hH hS => asks H a ns len hH hS) fun H e s' h => by
      obtain ⟨_, _, _, _, _, _, _, _, _, _, _, _, no⟩ := h
      exact no
end BB

set_option maxHeartbeats 4000000
namespace BB
open L2 PySem PySem.Spec PyProof.Rows
/-! ### isinstance(e, (C1, C2, ..)), e a kept exception, own classes -/
def rIsiET (K : PySem.W.Frag) : List V → Hp → VK → Prop := fun xs H Q => ∃ (a C : Addr) (d : Option Addr) (tp : Addr) (cs : List Addr) (b : Bool), xs = [.ref a, .ref tp] ∧ H tp = some (.tup (cs.map V.ref)) ∧ H a = some (ExV (.ref C) d a) ∧ (∀ dd, d = some dd → ∃ fs, H dd = some (.xd fs)) ∧ ExcQ K C ∧
  PySem.W.kitAny K (.ref C) (cs.map Value.ref) = some b ∧ Q (.bl b) H
theorem refs_vals : ∀ {cs : List Addr} {ws : List Value}, Vals (cs.map V.ref) ws → ws = cs.map Value.ref
  | [], _, .nil => rfl
  | c :: cs, _, .cons r t => by
    cases r
    rw [refs_vals t]; rfl
theorem call_isiET {X : Cx} : CallR X (.builtin "isinstance") (rIsiET X.K) := by
  intro pins s σ H xs us Q I r h
  obtain ⟨a, C, d, tp, cs, b, rfl, hT, h1, hd, q, hk, hq⟩ := h
  match us, r with
  | [_, u], .cons rx (.cons rt .nil) =>
    cases rx
    cases (show u = Value.ref tp from rt)
    obtain ⟨_, its, rv, o, e1, e2, n, e3⟩ := (show ObjOk X.prog X.w H s.heap tp (.tup (cs.map V.ref)) from I.hok tp _ hT)
    have e4 := refs_vals rv
    subst e4
    obtain ⟨oc, od', dt, sl⟩ := o
    simp only at e2 e3
    subst e2 e3
    obtain ⟨⟨o, vs, e, z, f⟩, _⟩ := I.hok a _ h1
    obtain ⟨od, J⟩ : ∃ od, PySem.W.InstAt s.heap a o C od := by
      have no : PySem.W.notCls o = true := by unfold PySem.W.notCls; rw [f]
      cases d with
      | none => exact ⟨none, e, z.1, no, by rw [z.2]; trivial⟩
      | some dd =>
        obtain ⟨fs, hx⟩ := hd dd rfl
        obtain ⟨mA, hns, _⟩ := I.hok dd _ hx
        obtain ⟨od, ho, _⟩ := lookIn_ns hns
        exact ⟨some od, e, z.1, no, by rw [z.2]; exact ho⟩
    obtain ⟨cd, hcl, _⟩ := PySem.W.any_some q.xf.hdC
    exact PySem.W.kia_tup (PySem.W.kitx_exc (x := a) (ox := o) (od := od) (by rw [hcl]; rfl) q.xf.ga q.xf.gg q.xf.exC q.atr q.got q.tak q.all) I.kIn J e1 hk (fun z => nomatch z) fun tk => ⟨.bl b, H, I.tok _, rfl, hq⟩
def rdIsiXT (K : PySem.W.Frag) : RDC := fun ds M Q => ∃ (C : Addr) (fs : List (Str × D)) (cs : List Addr) (b : Bool), ds = [.exc (.ref C) fs, .htup (cs.map D.ref)] ∧ ExcQ K C ∧ PySem.W.kitAny K (.ref C) (cs.map Value.ref) = some b ∧ Q (.bl b) M
theorem rps_refs {K : PySem.W.Frag} {I : Hp} : ∀ {cs : List Addr} {vs : List V}, Rps K I vs (cs.map D.ref) → vs = cs.map V.ref
  | [], _, .nil => rfl
  | c :: cs, _, .cons r t => by rw [r.ref_inv, rps_refs t]; rfl
theorem snd_isiXT {X : Cx} : SndC X (rIsiET X.K) (rdIsiXT X.K) := by
  intro Δ I M H σ env G vs ds r Q Qd k h
  obtain ⟨C, fs, cs, b, e, hq, hk, q⟩ := h
  subst e
  obtain ⟨v, u, rfl, rv, ru⟩ := r.two_inv
  obtain ⟨a, d, rfl, h1, er⟩ := rv.exc_inv
  obtain ⟨tp, ws, rfl, h2, rw_⟩ := ru.htup_inv
  have := rps_refs rw_
  subst this
  refine ⟨a, C, d, tp, cs, b, rfl, G.at_.ex _ _ h2, G.at_.ex _ _ h1, fun dd hd => ?_, hq, hk, k _ _ _ _ _ (Ext.refl I) G (.bl b) q⟩
  subst hd
  obtain ⟨fvs, h3, _⟩ := er
  exact ⟨fvs, G.at_.ex _ _ h3⟩
theorem kitAny_none {K : PySem.W.Frag} {t : Value} : ∀ {cs : List Addr}, (∀ c ∈ cs, PySem.W.kitOne K t (.ref c) = some false) → PySem.W.kitAny K t (cs.map Value.ref) = some false
  | [], _ => rfl
  | c :: cs, h => by
    show PySem.W.kitAny K t (Value.ref c :: cs.map Value.ref) = _
    exact kitAny_cons (h c List.mem_cons_self) (fun _ => kitAny_none fun c' hc => h c' (List.mem_cons_of_mem _ hc)) fun z => nomatch z
theorem i_isiXT {K : PySem.W.Frag} {M : Mem} {Q : DKt} {C : Addr} {fs : List (Str × D)} {cs : List Addr} {b : Bool} (h1 : ExcQ K C) (h2 : PySem.W.kitAny K (.ref C) (cs.map Value.ref) = some b) (q : Q (.bl b) M) : rdIsiXT K [.exc (.ref C) fs, .htup (cs.map D.ref)] M Q := ⟨C, fs, cs, b, rfl, h1, h2, q⟩
end BB

set_option maxHeartbeats 4000000
/-! ### t[::-1], t a tuple: the library's level -/
namespace HT
open PySem PySem.Spec PyProof.Rows
section
variable {prog : Program} {w : World} {A : Around} {E : Value → Shared → Prop} {s : Shared}
theorem adjust_rev (n : Nat) : Builtin.Slice.sliceAdjust none none (-1) (n : Int) = ((n : Int) - 1, -1) := by
  unfold Builtin.Slice.sliceAdjust
  rfl
theorem places_rev (n : Nat) : Builtin.Slice.slicePlaces ((n : Int) - 1) (-1) (-1) = n := by
  unfold Builtin.Slice.slicePlaces
  have h1 : ¬ ((-1 : Int) > 0) := by decide
  rw [if_neg h1]
  by_cases h : (n : Int) - 1 > -1
  · rw [if_pos h, show (- -1 : Int) = 1 by decide, Int.ediv_one]; omega
  · rw [if_neg h]; omega
theorem sliceApplied_rev {sl : Addr} {vs : Value} {n : Nat} {Q : Int × Int × Nat → Shared → Prop} (hs : s.heap.IsSliceOf sl .none .none vs) (ps : IsPart vs (some (-1)))
    (h : Q ((n : Int) - 1, -1, n) s) : wpAny (model prog w) A (Builtin.Slice.sliceApplied (.ref sl) (pure (n : Int))) Q E s := by
  obtain ⟨os, hos, hcs, hds⟩ := id hs
  unfold Builtin.Slice.sliceApplied Builtin.Slice.sliceFields
  refine wpAny_bind (wpAny_bind (wpAny_field hos hds (x := .none) rfl (wpAny_bind (wpAny_field hos hds (x := .none) rfl (wpAny_bind (wpAny_field hos hds (x := vs) rfl (wpAny_pure ?_)))))))
  refine wpAny_bind (slicePart_ ps ?_)
  show wpAny _ _ (if ((-1 : Int) == 0) = true then _ else _) _ _ s
  rw [if_neg (by decide)]
  refine wpAny_bind (slicePart_none (wpAny_bind (slicePart_none (wpAny_bind (wpAny_pure ?_)))))
  show wpAny _ _ (match Builtin.Slice.sliceAdjust none none (-1) (n : Int) with | (lo, hi) => pure (lo, (-1 : Int), Builtin.Slice.slicePlaces lo hi (-1))) _ _ s
  rw [adjust_rev n]
  show wpAny _ _ (pure ((n : Int) - 1, (-1 : Int), Builtin.Slice.slicePlaces ((n : Int) - 1) (-1) (-1))) _ _ s
  rw [places_rev]
  exact wpAny_pure h
theorem fm_congr {α β : Type} {f g : α → Option β} : ∀ {l : List α}, (∀ a ∈ l, f a = g a) → l.filterMap f = l.filterMap g
  | [], _ => rfl
  | a :: l, h => by rw [List.filterMap_cons, List.filterMap_cons, h a List.mem_cons_self, fm_congr fun b hb => h b (List.mem_cons_of_mem _ hb)]
theorem pick_rev (xs : Array Value) : ((List.range xs.size).filterMap fun (m : Nat) => xs[((xs.size : Int) - 1 + (m : Int) * (-1)).toNat]?).toArray = xs.toList.reverse.toArray := by
  have e : ((List.range xs.size).filterMap fun (m : Nat) => xs[((xs.size : Int) - 1 + (m : Int) * (-1)).toNat]?) = ((List.range xs.size).map fun m => xs.size - 1 - m).filterMap (xs[·]?) := by
    rw [List.filterMap_map]
    refine fm_congr fun m hm => ?_
    show xs[((xs.size : Int) - 1 + (m : Int) * (-1)).toNat]? = xs[xs.size - 1 - m]?
    rw [show ((xs.size : Int) - 1 + (m : Int) * (-1)).toNat = xs.size - 1 - m by have := List.mem_range.mp hm; omega]
  rw [e, PySem.W.krv_range, List.filterMap_reverse, PySem.W.krv_all]
theorem getItem_tuple_rev {t sl : Addr} {items : Array Value} {vs : Value} {Q : Value → Shared → Prop} (ht : IsTup s.heap t items) (hs : s.heap.IsSliceOf sl .none .none vs) (ps : IsPart vs (some (-1)))
    (h : Q (.ref s.heap.objs.size) { s with heap := s.heap.push { cls := .type "tuple", data := .seq items.toList.reverse.toArray } })
    (hsz : items.size ≤ sizeLine) : wpAny (model prog w) A (getItem (.ref t) (.ref sl)) Q E s := by
  have htake : sizeOk (.seq items.toList.reverse.toArray) := by
    show items.toList.reverse.toArray.size ≤ sizeLine
    rw [List.size_toArray, List.length_reverse, Array.length_toList]
    exact hsz
  obtain ⟨os, hos, hcs, hds⟩ := id hs
  have hTs : s.TypeIs (.ref sl) "slice" := ⟨os, hos, hcs⟩
  unfold getItem
  try with_reducible refine wpAny_holding ?_
  first | refine wpAny_bind (wpAny_pure ?_) | skip
  refine wpAny_bind (wpAny_sequenceKey ht.typeIs (by decide) ?_)
  refine wpAny_bind (wpAny_callSpecial?_slot (name := Str.ofString "__getitem__") ht.typeIs PyProof.Rows.slot_tuple_getitem
    (wpAny_call_entry PyProof.Rows.slot_tuple_getitem ht.typeIs entry_tuple_getitem ?_ (args_tuple_getitem _ _)))
  show wpAny _ _ (Builtin.Tuple.tupleItemsOf (.ref t) >>= _) _ _ s
  refine wpAny_bind (tupleItemsOf_ ht ?_)
  refine wpAny_bind (wpAny_typeOf hTs ?_)
  rw [if_pos (by decide)]
  refine wpAny_bind (sliceApplied_rev hs ps ?_)
  have hno : ¬ ((((items.size : Int) - 1) == 0 && (-1 : Int) == 1 && items.size == items.size) = true) := by
    intro q
    rw [Bool.and_eq_true, Bool.and_eq_true] at q
    exact absurd q.1.2 (by decide)
  show wpAny _ _ (if (((items.size : Int) - 1) == 0 && (-1 : Int) == 1 && items.size == items.size) = true then _ else _) _ _ s
  rw [if_neg hno, pick_rev]
  first
    | exact wpAny_bind (m := Builtin.Tuple.tupleExact _) (wpAny_newObj_type (wpAny_pure ⟨_, rfl, wpAny_pure h⟩) htake)
    | exact wpAny_bind (m := Builtin.Tuple.tupleExact _) (wpAny_newObj_type (wpAny_bind (wpAny_pure (wpAny_pure ⟨_, rfl, wpAny_pure h⟩))) htake)
    | exact wpAny_bind (wpAny_bind (m := Builtin.Tuple.tupleExact _) (wpAny_newObj_type (wpAny_pure (wpAny_pure ⟨_, rfl, wpAny_pure h⟩)) htake))
    | exact wpAny_bind (wpAny_bind (m := Builtin.Tuple.tupleExact _) (wpAny_newObj_type (wpAny_pure ⟨_, rfl, wpAny_pure h⟩) htake))
end
end HT
namespace BB
open L2 PySem PySem.Spec PyProof.Rows
section
variable {X : Cx} {Δ : DC} {e : Expr} {te : TE} {de : DE}
/-! ### == and != of a list of anything and an empty one -/
def rEqE (K : PySem.W.Frag) (neg : Bool) : R2 := fun x y H Q => ∃ a b xs, x = .ref a ∧ y = .ref b ∧ SqL K H a xs ∧ SqL K H b [] ∧ Q (.bl (xor neg xs.isEmpty)) H
theorem op_eqE (hu : X.A.units + 64 < cLine) : OpR X (compareOp .Eq) (rEqE X.K false) := by
  intro pins s σ H x y v u Q I rx ry h
  obtain ⟨a, b, xs, rfl, rfl, ha, hb, q⟩ := h
  cases rx
  cases ry
  obtain ⟨its, r1, p1, _⟩ := I.list ha
  obtain ⟨its2, r2, p2, _⟩ := I.list hb
  cases r2
  rw [Bool.false_xor] at q
  cases r1 with
  | nil => exact SeqAt.eq_listAt (e := fun _ => true) p1.isList p2.isList rfl (by omega) (fun j h1 _ => absurd h1 (by simp)) ⟨.bl true, H, I, rfl, q⟩
  | cons a r => exact SeqAt.eq_list_lengthsAt p1.isList p2.isList (by simp) (by omega) ⟨.bl false, H, I, rfl, q⟩
theorem op_neE (hu : X.A.units + 64 < cLine) : OpR X (compareOp .NotEq) (rEqE X.K true) := by
  intro pins s σ H x y v u Q I rx ry h
  obtain ⟨a, b, xs, rfl, rfl, ha, hb, q⟩ := h
  cases rx
  cases ry
  obtain ⟨its, r1, p1, _⟩ := I.list ha
  obtain ⟨its2, r2, p2, _⟩ := I.list hb
  cases r2
  cases r1 with
  | nil => exact SeqAt.RcNeAt.lists (e := fun _ => true) p1.isList p2.isList rfl (by omega) (fun j h1 _ => absurd h1 (by simp)) X.prog X.w _ _ ⟨.bl false, H, I, rfl, q⟩
  | cons a r => exact SeqAt.RcNeAt.lists_lengths p1.isList p2.isList (by simp) (by omega) X.prog X.w _ _ ⟨.bl true, H, I, rfl, q⟩
def rdEqE (neg : Bool) : RD2 := fun x y M Q => ∃ xs, lstOf M x = some xs ∧ lstOf M y = some [] ∧ Q (.bl (xor neg xs.isEmpty)) M
theorem snd_eqE {neg : Bool} : SndR X (rEqE X.K neg) (rdEqE neg) := by
  intro Δ I M H σ env G x y dx dy rx ry Q Qd k ⟨xs, h1, h2, h⟩
  obtain ⟨a, vs, rfl, ha, ra⟩ := lst_of G.at_ rx h1
  obtain ⟨b, us, rfl, hb, rb⟩ := lst_of G.at_ ry h2
  cases rb
  refine ⟨a, b, vs, rfl, rfl, .inl (.inl ha), .inl (.inl hb), ?_⟩
  rw [ra.isEmpty]
  exact k _ _ _ _ _ (Ext.refl I) G (.bl _) h
theorem i_eqE {neg : Bool} {x y : D} {xs : List D} {M : Mem} {Q : DKt} (h1 : lstOf M x = some xs) (h2 : lstOf M y = some []) (q : Q (.bl (xor neg xs.isEmpty)) M) : rdEqE neg x y M Q := ⟨xs, h1, h2, q⟩
/-! ### is not, of truths -/
def isntB (M : Mem) : D → D → Option D
  | .bl a, .bl b => some (.bl (!decide (a = b)))
  | .non, .bl _ => some (.bl true)
  | _, _ => none
theorem op_notBlN : OpR X (compareOp .IsNot) (fun x y H Q => rNotB x y H Q ∨ ∃ b : Bool, x = .non ∧ y = .bl b ∧ Q (.bl true) H) := by
  refine OpR.or op_notBl ?_
  intro pins s σ H x y v u Q I rx ry h
  obtain ⟨b, rfl, rfl, q⟩ := h
  cases (show v = Value.none from rx)
  cases (show u = Value.bool b from ry)
  exact wpAny_isNot_other rfl (fun z => nomatch z) ⟨.bl true, H, I, rfl, q⟩
theorem snd_notBl : SndR X (fun x y H Q => rNotB x y H Q ∨ ∃ b : Bool, x = .non ∧ y = .bl b ∧ Q (.bl true) H) (rdO isntB) := by
  intro Δ I M H σ env G x y dx dy rx ry Q Qd k ⟨d, e, q⟩
  unfold isntB at e
  split at e
  · cases e; rw [rx.bl_inv, ry.bl_inv]; exact .inl ⟨_, _, rfl, rfl, k _ _ _ _ _ (Ext.refl I) G (.bl _) q⟩
  · cases e; rw [rx.non_inv, ry.bl_inv]; exact .inr ⟨_, rfl, rfl, k _ _ _ _ _ (Ext.refl I) G (.bl _) q⟩
  · cases e
/-! ### x or y, x anything -/
def dOrX (da db : DE) : DE := fun env M Q => da env M fun x M1 => ∃ c, dTruth M1 x = some c ∧ if c = true then Q x M1 else db env M1 Q
theorem pd_orX {a b : Expr} {rest : List Expr} {pos : Pos} {ta tb : TE} {da db : DE} (ha : PDe X Δ a ta da) (hb : PDe X Δ (.BoolOp .Or (b :: rest) pos) tb db) : PDe X Δ (.BoolOp .Or (a :: b :: rest) pos) (tOrT X.K ta tb) (dOrX da db) := by
  obtain ⟨pa, sa⟩ := ha
  obtain ⟨pb, sb⟩ := hb
  refine ⟨pe_orT pa pb, fun I M H σ env G Q Qd k q => sa I M H σ env G _ _ (fun d M1 I1 H1 v x1 G1 r1 ⟨c, e, q1⟩ => ⟨c, tru_of G1.at_ r1 e, ?_⟩) q⟩
  cases c with
  | false => rw [if_neg Bool.false_ne_true] at q1 ⊢; exact sb I1 M1 H1 σ env G1 Q Qd (fun b M' I' H' v x => k b M' I' H' v (x1.trans x)) q1
  | true => rw [if_pos rfl] at q1 ⊢; exact k _ _ _ _ _ x1 G1 r1 q1
/-! ### what is made of an expression is fixed at once -/
def dFz (de : DE) : DE := fun env M Q => de env M (FzV Q)
theorem pd_fz (ha : PDe X Δ e te de) : PDe X Δ e te (dFz de) :=
  ⟨ha.1, fun I M H σ env G Q Qd k q => ha.2 I M H σ env G _ _ (fun d M1 I1 H1 v x1 G1 r1 q1 => by
    obtain ⟨I2, M2, d', x2, A3, r3, q3⟩ := fzv q1 G1.at_ r1
    exact k _ _ _ _ _ (x1.trans x2) (G1.go x2 A3) r3 q3) q⟩
def dNewF : DE := fun _ M Q => Q (.dK []) M
theorem pd_newF {pos : Pos} : PDe X Δ (.Dict [] [] pos) tDNewK dNewF :=
  ⟨(pd_newK (Δ := Δ)).1, fun I M H σ env G Q Qd k q => (pd_fz (Δ := Δ) (pd_newK (X := X) (pos := pos))).2 I M H σ env G Q Qd k fun p hp => .fixK mset_same (.done (by rw [mdel_mset hp]; exact q))⟩
/-! ### t[::-1] -/
def tRevT (K : PySem.W.Frag) (te : TE) : TE := fun σ H Q => te σ H fun x H1 => ∃ a xs, x = .ref a ∧ SqT K H1 a xs ∧ ∀ p, H1 p = none → Q (.ref p) (upd H1 p (.tup xs.reverse))
theorem pe_revT {k : Nat} {p1 p2 p3 pos : Pos} (he : PE X e te) : PE X (.Subscript e (.Slice none none (some (.UnaryOp .USub (.Constant (.int 1) k p1) p2)) p3) pos) (tRevT X.K te) := by
  refine ⟨fun pins s σ H Q I h => ?_⟩
  refine Subscript_ (thn (he.run pins s σ H _ I h) fun v s1 ⟨x, H1, I1, r1, q1⟩ => ?_)
  obtain ⟨a, xs, ex, hx, q⟩ := q1
  subst ex
  cases r1
  have hst : PO X (some (.UnaryOp .USub (.Constant (.int 1) k p1) p2)) (tPart (tUn (rU fun i => .int (-i)) (tC (.int 1)))) := po_some (pe_un un_neg pe_int)
  refine wpAny_Slice (thn (po_none.run pins s1 σ H1 (fun o H2 => o = none ∧ H2 = H1) I1 ⟨rfl, rfl⟩) fun vl s2 ⟨l, H2, I2, pl, el, e2⟩ => ?_)
  subst el e2
  refine thn (po_none.run pins s2 σ H2 (fun o H3 => o = none ∧ H3 = H2) I2 ⟨rfl, rfl⟩) fun vu s3 ⟨u, H3, I3, pu, eu, e3⟩ => ?_
  subst eu e3
  refine thn (hst.run pins s3 σ H3 (fun o H4 => o = some (-1) ∧ H4 = H3) I3 ⟨1, rfl, -1, rfl, rfl, rfl⟩) fun vs s4 ⟨o, H4, I4, ps, eo, e4⟩ => ?_
  subst eo e4
  cases pl
  cases pu
  have I5 : Inv X pins σ H4 { s4 with heap := s4.heap.push { cls := .type "slice", data := .fields #[.none, .none, vs] } } := I4.kept (t' := s4.toks) fun b ob q => Heap.get?_push_of_some _ q
  obtain ⟨its, r, ht, hz⟩ := I5.tuple hx
  have hlen := r.length
  show wpAny (model X.prog X.w) X.A (subscriptTail e (.Slice none none (some (.UnaryOp .USub (.Constant (.int 1) k p1) p2)) p3) (.ref a) (.ref s4.heap.objs.size)) (EP X pins σ Q) X.xe { s4 with heap := s4.heap.push { cls := .type "slice", data := .fields #[.none, .none, vs] } }
  refine tail_any (ops := [.ref a, .ref s4.heap.objs.size]) ht.typeIs PyProof.Rows.slot_tuple_getitem.lookup ?_ (by with_unfolding_all rfl)
  refine HT.getItem_tuple_rev ht (Heap.IsSliceOf.new _ .none .none vs) ps ?_ (by rw [List.size_toArray]; omega)
  refine ⟨.ref _, _, I5.laid (t' := s4.toks) (o := .tup xs.reverse) (fun b ob q => Heap.get?_push_of_some _ q) (Nat.le_refl _) ?_, rfl, q _ (I5.hok.fresh (Nat.le_refl _))⟩
  exact ⟨by rw [List.length_reverse]; exact hz, _, r.reverse, IsTup.new _ _⟩
theorem Rps.reverse {K : PySem.W.Frag} {I : Hp} : ∀ {vs : List V} {ds : List D}, Rps K I vs ds → Rps K I vs.reverse ds.reverse
  | _, _, .nil => .nil
  | _, _, .cons a r => by
    rw [List.reverse_cons, List.reverse_cons]
    exact r.reverse.append (.cons a .nil)
def dRevT (de : DE) : DE := fun env M Q => de env M fun x M1 => ∃ xs, x = .tup xs ∧ Q (.tup xs.reverse) M1
theorem pd_revT {k : Nat} {p1 p2 p3 pos : Pos} (ha : PDe X Δ e te de) : PDe X Δ (.Subscript e (.Slice none none (some (.UnaryOp .USub (.Constant (.int 1) k p1) p2)) p3) pos) (tRevT X.K te) (dRevT de) :=
  ⟨pe_revT ha.1, fun I M H σ env G Q Qd k q => ha.2 I M H σ env G _ _ (fun x M1 I1 H1 v x1 G1 r1 ⟨xs, e1, q1⟩ => by
    subst e1
    obtain ⟨a, vs, rfl, h1, h2⟩ := r1.tup_inv
    refine ⟨a, vs, rfl, G1.at_.sqT h1, fun p hp => ?_⟩
    obtain ⟨x4, G4⟩ := G1.newI hp (.tup vs.reverse)
    exact k _ _ _ _ _ (x1.trans x4) G4 (.tup (.inl (.inl upd_same)) (h2.reverse.ext x4)) q1) q⟩
/-! ### C(k = v, ..) -/
variable {pos p : Pos} {k n : Nat} {f C : Addr} {fd : FuncData} {ps : List Str} {sp : SpD} {x : Str} {ks : List Str} {kws : List Keyword} {tk : TA} {dk : DA} {g : List Value → List Value → List Value} {gV : List V → List V → List V} {gD : List D → List D → List D}
def tMakeKS (C : Addr) (m : Nat) (sp : Sp) (gV : List V → List V → List V) (E : L2.St → XK) (tk : TA) : TE := fun σ H Q => tk σ H fun zs H2 => zs.length = m ∧ ∀ x dx, H2 x = none → H2 dx = none → dx ≠ x →
  sp (gV [.ref x] zs) (upd (upd H2 dx (.own x)) x (.ins C dx [])) (fun v H3 => v = .non ∧ Q (.ref x) H3) (E σ)
theorem run_makeKS {CX : CXT} {sp : Sp} {E : XK} {pins : List (Addr × Obj)} {σ : L2.St} {H : Hp} {s : Shared} {Q : VK} {ws : List Value} {zs : List V} (mk : Mk X.K C f) (F : FnOk X.prog X.w X.K X.mg X.base CX k f fd ps sp) (hr : Room (k + 1) X.A) (hb : KBn X.K fd ps 1 ks g gV) (hx : PassesAt CX X σ E)
    (I : Inv X pins σ H s) (rz : Vals zs ws) (l2 : zs.length = ks.length)
    (h : ∀ x dx, H x = none → H dx = none → dx ≠ x → sp (gV [.ref x] zs) (upd (upd H dx (.own x)) x (.ins C dx [])) (fun v H2 => v = .non ∧ Q (.ref x) H2) E) :
    wpAny (model X.prog X.w) X.A (call (.ref C) [] (ks.zip ws)) (EP X pins σ Q) X.xe s := by
  have hq := h (s.heap.objs.size + 1) s.heap.objs.size (I.hok.fresh (Nat.le_succ _)) (I.hok.fresh (Nat.le_refl _)) (Nat.ne_of_lt (Nat.lt_succ_self _))
  have I2 := Inv.made (C := C) I
  have r1 : Vals [V.ref (s.heap.objs.size + 1)] [Value.ref (s.heap.objs.size + 1)] := .cons rfl .nil
  have r2 := hb.rel r1 rz
  refine wpAny_call (make_map (f := f) I.kIn mk.makes mk.init (beq_iff_eq.mp mk.fn) (codeAny_mono (F.run _ X.stack _ _ ⟨[Value.ref (s.heap.objs.size + 1)], ks.zip ws⟩ (g [Value.ref (s.heap.objs.size + 1)] ws) _ _ E (hr.make C [] (ks.zip ws))
    (I2.env0.make C [] (ks.zip ws)) (hb.to _ [Value.ref (s.heap.objs.size + 1)] ws I2.kIn rfl (rz.length.symm.trans l2)) r2 hq) fun r s' hq' => ?_))
  cases r with
  | error e => exact hx pins _ _ e s' I2 hq'
  | ok fl =>
    cases fl with
    | ret u =>
      obtain ⟨v, H', I3, rv, ev, q3⟩ := I2.after hq'
      subst ev
      exact ⟨rv, ⟨V.ref (s.heap.objs.size + 1), H', I3, rfl, q3⟩⟩
    | next => exact False.elim hq'
    | brk => exact False.elim hq'
    | cont => exact False.elim hq'
theorem pe_makeKS0 {CX : CXT} {sp : Sp} {E : L2.St → XK} (mk : Mk X.K C f) (F : FnOk X.prog X.w X.K X.mg X.base CX k f fd ps sp) (hr : Room (k + 1) X.A) (hg : Gl X x) (hm : X.mg x = some (.ref C)) (hb : KBn X.K fd ps 1 ks g gV) (hx : ∀ σ, PassesAt CX X σ (E σ)) (hkw : PK X kws tk)
    (own : OwnName x) (read : ArgsK0 X pos kws ks) : PE X (.Call (.Name x p) [] kws pos) (tMakeKS C ks.length sp gV E tk) := by
  obtain ⟨plain, named, rfl⟩ := read
  refine by_name hg hm own fun pins s σ H Q I q => PySem.W.callWith_KW0 I.ok.mod.kin mk.kp named ?_ plain
  exact thn (hkw.run pos pins s σ H _ I q) fun _ _ ⟨_, _, I2, r2, l2, q2⟩ => ⟨I2.kIn, run_makeKS mk F hr hb (hx σ) I2 r2 l2 q2⟩
def dMakeK (Wd : DW) (C : Addr) (m : Nat) (sp : SpD) (gD : List D → List D → List D) (dk : DA) : DE := fun env M Q => dk env M fun zs M1 => zs.length = m ∧ ∀ p dx, M1 p = none → M1 dx = none → dx ≠ p →
  sp (gD [.ref p] zs) (mset (mset M1 dx (.own p)) p (.ins C [])) (fun v M2 => v = .non ∧ FzV Q (.ref p) M2) fun c fs M' => FzV (fun _ M'' => Wd c fs env M'') .non M'
theorem pd_makeK0 (Mk' : Mk X.K C f) (F : FnOk X.prog X.w X.K X.mg X.base (L2.CX X.prog X.w) k f fd ps (liftSp X.K sp)) (hr : Room (k + 1) X.A) (hg : Gl X x) (hm : X.mg x = some (.ref C)) (hb : KBn X.K fd ps 1 ks g gV)
    (hgd : ∀ {I vs us zs ws}, Rps X.K I vs us → Rps X.K I zs ws → Rps X.K I (gV vs zs) (gD us ws)) (xo : XOk X Δ)
    (hkw : PDk X Δ kws tk dk) (own : OwnName x := by decide) (read : ArgsK0 X pos kws ks := by exact ⟨rfl, rfl, rfl⟩) :
    PDe X Δ (.Call (.Name x p) [] kws pos) (tMakeKS C ks.length (liftSp X.K sp) gV (WE Δ.W) tk) (dMakeK Δ.Wd C ks.length sp gD dk) := by
  refine ⟨pe_makeKS0 Mk' F hr hg hm hb (passAt xo.takes) hkw.1 own read, fun I M H σ env G Q Qd k q => hkw.2 I M H σ env G _ _ (fun zs M1 I1 H1 vs x1 G1 r1 ⟨l1, q1⟩ => ⟨r1.length.trans l1, ?_⟩) q⟩
  intro p dx hp hdx hne
  have A1 := G1.at_
  have A2 : At X.K Δ.F I1 (mset (mset M1 dx (.own p)) p (.ins C [])) (upd (upd H1 dx (.own p)) p (.ins C dx [])) := by
    have B := A1.newM hdx (.own p) (.own p) ⟨_, upd_same, .inl rfl⟩
    refine B.newM (by rw [upd_ne hne.symm]; exact hp) (.ins C dx []) (.ins C []) ⟨dx, [], upd_same, by rw [upd_ne hne, upd_same], by rw [mset_ne hne, mset_same], .nil⟩
  refine ⟨Δ.F, I1, _, _, _, _, A2, hgd (.cons (.ref p) .nil) r1, q1 p dx (A1.freeM hp) (A1.freeM hdx) hne, fun d M' I' H' v x A r' q => ?_, fun c fs M' I' H' dd x A er w => ?_⟩
  · obtain ⟨e1, q⟩ := q
    subst e1
    refine ⟨r'.non_inv, ?_⟩
    obtain ⟨I2, M2, d', x2, A3, r3, q3⟩ := fzv q A (v := .ref p) (.ref p)
    exact k _ _ _ _ _ ((x1.trans x).trans x2) (G1.go (x.trans x2) A3) r3 q3
  · obtain ⟨I2, M2, d', x2, A3, r3, q3⟩ := fzv w A (v := .non) .non
    refine xo.link (G1.go (x.trans x2) A3) ?_ q3
    cases dd with
    | none => exact er
    | some dd => obtain ⟨fvs, e1, e2⟩ := er; exact ⟨fvs, x2.xd e1, e2.ext x2⟩
end
end BB

set_option maxHeartbeats 4000000
namespace BB
open L2 PySem PySem.Spec PyProof.Rows PySem.Froz
/-! ### set(t), t a tuple of texts; len of a set of texts -/
section
variable {P : Program} {w : World} {A : Around} {E : Value → Shared → Prop} {s : Shared}
theorem set_fillT {l : Addr} {items : Array Value} {zs : List Str} {R : Result → Shared → Prop} (hh : A.handled = none) (hl : s.heap.IsTuple l items) (hv : ∀ (i : Nat) (v : Value), items[i]? = some v → ∃ z u, zs[i]? = some z ∧ v = .str z u) (hn : items.size = zs.length) (hb : zs.length + 1 < scanBound)
    (h : ∀ h' tk, SetMade P w s zs h' → R (.ok (.ret .none)) { s with heap := h', toks := tk }) :
    codeAny (model P w) A (.call (.builtin "set.__init__") ⟨[.ref s.heap.objs.size, .ref l], []⟩) R { s with heap := s.heap.push (emptySet w) } := by
  have new : (s.heap.push (emptySet w)).get? s.heap.objs.size = some (emptySet w) := Heap.get?_push_size _ rfl
  have isSet : Shared.TypeIs { s with heap := s.heap.push (emptySet w) } (.ref s.heap.objs.size) "set" := ⟨_, new, rfl⟩
  refine codeAny_call_builtin F.called_set.init.plain F.entry_set_init (check_set_init_1 isSet ?_)
  obtain ⟨ol, hol, hcl, nl, hdl⟩ := hl
  obtain ⟨ocls, odict, odata, oslots⟩ := ol
  simp only at hcl hdl
  subst hcl; subst hdl
  have there : (s.heap.push (emptySet w)).get? l = some { cls := .type "tuple", dict := odict, data := .seq items nl, slots := oslots } := Heap.get?_push_of_some _ hol
  have no1 := PySem.F.sub_tuple_set
  have no2 := PySem.F.sub_tuple_frozenset
  have no3 : (Value.type "tuple" == Value.type "dict") = false := by decide
  have aTup : (s.heap.push (emptySet w)).IsTuple l items := ⟨_, there, rfl, nl, rfl⟩
  unfold Builtin.«set.__init__» noKeywords Builtin.Frozenset.updateFrom
  generalize hPI : pyIter = PI
  wp_walk
  subst hPI
  refine wpAny_pyIter_tuple aTup ?_
  refine wpAny_bind (wpAny_runValue ?_)
  have old : l < s.heap.objs.size := Heap.lt_size hol
  have calm : A.in1.in1.handled = none := by simp [hh]
  have sz : (s.heap.push (emptySet w)).objs.size = s.heap.objs.size + 1 := Heap.size_push ..
  have neI : l ≠ (s.heap.push (emptySet w)).objs.size := by rw [sz]; exact Nat.ne_of_lt (Nat.lt_succ_of_lt old)
  have out : s.heap.objs.size ∉ [(s.heap.push (emptySet w)).objs.size, l] := by
    rw [sz]; simp only [List.mem_cons, List.not_mem_nil, or_false, not_or]; exact ⟨Nat.ne_of_lt (Nat.lt_succ_self _), Nat.ne_of_gt old⟩
  refine tset_update ((Walks.tuple calm _ l neI items).toS) (a := s.heap.objs.size) out hn hb hv items.size 0 _ (by omega) ⟨⟨_, Heap.get?_push_size _ rfl, rfl, rfl⟩, aTup.push _⟩ ⟨[], Nat.le_refl 0, by simp, tset_new (Heap.get?_push_of_some _ new)⟩ fun s1 m mv hm1 hm2 T => ?_
  obtain ⟨h1, g1, d1, tk, os1⟩ := s1
  obtain rfl : g1 = s.gens := mv.gens
  obtain rfl : d1 = s.drawn := mv.drawn
  obtain rfl : os1 = s.os := mv.os
  show wpAny _ _ _ _ _ _
  refine wpAny_pure ?_
  show wpAny _ _ (ret Value.none) _ _ _
  refine wpAny_pure (h _ _ ⟨m, T, hm2, by omega, fun b o e => ?_⟩)
  have lt : b < s.heap.objs.size := Heap.lt_size e
  exact mv.heap b o (by rw [sz]; simp only [List.mem_cons, List.not_mem_nil, or_false, not_or]; exact ⟨Nat.ne_of_lt lt, Nat.ne_of_lt (Nat.lt_succ_of_lt lt)⟩) (Heap.get?_push_of_some _ (Heap.get?_push_of_some _ e))
theorem call_setTt {l : Addr} {items : Array Value} {zs : List Str} {Q : Value → Shared → Prop} (hh : A.handled = none) (hl : s.heap.IsTuple l items) (hv : ∀ (i : Nat) (v : Value), items[i]? = some v → ∃ z u, zs[i]? = some z ∧ v = .str z u) (hn : items.size = zs.length) (hb : zs.length + 1 < scanBound)
    (h : ∀ h' tk, SetMade P w s zs h' → Q (.ref s.heap.objs.size) { s with heap := h', toks := tk }) : wpAny (model P w) A (call (.type "set") [.ref l]) Q E s := by
  obtain ⟨c, tl, hmro⟩ := F.called_set.mro
  have hmade := F.called_set.made
  have hsub := F.called_set.sub
  refine wpAny_call (codeAny_of_tree ?_)
  show wpAny _ _ (callAny (.type "set") _) _ _ _
  refine wpAny_pure ⟨Code.quiet_builtin _ (by decide +kernel), codeAny_builtin F.entry_type_call ?_⟩
  rw [Around.under_plain (weight_type_call_type "set" [.ref l] []) rfl]
  have h1 := F.called_set.notType
  have h2 := F.called_set.canCreate
  have hct := F.typeCall_set_1 (.ref l)
  repeat (any_goals (first | assumption | wp_step))
  refine codeAny_mono (code_set_led1 (.ref l) (E := E) (Q₁ := fun v s1 => v = .ref s.heap.objs.size ∧ s1 = { s with heap := s.heap.push (emptySet w) }) ⟨rfl, rfl⟩) fun r s1 hr => ?_
  match r, hr with
  | .error _, hr => exact hr
  | .ok .next, hr => exact hr.elim
  | .ok .brk, hr => exact hr.elim
  | .ok .cont, hr => exact hr.elim
  | .ok (.ret v), hr =>
    obtain ⟨rfl, rfl⟩ := hr
    have isSet : Shared.TypeIs { s with heap := s.heap.push (emptySet w) } (.ref s.heap.objs.size) "set" := ⟨_, Heap.get?_push_size _ rfl, rfl⟩
    have hli := F.called_set.init.lookup
    have hbi := F.called_set.init.bind (.ref s.heap.objs.size)
    repeat (any_goals (first | assumption | wp_step))
    refine codeAny_mono (set_fillT (R := fun r s2 => r = .ok (.ret .none) ∧ ∃ h' tk, SetMade P w s zs h' ∧ s2 = { s with heap := h', toks := tk }) (by simp [hh]) hl hv hn hb fun h' tk m => ⟨rfl, h', tk, m, rfl⟩) fun r s2 hr2 => ?_
    obtain ⟨rfl, h', tk, m, rfl⟩ := hr2
    repeat (any_goals (first | assumption | wp_step))
    exact h _ _ m
end
section
variable {X : Cx} {Δ : DC} {e : Expr} {te : TE} {de : DE} {p1 p2 q1 q2 : Pos}
def rSetTt (X : Cx) : List V → Hp → VK → Prop := fun xs H Q => ∃ (a : Addr) (zs : List Str), xs = [.ref a] ∧ SqT X.K H a (zs.map V.str) ∧ zs.length < 1000 ∧
  ∀ p m, H p = none → m.Nodup → (∀ z, z ∈ m ↔ z ∈ zs) → m.length ≤ zs.length → Q (.ref p) (upd H p (SetO X.prog X.w p m))
theorem call_setRt (hc : X.calm = true) : CallR X (.type "set") (rSetTt X) := by
  intro pins s σ H vs us Q I r h
  obtain ⟨a, zs, rfl, hs, hl0, q⟩ := h
  obtain ⟨its, rv, hl, _⟩ := I.tuple hs
  rw [Vals.ref1 r]
  have hn : its.toArray.size = zs.length := by rw [List.size_toArray, ← rv.length, List.length_map]
  have hv : ∀ (i : Nat) (v : Value), its.toArray[i]? = some v → ∃ z u, zs[i]? = some z ∧ v = .str z u := fun i v e => by
    rw [List.getElem?_toArray] at e
    have lt : i < zs.length := by
      have := (List.getElem?_eq_some_iff.mp e).1
      rw [List.size_toArray] at hn; omega
    obtain ⟨u, e2, r2⟩ := rv.get (i := i) (x := .str zs[i]) (by rw [List.getElem?_map, List.getElem?_eq_getElem lt]; rfl)
    rw [e] at e2
    cases e2
    obtain ⟨t, rfl⟩ := r2
    exact ⟨zs[i], t, List.getElem?_eq_getElem lt, rfl⟩
  refine call_setTt (I.ok.hd hc) hl hv hn (by unfold scanBound; omega) fun h' tk ⟨m, T, hm, hlen, k⟩ => ?_
  have nd : m.Nodup := by obtain ⟨_, _, _, _, _, q, _⟩ := T; exact q
  exact ⟨.ref _, _, I.laid (t' := tk) k (Nat.le_refl _) (setO_ok T), rfl, q _ m (I.hok.fresh (Nat.le_refl _)) nd hm hlen⟩
def rLenS (X : Cx) : List V → Hp → VK → Prop := fun xs H Q => ∃ (p : Addr) (m : List Str), xs = [.ref p] ∧ H p = some (SetO X.prog X.w p m) ∧ m.length < 1000 ∧ Q (.int m.length) H
theorem call_lenS : CallR X (.builtin "len") (rLenS X) := by
  intro pins s σ H vs us Q I r h
  obtain ⟨p, m, rfl, hp, hl, q⟩ := h
  rw [Vals.ref1 r]
  obtain ⟨T, _⟩ := I.hok p _ hp
  obtain ⟨⟨es, ep, t⟩, ho, F, _⟩ := T
  have hsz : es.size = m.length := F.sz
  refine call_len_set ho ⟨rfl, rfl, rfl⟩ rfl F.fit (by show ((es.size : Nat) : Int) < 2 ^ 63; omega) ⟨.int m.length, H, I.tok _, ⟨s.toks + 1, ?_⟩, q⟩
  show Value.int ((es.size : Nat) : Int) _ = _
  rw [hsz]
def tLenSetT (X : Cx) (te : TE) : TE := tCB (rLenS X) (tCons (tCB (rSetTt X) (tCons te tNil)) tNil)
/-- so many unlike texts -/
def dLenSet (de : DE) : DE := fun env M Q => de env M fun x M1 => ∃ xs : List Str, x = .tup (xs.map D.str) ∧ xs.length < 1000 ∧ ∀ ys : List Str, ys.Nodup → (∀ z, z ∈ ys ↔ z ∈ xs) → Q (.int ys.length) M1
theorem pd_lenSet (hc : X.calm = true) (g1 : Gl X "len") (m1 : X.mg "len" = none) (b1 : bootBuiltins "len" = some (.builtin "len")) (g2 : Gl X "set") (m2 : X.mg "set" = none) (b2 : bootBuiltins "set" = some (.type "set")) (ha : PDe X Δ e te de)
    (he : starEach [e] X.env = (false, eval e X.env) :: starEach [] X.env := by rfl)
    (he2 : starEach [.Call (.Name "set" p2) [e] [] q2] X.env = (false, eval (.Call (.Name "set" p2) [e] [] q2) X.env) :: starEach [] X.env := by rfl)
    (h1 : (backTo q2 (starEach [] X.env)).any (·.1) = false := by rfl) (h2 : (backTo q1 (starEach [] X.env)).any (·.1) = false := by rfl) :
    PDe X Δ (.Call (.Name "len" p1) [.Call (.Name "set" p2) [e] [] q2] [] q1) (tLenSetT X te) (dLenSet de) := by
  have inner : PE X (.Call (.Name "set" p2) [e] [] q2) (tCB (rSetTt X) (tCons te tNil)) := pe_callTy (call_setRt hc) g2 m2 b2 (pa_cons ha.1 pa_nil he) (by decide) (by decide) he h1
  refine ⟨pe_callB call_lenS g1 m1 b1 (pa_cons inner pa_nil he2) (by decide) (by decide) he2 h2, fun I M H σ env G Q Qd k q => ?_⟩
  refine ha.2 I M H σ env G _ _ (fun d M1 I1 H1 v x1 G1 r1 q1 => ?_) q
  obtain ⟨xs, ex, hl, q1⟩ := q1
  subst ex
  obtain ⟨a, us, rfl, h3, h4⟩ := r1.tup_inv
  have e := h4.strs
  subst e
  refine ⟨a, xs, rfl, G1.at_.sqT h3, hl, fun p m hp nd hm hlen => ⟨p, m, rfl, upd_same, by omega, ?_⟩⟩
  refine k _ M1 _ _ (.int m.length) x1 (G1.go (Ext.refl I1) (G1.at_.same fun b u hb => ?_)) (.int _) (q1 m nd hm)
  have : b ≠ p := fun z => by rw [z, hp] at hb; cases hb
  rw [upd_ne this]; exact hb
end
end BB

set_option maxHeartbeats 4000000
namespace BB
open L2 PySem PySem.Spec PyProof.Rows PySem.Froz
/-! ### sorted(t), t a tuple of texts -/
section
variable {P : Program} {w : World} {A : Around} {E : Value → Shared → Prop} {s : Shared} {a : Addr} {m : List Str}
/-- what is collected of a tuple; the heap has grown -/
theorem collect_tupG {Q : List Value → Shared → Prop} {o : Obj} {items : Array Value} {n : Nat} {it : Addr} (ho : s.heap.get? it = some o) (hc : o.cls = .type "tuple") (hd : o.data = .seq items n)
    (hQ : ∀ h', (∀ b o', s.heap.get? b = some o' → h'.get? b = some o') → s.heap.objs.size ≤ h'.objs.size → Q items.toList { s with heap := h' }) (hsz : items.size ≤ sizeLine) :
    wpAny (model P w) A (collect (.ref it)) Q E s := by
  unfold collect
  refine wpAny_bind (wpAny_runValue (codeAny_builtin PySem.F.entry_proto_collect ?_))
  rw [Around.under_plainId PySem.F.plain_proto_collect _]
  show wpAny _ A.in1 (newList [] >>= fun l => again (.builtin "list.__iadd__" ⟨[l, .ref it], []⟩)) _ _ s
  refine wpAny_bind (wpAny_newObj_type ?_)
  refine wpAny_pure ⟨plainId_quiet PySem.F.plain_list_iadd _, codeAny_builtin PySem.F.entry_list_iadd ?_⟩
  rw [Around.under_plainId PySem.F.plain_list_iadd _]
  show wpAny _ A.in1 (Builtin.List.listExtendWith (.ref s.heap.objs.size) (.ref it) (.ref s.heap.objs.size)) _ _ _
  have hS : (s.heap.push { cls := .type "list", data := .seq ([] : List Value).toArray }).get? s.heap.objs.size = some { cls := .type "list", data := .seq #[] 0 } := Heap.get?_push_size _ rfl
  have hS₂ := Heap.get?_update_self (Obj.mapSeq (· ++ items)) hS rfl
  have fin' : wpAny (model P w) A (match Value.ref s.heap.objs.size with
      | Value.ref a => do
        match (← load a).data with
          | Data.seq xs _ => pure xs.toList
          | _ => unsupported "internal:collect"
      | _ => unsupported "internal:collect") Q E { s with heap := (s.heap.push { cls := .type "list", data := .seq ([] : List Value).toArray }).update s.heap.objs.size (Obj.mapSeq (· ++ items)) } := by
    show wpAny _ A (load s.heap.objs.size >>= _) _ _ _
    refine wpAny_bind (wpAny_load hS₂ ?_)
    refine wpAny_pure ?_
    have e : ((#[] : Array Value) ++ items).toList = items.toList := by simp
    show Q ((#[] : Array Value) ++ items).toList _
    rw [e]
    refine hQ _ (fun b o' hb => ?_) (by rw [Heap.size_after_update, Heap.size_push]; omega)
    exact (Heap.get?_update_other _ _ (Nat.ne_of_gt (Heap.lt_size hb))).trans (Heap.get?_push_of_some _ hb)
  refine wpAny_mono (wpAny_extend_seq (hsz := hsz) (A := A) (R := fun r s' => r = .ok (.ret (.ref s.heap.objs.size)) ∧ s' = { s with heap := (s.heap.push { cls := .type "list", data := .seq ([] : List Value).toArray }).update s.heap.objs.size (Obj.mapSeq (· ++ items)) })
    (s := { s with heap := s.heap.push { cls := .type "list", data := .seq ([] : List Value).toArray } }) _ it _ 0 (.inr rfl) hS (Heap.get?_push_of_some _ ho) hc hd ⟨rfl, rfl⟩) (fun fin s' h => ?_) (fun e s' h => ?_)
  · cases fin with
    | done f =>
      obtain ⟨e, rfl⟩ := h
      cases e
      exact fin'
    | again c' => exact ⟨h.1, codeAny_mono h.2 fun r s'' hr => by obtain ⟨rfl, rfl⟩ := hr; exact fin'⟩
  · exact absurd h.1 (by simp)
theorem sorted_tupT {Q : Value → Shared → Prop} {its : List Value} (ht : IsTup s.heap a its.toArray) (st : StrsAre its m) (hz : m.length ≤ sizeLine)
    (h : ∀ s' p (out : Array Value) (c : Nat) (ys : List Str), (∀ b o, s.heap.get? b = some o → s'.heap.get? b = some o) → s'.gens = s.gens → s'.os = s.os → s.heap.objs.size ≤ p → s'.heap.get? p = some (seqObj "list" out c) →
      StrsAre out.toList ys → ys.Perm m → sortedS ys = true → Q (.ref p) s') : wpAny (model P w) A (call (.builtin "sorted") [.ref a]) Q E s := by
  obtain ⟨o, ho, hc, n, hd⟩ := ht
  have hlen : its.length = m.length := st.length
  refine Calls.call_function_entry kind_sorted plain_sorted entry_sorted (args_sorted1 _) ?_
  unfold Builtin.«sorted»
  refine wpAny_bind (m := checkCount "sorted" 1 1 _) (wpAny_pure ?_)
  refine wpAny_bind (collect_tupG (A := A.in1) ho hc hd (fun h1 k1 g1 => ?_) (by rw [List.size_toArray, hlen]; exact hz))
  show wpAny _ _ (newList its.toArray.toList >>= _) _ _ _
  rw [List.toList_toArray]
  refine wpAny_bind (wpAny_newList ?_ (by rw [hlen]; exact hz))
  have at_ : (h1.push (seqObj "list" its.toArray 0)).get? h1.objs.size = some (seqObj "list" its.toArray 0) := Heap.get?_push_size _ rfl
  refine wpAny_bind (wpAny_holding (wpAny_call_entry slot_list_sort ⟨_, at_, rfl⟩ entry_list_sort (list_sort_treeKAny strKind_oneLt at_ st.keysOf (fun v₁ v₂ rest e => keyKind_strs (by rw [← e]; exact st)) (by rw [hlen]; exact hz) fun st' hp hs => ⟨_, rfl, ?_⟩) (args_list_sort _)))
  obtain ⟨ys, e1, e2, e3⟩ := sorted_out_str st hp hs
  obtain ⟨c, hc⟩ := sortedHeap_at (vs := its) (out := (arrOf st').map (·.2)) at_
  refine wpAny_pure ⟨_, rfl, h _ h1.objs.size _ c ys (fun b u e => ?_) rfl rfl g1 hc e1 e2 e3⟩
  · have q := k1 b u e
    have lt := Heap.lt_size q
    show (sortedHeap (h1.push (seqObj "list" its.toArray 0)) h1.objs.size its _).get? b = some u
    rw [sortedHeap_old (Nat.ne_of_lt lt) (by rw [Heap.size_push]; exact Nat.lt_succ_of_lt lt)]
    exact Heap.get?_push_of_some _ q
end
section
variable {X : Cx}
def rSortTu (K : PySem.W.Frag) : List V → Hp → VK → Prop := fun xs H Q => ∃ (a : Addr) (m : List Str), xs = [.ref a] ∧ SqT K H a (m.map V.str) ∧ m.length < 1000 ∧
  ∀ ys q, ys.Perm m → sortedS ys = true → H q = none → Q (.ref q) (upd H q (.lst (ys.map V.str)))
theorem call_sortTu : CallR X (.builtin "sorted") (rSortTu X.K) := by
  intro pins s σ H vs us Q I r h
  obtain ⟨a, m, rfl, ha, hl, q⟩ := h
  rw [Vals.ref1 r]
  obtain ⟨its, rv, ht, _⟩ := I.tuple ha
  refine sorted_tupT ht rv.strs (by rw [sizeLine_eq]; omega) fun s' p' out c ys k g o hp' e h1 h2 h3 => ?_
  have hlen : (ys.map V.str).length ≤ sizeLine := by rw [List.length_map, h2.length_eq, sizeLine_eq]; omega
  have J := I.laid (t' := s'.toks) (o := .lst (ys.map V.str)) k hp' ⟨hlen, out.toList, c, vals_of_strs h1, e⟩
  have bare : AllBare s'.gens := by rw [g]; exact I.bare
  exact ⟨.ref p', _, ⟨J.ok, o.trans I.os, bare, J.base, J.loc, J.cell, J.free, J.freeC, J.pin, J.hok, J.len⟩, rfl, q ys p' h2 h3 (I.hok.fresh hp')⟩
def rdSortTu : RDC := fun ds M Q => ∃ xs : List Str, ds = [.tup (xs.map D.str)] ∧ xs.length < 1000 ∧ ∀ ys : List Str, ys.Perm xs → sortedS ys = true → Q (.lst (ys.map D.str)) M
theorem snd_sortTu : SndC X (rSortTu X.K) rdSortTu := by
  intro Δ I M H σ env G vs ds r Q Qd k ⟨xs, e, h64, q⟩
  subst e
  obtain ⟨v, rfl, rv⟩ := r.one_inv
  obtain ⟨a, us, rfl, h1, h2⟩ := rv.tup_inv
  have e := h2.strs
  subst e
  refine ⟨a, xs, rfl, G.at_.sqT h1, h64, fun ys p hp hs hn => ?_⟩
  obtain ⟨x2, G2⟩ := G.newI hn (.lst (ys.map V.str))
  exact k _ _ _ _ _ x2 G2 (.lst upd_same (Rps.ofStrs ys)) (q ys hp hs)
end
end BB

set_option maxHeartbeats 4000000
namespace BB
open L2 PySem PySem.Spec PyProof.Rows
/-- names in any tuple -/
def namesD (zs : List Str) : D := .tup (zs.map .str)
end BB

set_option maxHeartbeats 4000000
namespace BB
open L2 PySem PySem.Spec PyProof.Rows

/-! ### promises by the number of arguments -/
def spN1 (p : D → Mem → DKt → DX → Prop) : SpD := fun ds M Q E => ∃ a, ds = [a] ∧ p a M Q E
def spN2 (p : D → D → Mem → DKt → DX → Prop) : SpD := fun ds M Q E => ∃ a b, ds = [a, b] ∧ p a b M Q E
def spN3 (p : D → D → D → Mem → DKt → DX → Prop) : SpD := fun ds M Q E => ∃ a b c, ds = [a, b, c] ∧ p a b c M Q E
def spN4 (p : D → D → D → D → Mem → DKt → DX → Prop) : SpD := fun ds M Q E => ∃ a b c d, ds = [a, b, c, d] ∧ p a b c d M Q E
theorem len1 {p} : ∀ ds M Q E, spN1 p ds M Q E → ds.length = 1 := by rintro _ _ _ _ ⟨_, rfl, _⟩; rfl
theorem len2 {p} : ∀ ds M Q E, spN2 p ds M Q E → ds.length = 2 := by rintro _ _ _ _ ⟨_, _, rfl, _⟩; rfl
theorem len3 {p} : ∀ ds M Q E, spN3 p ds M Q E → ds.length = 3 := by rintro _ _ _ _ ⟨_, _, _, rfl, _⟩; rfl
theorem len4 {p} : ∀ ds M Q E, spN4 p ds M Q E → ds.length = 4 := by rintro _ _ _ _ ⟨_, _, _, _, rfl, _⟩; rfl
/-- what a def may let out, as its body sees it -/
def wd (E : DX) : DW := fun c fs _ M' => FzV (fun _ M'' => E c fs M'') .non M'
theorem hu65_of {k : Nat} {A : Around} (h : Room k A) : A.units + 65 < cLine := by have := h.un; omega
theorem hu1_of {k : Nat} {A : Around} (h : Room k A) : A.units + 1 < cLine := by have := h.un; omega
theorem hu_of {k : Nat} {A : Around} (h : Room k A) : A.units + 64 < cLine := by have := h.un; omega

/-! ### the draws -/
def sp__law_begun (K : PySem.W.Frag) : SpD := spN1 fun d M Q E => ∃ xs : List Int, d = .frz (xs.map .int) ∧ xs.length ≤ 63 ∧ ∀ a c, M a = none → M c = none → a ≠ c → Q (.ref a) (mset (mset M c (.own a)) a (.gen c))
def sp__law_draw (K : PySem.W.Frag) : SpD := spN2 fun s n M Q E => ∃ a c m, s = .ref a ∧ M a = some (.gen c) ∧ n = .int m ∧ 0 < m ∧ m < 1073741824 ∧ ∀ r : Int, 0 ≤ r → r < m → Q (.int r) M

/-! ### names, plans -/
def SMALLS : Str := "abcdefghijklmnopqrstuvwxyz"
def isNameB (z : Str) : Bool := decide (1 ≤ z.length) && (decide (z.length ≤ 6) && z.cps.toList.all fun c => decide (c ∈ SMALLS.cps.toList))
def isNameD : D → Bool
  | .str z => isNameB z
  | _ => false
/-- a thing that can be asked for its kind -/
def Plain (M : Mem) (d : D) : Prop := (∃ T, tyD M d = some T) ∧ ∀ z, d = .str z → z.length ≤ sizeLine
def sp__law_name (K : PySem.W.Frag) : SpD := spN1 fun s M Q E => ∃ a c, s = .ref a ∧ M a = some (.gen c) ∧ ∀ z, isNameB z = true → Q (.str z) M
/-- names: strictly rising -/
def isNames (zs : List Str) (lo hi : Nat) : Prop := (∀ z ∈ zs, isNameB z = true) ∧ zs.Pairwise (fun x y => ltS x y = true) ∧ lo ≤ zs.length ∧ zs.length ≤ hi
abbrev Door := Option (Str × Nat)
def doorD : Door → D
  | none => .non
  | some (s, n) => .tup [.str s, .int n]
structure Pl where
  letters : List Str
  signs : List Str
  rooms : List (List Door)
structure Pl.Ok (p : Pl) : Prop where
  ls : isNames p.letters 1 4
  ss : isNames p.signs 2 4
  lo : 1 ≤ p.rooms.length
  hi : p.rooms.length ≤ 36
  row : ∀ r ∈ p.rooms, r.length = p.letters.length
  door : ∀ r ∈ p.rooms, ∀ s n, some (s, n) ∈ r → s ∈ p.signs ∧ n < p.rooms.length
def rowsD' (rs : List (List Door)) : D := .tup (rs.map fun r => .tup (r.map doorD))
def partsD (p : Pl) : D := .tup [namesD p.letters, namesD p.signs, rowsD' p.rooms]
def planD (K : PySem.W.Frag) (p : Pl) : D := .ins (He.ga K "Plan") [("own_letters", namesD p.letters), ("own_signs", namesD p.signs), ("own_rooms", rowsD' p.rooms)]
def Pl.door' (p : Pl) (room : Nat) (z : Str) : Door := ((p.rooms[room]?).getD [])[ixOf z p.letters]?.getD none
def sp__law_parts (K : PySem.W.Frag) : SpD := spN4 fun s n l t M Q E => ∃ a c m lm sh, s = .ref a ∧ M a = some (.gen c) ∧ n = .int m ∧ l = .int lm ∧ t = .int sh ∧ 1 ≤ m ∧ m ≤ 36 ∧ 1 ≤ lm ∧ lm ≤ 4 ∧ 0 ≤ sh ∧ sh < 1000 ∧
  ∀ p : Pl, p.Ok → p.rooms.length = m.toNat → Q (partsD p) M

def sp_Plan_letters (K : PySem.W.Frag) : SpD := spN1 fun o M Q E => ∃ p, o = planD K p ∧ Q (namesD p.letters) M
def sp_Plan_rooms (K : PySem.W.Frag) : SpD := spN1 fun o M Q E => ∃ p, o = planD K p ∧ Q (rowsD' p.rooms) M
def sp_Plan___len__ (K : PySem.W.Frag) : SpD := spN1 fun o M Q E => ∃ p, o = planD K p ∧ p.rooms.length ≤ 1000 ∧ Q (.int p.rooms.length) M
def sp_door_by (K : PySem.W.Frag) : SpD := spN3 fun o r l M Q E => ∃ (p : Pl) (room : Nat) (z : Str), p.Ok ∧ o = planD K p ∧ r = .int room ∧ room < p.rooms.length ∧ l = .str z ∧ z ∈ p.letters ∧ Q (doorD (p.door' room z)) M
/-- where a word of letters stops -/
def Pl.stop (p : Pl) : List Str → Nat → Option Nat
  | [], _ => none
  | z :: ws, r => match p.door' r z with
    | none => some 0
    | some (_, n) => (p.stop ws n).map (· + 1)
def Pl.along (p : Pl) : List Str → Nat → Option (List Str × Nat)
  | [], r => some ([], r)
  | z :: ws, r => match p.door' r z with
    | none => none
    | some (s, n) => (p.along ws n).map fun q => (s :: q.1, q.2)
def wordD (ws : List Str) : D := .tup (ws.map .str)
/-- a word of letters of the plan, not too long -/
def Pl.Word (p : Pl) (ws : List Str) : Prop := (∀ z ∈ ws, z ∈ p.letters) ∧ ws.length ≤ 60
def stopD : Option Nat → D
  | none => .non
  | some n => .int (n : Nat)
def sp_stop_of (K : PySem.W.Frag) : SpD := spN3 fun o w r M Q E => ∃ (p : Pl) (ws : List Str) (room : Nat), p.Ok ∧ o = planD K p ∧ w = wordD ws ∧ p.Word ws ∧ r = .int room ∧ room < p.rooms.length ∧ Q (stopD (p.stop ws room)) M
def sp_need_room (K : PySem.W.Frag) : SpD := spN2 fun o r M Q E => ∃ (p : Pl) (room : Nat), p.Ok ∧ o = planD K p ∧ r = .int room ∧ room < p.rooms.length ∧ Q (.int room) M
def sp_need_word (K : PySem.W.Frag) : SpD := spN3 fun o w r M Q E => ∃ (p : Pl) (ws : List Str) (room : Nat), p.Ok ∧ o = planD K p ∧ w = wordD ws ∧ p.Word ws ∧ r = .int room ∧ room < p.rooms.length ∧
  (p.stop ws room = none → Q (wordD ws) M) ∧ ∀ n, p.stop ws room = some n → E (.ref (He.ga K "NoWord")) [("at", .int (n : Nat))] M
def sp_goes (K : PySem.W.Frag) : SpD := spN3 fun o w r M Q E => ∃ (p : Pl) (ws : List Str) (room : Nat), p.Ok ∧ o = planD K p ∧ w = wordD ws ∧ p.Word ws ∧ r = .int room ∧ room < p.rooms.length ∧ Q (.bl (p.stop ws room).isNone) M
def sp_told (K : PySem.W.Frag) : SpD := spN3 fun o w r M Q E => ∃ (p : Pl) (ws : List Str) (room : Nat), p.Ok ∧ o = planD K p ∧ w = wordD ws ∧ p.Word ws ∧ r = .int room ∧ room < p.rooms.length ∧
  (∀ h e, p.along ws room = some (h, e) → Q (wordD h) M) ∧ ∀ n, p.stop ws room = some n → E (.ref (He.ga K "NoWord")) [("at", .int (n : Nat))] M
def sp_behind (K : PySem.W.Frag) : SpD := spN3 fun o w r M Q E => ∃ (p : Pl) (ws : List Str) (room : Nat), p.Ok ∧ o = planD K p ∧ w = wordD ws ∧ p.Word ws ∧ r = .int room ∧ room < p.rooms.length ∧
  (∀ h e, p.along ws room = some (h, e) → Q (.int e) M) ∧ ∀ n, p.stop ws room = some n → E (.ref (He.ga K "NoWord")) [("at", .int (n : Nat))] M

/-! ### the law's own -/
def alongD : Option (List Str × Nat) → D
  | none => .non
  | some (h, e) => .tup [wordD h, .int (e : Nat)]
def sp__law_along (K : PySem.W.Frag) : SpD := spN3 fun q w r M Q E => ∃ (p : Pl) (ws : List Str) (room : Nat), p.Ok ∧ q = partsD p ∧ w = wordD ws ∧ p.Word ws ∧ r = .int room ∧ room < p.rooms.length ∧ Q (alongD (p.along ws room)) M
def sp__law_word (K : PySem.W.Frag) : SpD := spN3 fun s q n M Q E => ∃ (a c : Addr) (p : Pl) (m : Nat), s = .ref a ∧ M a = some (.gen c) ∧ q = partsD p ∧ p.Ok ∧ n = .int m ∧ m ≤ 60 ∧ ∀ ws : List Str, (∀ z ∈ ws, z ∈ p.letters) → ws.length ≤ m → Q (wordD ws) M
def sp__law_pieces (K : PySem.W.Frag) : SpD := spN2 fun s w M Q E => ∃ (a c : Addr) (ws : List Str), s = .ref a ∧ M a = some (.gen c) ∧ w = wordD ws ∧ ws.length ≤ 1000 ∧ ∀ x y z : List Str, x ++ (y ++ z) = ws → Q (.lst [wordD x, wordD y, wordD z]) M
def sp__law_by_pieces (K : PySem.W.Frag) : SpD := spN3 fun o q r M Q E => ∃ (p : Pl) (x y z : List Str) (room : Nat), p.Ok ∧ o = planD K p ∧ q = .lst [wordD x, wordD y, wordD z] ∧ p.Word (x ++ (y ++ z)) ∧ r = .int room ∧ room < p.rooms.length ∧
  Q (alongD (p.along (x ++ (y ++ z)) room)) M
def sp__law_place (K : PySem.W.Frag) : SpD := spN3 fun o w r M Q E => ∃ (p : Pl) (ws : List Str) (room : Nat), p.Ok ∧ o = planD K p ∧ w = wordD ws ∧ p.Word ws ∧ r = .int room ∧ room < p.rooms.length ∧ PySem.W.exmOne K (.ref (He.ga K "NoWord")) (.ref (He.ga K "NoWord")) = some true ∧
  Q (.int (match p.stop ws room with | none => -1 | some n => (n : Int))) M
end BB

set_option maxHeartbeats 4000000
namespace BB
open L2 PySem PySem.Spec PyProof.Rows
/-! ### law k01: parts of plans, and what is nearly that -/
def sp__law_names (K : PySem.W.Frag) : SpD := spN2 fun s n M Q E => ∃ a c m, s = .ref a ∧ M a = some (.gen c) ∧ n = .int m ∧ 1 ≤ m ∧ m ≤ 8 ∧ ∀ zs, isNames zs m.toNat m.toNat → Q (namesD zs) M
/-- a thing of a plain kind; what a tuple holds is told by P -/
def Tm0 (P : D → Prop) : D → Prop
  | .int _ | .bl _ | .non | .lst _ | .dK _ => True
  | .str z => z.length ≤ 1000
  | .tup xs => xs.length ≤ 2000 ∧ ∀ x ∈ xs, P x
  | _ => False
/-- .. so many tuples deep -/
def Tm : Nat → D → Prop
  | 0 => Tm0 fun _ => True
  | n + 1 => Tm0 (Tm n)
theorem Tm0.mono {P P' : D → Prop} (h : ∀ x, P x → P' x) : ∀ {d : D}, Tm0 P d → Tm0 P' d
  | .int _, _ | .bl _, _ | .non, _ | .lst _, _ | .dK _, _ => trivial
  | .str _, q => q
  | .tup _, q => ⟨q.1, fun x hx => h x (q.2 x hx)⟩
theorem Tm.less : ∀ {n : Nat} {d : D}, Tm (n + 1) d → Tm n d
  | 0, _, h => Tm0.mono (fun _ _ => trivial) h
  | n + 1, _, h => Tm0.mono (fun _ q => Tm.less (n := n) q) h
theorem Tm.elem {n : Nat} {xs : List D} (h : Tm (n + 1) (.tup xs)) : ∀ x ∈ xs, Tm n x := h.2
theorem Tm.size {n : Nat} {xs : List D} (h : Tm n (.tup xs)) : xs.length ≤ 2000 := by
  cases n with
  | zero => exact h.1
  | succ n => exact h.1
theorem Tm.strLen {n : Nat} {z : Str} (h : Tm n (.str z)) : z.length ≤ 1000 := by
  cases n <;> exact h
theorem tm_tup {n : Nat} {xs : List D} (h : ∀ x ∈ xs, Tm n x) (hl : xs.length ≤ 2000) : Tm (n + 1) (.tup xs) := ⟨hl, h⟩
theorem tm_str {n : Nat} {z : Str} (h : z.length ≤ 1000) : Tm n (.str z) := by cases n <;> exact h
theorem tm_int {n : Nat} {i : Int} : Tm n (.int i) := by cases n <;> trivial
theorem tm_bl {n : Nat} {i : Bool} : Tm n (.bl i) := by cases n <;> trivial
theorem tm_non {n : Nat} : Tm n .non := by cases n <;> trivial
theorem tm_lst {n : Nat} {xs : List D} : Tm n (.lst xs) := by cases n <;> trivial
theorem tm_dK {n : Nat} {xs : List (Key × D)} : Tm n (.dK xs) := by cases n <;> trivial
/-- by cases of kinds -/
inductive Kd : D → Prop
  | int (i : Int) : Kd (.int i)
  | bl (b : Bool) : Kd (.bl b)
  | non : Kd .non
  | str (z : Str) : Kd (.str z)
  | tup (xs : List D) : Kd (.tup xs)
  | lst (xs : List D) : Kd (.lst xs)
  | dK (kvs : List (Key × D)) : Kd (.dK kvs)
theorem Tm.kd {n : Nat} {d : D} (h : Tm n d) : Kd d := by
  cases n <;> cases d <;> first | exact .int _ | exact .bl _ | exact .non | exact .str _ | exact .tup _ | exact .lst _ | exact .dK _ | exact absurd h (by intro z; exact z)
def textOf : D → Str
  | .str z => z
  | _ => ""
def listOfD : D → List D
  | .tup xs => xs
  | _ => []
instance {zs : List Str} : Decidable (zs.Pairwise fun x y => ltS x y = true) := inferInstance
def namesB (lo hi : Nat) : D → Bool
  | .tup xs => decide (lo ≤ xs.length) && decide (xs.length ≤ hi) && (xs.all isNameD && decide ((xs.map textOf).Pairwise fun x y => ltS x y = true))
  | _ => false
def countB : D → Bool
  | .int i => decide (0 ≤ i)
  | _ => false
def doorB (ss : List Str) (many : Nat) : D → Bool
  | .non => true
  | .tup [.str s, .int i] => decide (s ∈ ss) && (decide (0 ≤ i) && decide (i < many))
  | _ => false
def rowB (k : Nat) (ss : List Str) (many : Nat) : D → Bool
  | .tup ds => decide (ds.length = k) && ds.all (doorB ss many)
  | _ => false
def roomsB (k : Nat) (ss : List Str) : D → Bool
  | .tup rows => decide (1 ≤ rows.length) && decide (rows.length ≤ 36) && rows.all (rowB k ss rows.length)
  | _ => false
def goodB (l s r : D) : Bool := namesB 1 4 l && (namesB 2 4 s && roomsB (listOfD l).length ((listOfD s).map textOf) r)
theorem texts_of : ∀ {xs : List D}, xs.all isNameD = true → xs = ((xs.map textOf).map D.str) ∧ ∀ z ∈ xs.map textOf, isNameB z = true
  | [], _ => ⟨rfl, fun _ h => (by cases h)⟩
  | x :: xs, h => by
    rw [List.all_cons, Bool.and_eq_true] at h
    obtain ⟨h1, h2⟩ := texts_of h.2
    have hx := h.1
    unfold isNameD at hx
    split at hx
    · rename_i z
      refine ⟨?_, fun y hy => ?_⟩
      · rw [List.map_cons, List.map_cons, ← h1]; rfl
      · rcases List.mem_cons.mp hy with rfl | hy
        · exact hx
        · exact h2 y hy
    · cases hx
theorem names_of {lo hi : Nat} {d : D} (h : namesB lo hi d = true) : ∃ zs, d = namesD zs ∧ isNames zs lo hi := by
  unfold namesB at h
  split at h
  · rename_i xs
    rw [Bool.and_eq_true, Bool.and_eq_true, Bool.and_eq_true] at h
    obtain ⟨⟨h1, h2⟩, h3, h4⟩ := h
    obtain ⟨e, hz⟩ := texts_of h3
    refine ⟨xs.map textOf, ?_, hz, of_decide_eq_true h4, ?_, ?_⟩
    · unfold namesD; rw [← e]
    · rw [List.length_map]; exact of_decide_eq_true h1
    · rw [List.length_map]; exact of_decide_eq_true h2
  · cases h
theorem texts_names (zs : List Str) : (zs.map D.str).map textOf = zs := by
  rw [List.map_map]
  exact (List.map_congr_left fun _ _ => rfl).trans (List.map_id _)
theorem isNameD_all {zs : List Str} (h : ∀ z ∈ zs, isNameB z = true) : (zs.map D.str).all isNameD = true := by
  rw [List.all_map]
  exact List.all_eq_true.mpr fun z hz => h z hz
theorem namesB_of {lo hi : Nat} {zs : List Str} (h : isNames zs lo hi) : namesB lo hi (namesD zs) = true := by
  obtain ⟨h1, h2, h3, h4⟩ := h
  show (decide (lo ≤ (zs.map D.str).length) && decide ((zs.map D.str).length ≤ hi) && ((zs.map D.str).all isNameD && decide (((zs.map D.str).map textOf).Pairwise fun x y => ltS x y = true))) = true
  rw [List.length_map, texts_names, isNameD_all h1, decide_eq_true h2, decide_eq_true h3, decide_eq_true h4]
  rfl
def dOfD : D → Door
  | .tup [.str s, .int i] => some (s, i.toNat)
  | _ => none
theorem door_of {ss : List Str} {many : Nat} {d : D} (h : doorB ss many d = true) : d = doorD (dOfD d) ∧ ∀ s n, dOfD d = some (s, n) → s ∈ ss ∧ n < many := by
  unfold doorB at h
  split at h
  · exact ⟨rfl, fun _ _ e => nomatch e⟩
  · rename_i s i
    rw [Bool.and_eq_true, Bool.and_eq_true] at h
    have h1 := of_decide_eq_true h.1
    have h2 := of_decide_eq_true h.2.1
    have h3 := of_decide_eq_true h.2.2
    obtain ⟨n, rfl⟩ := Int.eq_ofNat_of_zero_le h2
    refine ⟨rfl, fun s' n' e => ?_⟩
    cases e
    exact ⟨h1, by rw [Int.toNat_natCast]; omega⟩
  · cases h
theorem doorB_of {ss : List Str} {many : Nat} {d : Door} (h : ∀ s n, d = some (s, n) → s ∈ ss ∧ n < many) : doorB ss many (doorD d) = true := by
  cases d with
  | none => rfl
  | some sn =>
    obtain ⟨s, n⟩ := sn
    obtain ⟨h1, h2⟩ := h s n rfl
    show (decide (s ∈ ss) && (decide ((0 : Int) ≤ (n : Nat)) && decide (((n : Nat) : Int) < many))) = true
    rw [decide_eq_true h1, decide_eq_true (show (0 : Int) ≤ (n : Nat) by omega), decide_eq_true (show ((n : Nat) : Int) < many by omega)]
    rfl
theorem row_of {k many : Nat} {ss : List Str} {d : D} (h : rowB k ss many d = true) : d = .tup (((listOfD d).map dOfD).map doorD) ∧ ((listOfD d).map dOfD).length = k ∧ ∀ s n, some (s, n) ∈ (listOfD d).map dOfD → s ∈ ss ∧ n < many := by
  unfold rowB at h
  split at h
  · rename_i ds
    rw [Bool.and_eq_true] at h
    have h1 := of_decide_eq_true h.1
    have h2 := List.all_eq_true.mp h.2
    refine ⟨?_, by rw [List.length_map]; exact h1, fun s n hm => ?_⟩
    · show D.tup ds = .tup ((ds.map dOfD).map doorD)
      rw [List.map_map]
      exact congrArg D.tup ((List.map_id ds).symm.trans (List.map_congr_left fun d hd => (door_of (h2 d hd)).1))
    · obtain ⟨d, hd, e⟩ := List.mem_map.mp hm
      exact (door_of (h2 d hd)).2 s n e
  · cases h
def rowsOfD (d : D) : List (List Door) := (listOfD d).map fun r => (listOfD r).map dOfD
theorem rooms_of {k : Nat} {ss : List Str} {d : D} (h : roomsB k ss d = true) : d = rowsD' (rowsOfD d) ∧ 1 ≤ (rowsOfD d).length ∧ (rowsOfD d).length ≤ 36 ∧ (∀ r ∈ rowsOfD d, r.length = k) ∧ ∀ r ∈ rowsOfD d, ∀ s n, some (s, n) ∈ r → s ∈ ss ∧ n < (rowsOfD d).length := by
  unfold roomsB at h
  split at h
  · rename_i rows
    rw [Bool.and_eq_true, Bool.and_eq_true] at h
    have h1 := of_decide_eq_true h.1.1
    have h2 := of_decide_eq_true h.1.2
    have h3 := List.all_eq_true.mp h.2
    have el : (rowsOfD (.tup rows)).length = rows.length := List.length_map ..
    rw [el]
    refine ⟨?_, h1, h2, fun r hr => ?_, fun r hr s n hm => ?_⟩
    · show D.tup rows = .tup ((rows.map fun r => (listOfD r).map dOfD).map fun r => .tup (r.map doorD))
      rw [List.map_map]
      exact congrArg D.tup ((List.map_id rows).symm.trans (List.map_congr_left fun d hd => (row_of (h3 d hd)).1))
    · obtain ⟨d, hd, rfl⟩ := List.mem_map.mp hr
      exact (row_of (h3 d hd)).2.1
    · obtain ⟨d, hd, rfl⟩ := List.mem_map.mp hr
      exact (row_of (h3 d hd)).2.2 s n hm
  · cases h
theorem good_of {l s r : D} (h : goodB l s r = true) : ∃ p : Pl, p.Ok ∧ l = namesD p.letters ∧ s = namesD p.signs ∧ r = rowsD' p.rooms := by
  unfold goodB at h
  rw [Bool.and_eq_true, Bool.and_eq_true] at h
  obtain ⟨h1, h2, h3⟩ := h
  obtain ⟨ls, rfl, hl⟩ := names_of h1
  obtain ⟨ss, rfl, hs⟩ := names_of h2
  have e1 : (listOfD (namesD ls)).length = ls.length := List.length_map ..
  have e2 : (listOfD (namesD ss)).map textOf = ss := texts_names ss
  rw [e1, e2] at h3
  obtain ⟨e, a, b, c, d⟩ := rooms_of h3
  exact ⟨⟨ls, ss, rowsOfD r⟩, ⟨hl, hs, a, b, c, d⟩, rfl, rfl, e⟩
theorem rowB_of {k many : Nat} {ss : List Str} {r : List Door} (hl : r.length = k) (h : ∀ s n, some (s, n) ∈ r → s ∈ ss ∧ n < many) : rowB k ss many (.tup (r.map doorD)) = true := by
  show (decide ((r.map doorD).length = k) && (r.map doorD).all (doorB ss many)) = true
  rw [List.length_map, decide_eq_true hl, Bool.true_and, List.all_map]
  refine List.all_eq_true.mpr fun d hd => doorB_of fun s n e => ?_
  subst e
  exact h s n hd
theorem goodB_of {p : Pl} (ok : p.Ok) : goodB (namesD p.letters) (namesD p.signs) (rowsD' p.rooms) = true := by
  unfold goodB
  have e1 : (listOfD (namesD p.letters)).length = p.letters.length := List.length_map ..
  have e2 : (listOfD (namesD p.signs)).map textOf = p.signs := texts_names p.signs
  rw [e1, e2, namesB_of ok.ls, namesB_of ok.ss]
  show (decide (1 ≤ (p.rooms.map fun r => D.tup (r.map doorD)).length) && decide ((p.rooms.map fun r => D.tup (r.map doorD)).length ≤ 36) && (p.rooms.map fun r => D.tup (r.map doorD)).all (rowB p.letters.length p.signs (p.rooms.map fun r => D.tup (r.map doorD)).length)) = true
  rw [List.length_map, decide_eq_true ok.lo, decide_eq_true ok.hi, List.all_map]
  exact List.all_eq_true.mpr fun r hr => rowB_of (ok.row r hr) fun s n hm => ok.door r hr s n hm
/-! promises -/
def sp_is_name (K : PySem.W.Frag) : SpD := spN1 fun d M Q E => Tm 0 d ∧ Q (.bl (isNameD d)) M
def sp__law_is_name (K : PySem.W.Frag) : SpD := spN1 fun d M Q E => Tm 0 d ∧ Q (.bl (isNameD d)) M
def sp_is_count (K : PySem.W.Frag) : SpD := spN1 fun d M Q E => Tm 0 d ∧ Q (.bl (countB d)) M
def sp_are_names (K : PySem.W.Frag) : SpD := spN3 fun d l h M Q E => ∃ lo hi : Nat, Tm 1 d ∧ l = .int (lo : Nat) ∧ h = .int (hi : Nat) ∧ hi ≤ 60 ∧ Q (.bl (namesB lo hi d)) M
def sp__law_are_names (K : PySem.W.Frag) : SpD := spN3 fun d l h M Q E => ∃ lo hi : Nat, Tm 1 d ∧ l = .int (lo : Nat) ∧ h = .int (hi : Nat) ∧ hi ≤ 60 ∧ Q (.bl (namesB lo hi d)) M
def sp_is_door (K : PySem.W.Frag) : SpD := spN3 fun d s n M Q E => ∃ (ss : List Str) (many : Nat), Tm 1 d ∧ s = namesD ss ∧ n = .int (many : Nat) ∧ Q (.bl (doorB ss many d)) M
def sp__law_is_door (K : PySem.W.Frag) : SpD := spN3 fun d s n M Q E => ∃ (ss : List Str) (many : Nat), Tm 1 d ∧ s = namesD ss ∧ n = .int (many : Nat) ∧ Q (.bl (doorB ss many d)) M
def sp_are_rooms (K : PySem.W.Frag) : SpD := spN3 fun d l s M Q E => ∃ ls ss : List Str, Tm 3 d ∧ l = namesD ls ∧ s = namesD ss ∧ Q (.bl (roomsB ls.length ss d)) M
def sp_Plan___init__ (K : PySem.W.Frag) : SpD := spN4 fun o l s r M Q E => ∃ a : Addr, o = .ref a ∧ M a = some (.ins (He.ga K "Plan") []) ∧ Tm 1 l ∧ Tm 1 s ∧ Tm 3 r ∧
  (goodB l s r = true → Q .non (mset M a (.ins (He.ga K "Plan") [("own_letters", l), ("own_signs", s), ("own_rooms", r)]))) ∧ (goodB l s r = false → E (.ref (He.ga K "NoPlan")) [] M)
/-- what is leant on of the refusal -/
structure XF1 (K : PySem.W.Frag) : Prop where
  q : ExcQ K (He.ga K "NoPlan")
  b : PySem.W.exmOne K (.ref (He.ga K "NoPlan")) (.ref (He.ga K "BoxError")) = some true
  v : PySem.W.kitOne K (.ref (He.ga K "NoPlan")) (.type "ValueError") = some true
  o : ∀ c ∈ [He.ga K "NoDeed", He.ga K "NoName", He.ga K "NoRoom", He.ga K "NoText", He.ga K "NoWord"], PySem.W.kitOne K (.ref (He.ga K "NoPlan")) (.ref c) = some false
  s : PySem.W.kitOne K (.ref (He.ga K "NoPlan")) (.ref (He.ga K "NoPlan")) = some true
/-- parts that can be asked for anything -/
def Parts (o l s r : D) : Prop := o = .tup [l, s, r] ∧ Tm 1 l ∧ Tm 1 s ∧ Tm 3 r
def Tidy (M : Mem) : Prop := ∀ d p, M d = some (.own p) → M p ≠ none
def sp__law_taken (K : PySem.W.Frag) : SpD := spN1 fun o M Q E => ∃ l s r, Parts o l s r ∧ XF1 K ∧ Tidy M ∧ Q (.bl (goodB l s r)) M
def sp__law_good (K : PySem.W.Frag) : SpD := spN1 fun o M Q E => ∃ l s r, Parts o l s r ∧ Q (.bl (goodB l s r)) M
def sp__law_bent_names (K : PySem.W.Frag) : SpD := spN2 fun s o M Q E => ∃ (a c : Addr) (zs : List Str), s = .ref a ∧ M a = some (.gen c) ∧ o = namesD zs ∧ 1 ≤ zs.length ∧ zs.length ≤ 4 ∧ (∀ z ∈ zs, z.length ≤ 6) ∧ ∀ d, Tm 1 d → Q d M
def sp__law_bent_doors (K : PySem.W.Frag) : SpD := spN4 fun s o g n M Q E => ∃ (a c : Addr) (row : List Door) (ss : List Str) (many : Nat), s = .ref a ∧ M a = some (.gen c) ∧ o = .tup (row.map doorD) ∧ g = namesD ss ∧ n = .int (many : Nat) ∧
  1 ≤ row.length ∧ row.length ≤ 4 ∧ 1 ≤ ss.length ∧ (∀ z ∈ ss, z.length ≤ 6) ∧ (∀ z n, some (z, n) ∈ row → z.length ≤ 6) ∧ ∀ d, Tm 2 d → Q d M
def sp__law_bent (K : PySem.W.Frag) : SpD := spN2 fun s o M Q E => ∃ (a c : Addr) (p : Pl), s = .ref a ∧ M a = some (.gen c) ∧ p.Ok ∧ o = partsD p ∧ ∀ o' l s r, Parts o' l s r → Q o' M
def sp_law (K : PySem.W.Frag) : SpD := spN1 fun d M Q E => ∃ xs : List Int, d = .frz (xs.map .int) ∧ xs.length ≤ 63 ∧ (∀ b, M b = none) ∧ XF1 K ∧ ∀ M', Q (.bl true) M'
end BB

set_option maxHeartbeats 4000000

namespace BB
open L2 PySem PySem.Spec PyProof.Rows
/-! what each def does, over data: printed by gen.py -/
def rd__law_name (K : PySem.W.Frag) (Wd : DW) : DS :=
  (dSeq (dIfS (dTest (dOp (rdEq) (dN (dCall Wd (sp__law_draw K) [] (dCons (dVar 0) (dCons (dC (.int 3)) (dNil))))) (dN (dC (.int 0))))) (dRet (dOp (rdO ixD) (dN (dLst (dCons (dC (.str "room")) (dCons (dC (.str "box")) (dCons (dC (.str "word")) (dCons (dC (.str "suite")) (dCons (dC (.str "sign")) (dCons (dC (.str "claim")) (dCons (dC (.str "plan")) (dCons (dC (.str "done")) (dCons (dC (.str "put")) (dCons (dC (.str "tell")) (dNil))))))))))))) (dCall Wd (sp__law_draw K) [] (dCons (dVar 0) (dCons (dC (.int 10)) (dNil)))))) dNext)
  (dSeq (dSet 1 (dOp (rdO ixD) (dN (dLst (dCons (dC (.int 1)) (dCons (dC (.int 1)) (dCons (dC (.int 1)) (dCons (dC (.int 2)) (dCons (dC (.int 6)) (dCons (dC (.int 3)) (dNil))))))))) (dCall Wd (sp__law_draw K) [] (dCons (dVar 0) (dCons (dC (.int 6)) (dNil))))))
  (dRet (dJoin (dC (.str "")) (dN (dLc (dRng1 (dCons (dN (dVar 1)) (dNil))) (gdName 2) dYes (dOp (rdO ixD) (dN (dC (.str "abcdefghijklmnopqrstuvwxyz"))) (dCall noD (sp__law_draw K) [] (dCons (dVar 0) (dCons (dC (.int 26)) (dNil))))) [2]))))))
def rd__law_names (K : PySem.W.Frag) (Wd : DW) : DS :=
  (dSeq (dSet 2 (dLstM (dNil)))
  (dSeq (dWhile (dTest (dOp (rdO (cmpD (fun i j => decide (i < j)) ltS)) (dN (dCB (rd1 lenD) (dCons (dN (dVar 2)) (dNil)))) (dN (dVar 1)))) (dSeq (dSet 3 (dCall Wd (sp__law_name K) [] (dCons (dVar 0) (dNil))))
  (dSeq (dIfS ((dAnd (dTest (dOp (rdNe) (dN (dVar 2)) (dN (dLst (dNil))))) (dTest (dOp (rdEq) (dN (dCall Wd (sp__law_draw K) [] (dCons (dVar 0) (dCons (dC (.int 4)) (dNil))))) (dN (dC (.int 0))))))) (dSet 3 (dOp (rdO addD) (dN (dSl (dN (dOp (rdO ixD) (dN (dVar 2)) (dNeg (dC (.int 1))))) dNoPart (dPart (dC (.int 5))))) (dN (dOp (rdO ixD) (dN (dC (.str "abz"))) (dCall Wd (sp__law_draw K) [] (dCons (dVar 0) (dCons (dC (.int 3)) (dNil)))))))) dNext)
  (dSeq (dSet 4 (dOp (rdO addD) (dN (dLst (dCons (dVar 3) (dNil)))) (dN (dLc (dSeqI (dN (dC (.str "abcdefghijklmnopqrstuvwxyz")))) (gdName 5) dYes (dOp (rdO addD) (dN (dSl (dN (dVar 3)) dNoPart (dPart (dC (.int 4))))) (dN (dVar 5))) [5]))))
  (dDrop (dApp (dVar 2) (dOp (rdO ixD) (dN (dLc (dSeqI (dN (dVar 4))) (gdName 6) (dTest (dOp (rdIn true) (dN (dVar 6)) (dN (dVar 2)))) (dVar 6) [6])) (dC (.int 0)))))))))
  (dRet (dCB (rd1 tupD) (dCons (dN (dCB (rdSortS) (dCons (dN (dVar 2)) (dNil)))) (dNil))))))
def rd__law_parts (K : PySem.W.Frag) (Wd : DW) : DS :=
  (dSeq (dSet 4 (dCall Wd (sp__law_names K) [] (dCons (dVar 0) (dCons (dOp (rdO addD) (dN (dC (.int 1))) (dN (dCall Wd (sp__law_draw K) [] (dCons (dVar 0) (dCons (dVar 2) (dNil)))))) (dNil)))))
  (dSeq (dPar 5 6 (dCall Wd (sp__law_names K) [] (dCons (dVar 0) (dCons (dOp (rdO addD) (dN (dC (.int 2))) (dN (dCall Wd (sp__law_draw K) [] (dCons (dVar 0) (dCons (dC (.int 3)) (dNil)))))) (dNil)))) (dLstM (dNil)))
  (dSeq (dFor (dRng1 (dCons (dN (dVar 1)) (dNil))) (gdName 7) (dSeq (dSet 8 (dLstM (dNil)))
  (dSeq (dFor (dSeqI (dN (dVar 4))) (gdName 9) (dSeq (dSet 10 (dTup (dCons (dOp (rdO ixD) (dN (dVar 5)) (dCall Wd (sp__law_draw K) [] (dCons (dVar 0) (dCons (dCB (rd1 lenD) (dCons (dN (dVar 5)) (dNil))) (dNil))))) (dCons (dCall Wd (sp__law_draw K) [] (dCons (dVar 0) (dCons (dVar 1) (dNil)))) (dNil)))))
  (dSeq (dIfS ((dAnd (dTest (dOp (rdO (cmpD (fun i j => decide (i < j)) ltS)) (dN (dOp (rdO addD) (dN (dVar 7)) (dN (dC (.int 1))))) (dN (dVar 1)))) (dTest (dOp (rdEq) (dN (dCall Wd (sp__law_draw K) [] (dCons (dVar 0) (dCons (dC (.int 3)) (dNil))))) (dN (dC (.int 0))))))) (dSet 10 (dTup (dCons (dOp (rdO ixD) (dN (dVar 10)) (dC (.int 0))) (dCons (dOp (rdO addD) (dN (dVar 7)) (dN (dC (.int 1)))) (dNil))))) dNext)
  (dSeq (dIfS ((dAnd (dTest (dOp (rdO (intD fun i j => decide (i > j))) (dN (dVar 3)) (dN (dC (.int 0))))) (dTest (dOp (rdEq) (dN (dCall Wd (sp__law_draw K) [] (dCons (dVar 0) (dCons (dVar 3) (dNil))))) (dN (dC (.int 0))))))) (dSet 10 (dC .non)) dNext)
  (dDrop (dApp (dVar 8) (dVar 10)))))))
  (dDrop (dApp (dVar 6) (dCB (rd1 tupD) (dCons (dN (dVar 8)) (dNil))))))))
  (dRet (dTup (dCons (dVar 4) (dCons (dVar 5) (dCons (dCB (rd1 tupD) (dCons (dN (dVar 6)) (dNil))) (dNil)))))))))
def rd__law_is_name (K : PySem.W.Frag) (Wd : DW) : DS :=
  (dSeq (dIfS ((dOr (dNot (dTru (dN (dCB rdIsi (dCons (dVar 0) (dCons (dC (.ty "str")) (dNil))))))) (dNot (dTest (dChain (rdO (intD fun i j => decide (i ≤ j))) (rdO (intD fun i j => decide (i ≤ j))) (dN (dC (.int 1))) (dN (dCB (rd1 lenD) (dCons (dN (dVar 0)) (dNil)))) (dN (dC (.int 6)))))))) (dRet (dC (.bl false))) dNext)
  (dRet (dOp (rdEqE false) (dN (dLc (dSeqI (dN (dVar 0))) (gdName 1) (dTest (dOp (rdIn true) (dN (dVar 1)) (dN (dC (.str "abcdefghijklmnopqrstuvwxyz"))))) (dVar 1) [1])) (dN (dLst (dNil))))))
def rd_is_name (K : PySem.W.Frag) (Wd : DW) : DS :=
  (dRet ((dAndV (dCB rdIsi (dCons (dVar 0) (dCons (dC (.ty "str")) (dNil)))) (dAndV (dChain (rdO (intD fun i j => decide (i ≤ j))) (rdO (intD fun i j => decide (i ≤ j))) (dN (dC (.int 1))) (dN (dCB (rd1 lenD) (dCons (dN (dVar 0)) (dNil)))) (dN (dC (.int 6)))) (dCB (rdAll) (dCons (dN (dLc (dSeqI (dN (dVar 0))) (gdName 1) dYes (dOp (rdIn false) (dN (dVar 1)) (dN (dC (.str "abcdefghijklmnopqrstuvwxyz")))) [1])) (dNil)))))))
def rd_are_names (K : PySem.W.Frag) (Wd : DW) : DS :=
  (dSeq (dIfS ((dOr (dNot (dTru (dN (dCB rdIsi (dCons (dVar 0) (dCons (dC (.ty "tuple")) (dNil))))))) (dOr (dNot (dTest (dChain (rdO (intD fun i j => decide (i ≤ j))) (rdO (intD fun i j => decide (i ≤ j))) (dN (dVar 1)) (dN (dCB (rd1 lenD) (dCons (dN (dVar 0)) (dNil)))) (dN (dVar 2))))) (dNot (dTru (dN (dCB (rdAll) (dCons (dN (dLc (dSeqI (dN (dVar 0))) (gdName 3) dYes (dCall noD (sp_is_name K) [] (dCons (dVar 3) (dNil))) [3])) (dNil))))))))) (dRet (dC (.bl false))) dNext)
  (dRet (dCB (rdAll) (dCons (dN (dLc (dZip2 (dCons (dN (dVar 0)) (dCons (dN (dSl (dN (dVar 0)) (dPart (dC (.int 1))) dNoPart)) (dNil)))) (gdTup 2 (gdCons (gdName 3) (gdCons (gdName 4) (gdNil)))) dYes (dOp (rdO (cmpD (fun i j => decide (i < j)) ltS)) (dN (dVar 3)) (dN (dVar 4))) [3, 4])) (dNil)))))
def rd_is_count (K : PySem.W.Frag) (Wd : DW) : DS :=
  (dRet ((dAndV (dCB rdIsi (dCons (dVar 0) (dCons (dC (.ty "int")) (dNil)))) (dAndV (dNotV (dN (dCB rdIsi (dCons (dVar 0) (dCons (dC (.ty "bool")) (dNil)))))) (dOp (rdO (intD fun i j => decide (i ≥ j))) (dN (dVar 0)) (dN (dC (.int 0))))))))
def rd_is_door (K : PySem.W.Frag) (Wd : DW) : DS :=
  (dSeq (dIfS (dTest (dOp (rdO isD) (dN (dVar 0)) (dN (dC .non)))) (dRet (dC (.bl true))) dNext)
  (dSeq (dIfS ((dOr (dNot (dTru (dN (dCB rdIsi (dCons (dVar 0) (dCons (dC (.ty "tuple")) (dNil))))))) (dOr (dTest (dOp (rdNe) (dN (dCB (rd1 lenD) (dCons (dN (dVar 0)) (dNil)))) (dN (dC (.int 2))))) (dOr (dNot (dTru (dN (dCB rdIsi (dCons (dOp (rdO ixD) (dN (dVar 0)) (dC (.int 0))) (dCons (dC (.ty "str")) (dNil))))))) (dTest (dOp (rdIn true) (dN (dOp (rdO ixD) (dN (dVar 0)) (dC (.int 0)))) (dN (dVar 1)))))))) (dRet (dC (.bl false))) dNext)
  (dRet ((dAndV (dCall Wd (sp_is_count K) [] (dCons (dOp (rdO ixD) (dN (dVar 0)) (dC (.int 1))) (dNil))) (dOp (rdO (cmpD (fun i j => decide (i < j)) ltS)) (dN (dOp (rdO ixD) (dN (dVar 0)) (dC (.int 1)))) (dN (dVar 2))))))))
def rd_are_rooms (K : PySem.W.Frag) (Wd : DW) : DS :=
  (dSeq (dIfS ((dOr (dNot (dTru (dN (dCB rdIsi (dCons (dVar 0) (dCons (dC (.ty "tuple")) (dNil))))))) (dNot (dTest (dChain (rdO (intD fun i j => decide (i ≤ j))) (rdO (intD fun i j => decide (i ≤ j))) (dN (dC (.int 1))) (dN (dCB (rd1 lenD) (dCons (dN (dVar 0)) (dNil)))) (dN (dC (.int 36)))))))) (dRet (dC (.bl false))) dNext)
  (dSeq (dFor (dSeqI (dN (dVar 0))) (gdName 3) (dSeq (dIfS ((dOr (dNot (dTru (dN (dCB rdIsi (dCons (dVar 3) (dCons (dC (.ty "tuple")) (dNil))))))) (dTest (dOp (rdNe) (dN (dCB (rd1 lenD) (dCons (dN (dVar 3)) (dNil)))) (dN (dCB (rd1 lenD) (dCons (dN (dVar 1)) (dNil)))))))) (dRet (dC (.bl false))) dNext)
  (dIfS (dNot (dTru (dN (dCB (rdAll) (dCons (dN (dLc (dSeqI (dN (dVar 3))) (gdName 4) dYes (dCall noD (sp_is_door K) [] (dCons (dVar 4) (dCons (dVar 2) (dCons (dCB (rd1 lenD) (dCons (dN (dVar 0)) (dNil))) (dNil))))) [4])) (dNil)))))) (dRet (dC (.bl false))) dNext)))
  (dRet (dC (.bl true)))))
def rd_Plan___init__ (K : PySem.W.Frag) (Wd : DW) : DS :=
  (dSeq (dIfS ((dOr (dNot (dTru (dN (dCall Wd (sp_are_names K) [] (dCons (dVar 1) (dCons (dC (.int 1)) (dCons (dC (.int 4)) (dNil)))))))) (dNot (dTru (dN (dCall Wd (sp_are_names K) [] (dCons (dVar 2) (dCons (dC (.int 2)) (dCons (dC (.int 4)) (dNil)))))))))) (dRaise Wd (He.ga K "NoPlan")) dNext)
  (dSeq (dIfS (dNot (dTru (dN (dCall Wd (sp_are_rooms K) [] (dCons (dVar 3) (dCons (dVar 1) (dCons (dVar 2) (dNil)))))))) (dRaise Wd (He.ga K "NoPlan")) dNext)
  (dSeq (dSetF (He.ga K "Plan") "own_letters" (dVar 0) (dVar 1))
  (dSeq (dSetF (He.ga K "Plan") "own_signs" (dVar 0) (dVar 2))
  (dSetF (He.ga K "Plan") "own_rooms" (dVar 0) (dVar 3))))))
def rd__law_taken (K : PySem.W.Frag) (Wd : DW) : DS :=
  (dSeq (dSet 1 (dC .non))
  (dSeq (dTryKeep K (.ref (He.ga K "BoxError")) 2 (fun a cls fs => (dSet 1 (dVar 2))) Wd (fun Wd => (dDrop (dMakeK Wd (He.ga K "Plan") 3 (sp_Plan___init__ K) (perm [0, 3, 2, 1]) (dCons (dOp (rdO ixD) (dN (dVar 0)) (dC (.int 2))) (dCons (dOp (rdO ixD) (dN (dVar 0)) (dC (.int 1))) (dCons (dOp (rdO ixD) (dN (dVar 0)) (dC (.int 0))) (dNil))))))))
  (dSeq (dIfS (dTest (dOp (rdO isD) (dN (dVar 1)) (dN (dC .non)))) (dRet (dC (.bl true))) dNext)
  (dSeq (dSet 3 (dCB (rdIsiXT K) (dCons (dVar 1) (dCons (dTupH (dCons (dC (.ref (He.ga K "NoDeed"))) (dCons (dC (.ref (He.ga K "NoName"))) (dCons (dC (.ref (He.ga K "NoRoom"))) (dCons (dC (.ref (He.ga K "NoText"))) (dCons (dC (.ref (He.ga K "NoWord"))) (dNil))))))) (dNil)))))
  (dRet (dIf ((dAnd (dTru (dN (dCB (rdIsiX K) (dCons (dVar 1) (dCons (dC (.ref (He.ga K "NoPlan"))) (dNil)))))) (dAnd (dTru (dN (dCB (rdIsiY K) (dCons (dVar 1) (dCons (dC (.ty "ValueError")) (dNil)))))) (dNot (dTru (dN (dVar 3))))))) (dC (.bl false)) (dC .non)))))))
def rd__law_bent_names (K : PySem.W.Frag) (Wd : DW) : DS :=
  (dSeq (dSet 2 (dCall Wd (sp__law_draw K) [] (dCons (dVar 0) (dCons (dCB (rdMax) (dCons (dN (dC (.int 1))) (dCons (dN (dCB (rd1 lenD) (dCons (dN (dVar 1)) (dNil)))) (dNil)))) (dNil)))))
  (dSeq (dSet 3 (dLst (dCons (dC (.str "")) (dCons (dC (.str "A")) (dCons (dC (.str "abcdefg")) (dCons (dC (.str "a b")) (dCons (dC (.str "a1")) (dCons (dC .non) (dCons (dC (.int 5)) (dCons (dC (.bl true)) (dCons (dTup (dCons (dC (.str "a")) (dNil))) (dCons (dC (.str "zz")) (dCons (dC (.str "a")) (dCons (dOp (rdO ixD) (dN (dVar 1)) (dC (.int 0))) (dCons (dLst (dCons (dC (.str "a")) (dNil))) (dCons (dNewF) (dNil)))))))))))))))))
  (dSeq (dSet 3 (dOp (rdO ixD) (dN (dVar 3)) (dCall Wd (sp__law_draw K) [] (dCons (dVar 0) (dCons (dC (.int 14)) (dNil))))))
  (dSeq (dSet 4 (dLst (dCons (dRevT (dN (dVar 1))) (dCons (dOp (rdO addD) (dN (dVar 1)) (dN (dSl (dN (dVar 1)) dNoPart (dPart (dC (.int 1)))))) (dCons (dCB (rd1 listD) (dCons (dN (dVar 1)) (dNil))) (dCons (dOp (rdO addD) (dN (dSl (dN (dVar 1)) dNoPart (dPart (dVar 2)))) (dN (dSl (dN (dVar 1)) (dPart (dOp (rdO addD) (dN (dVar 2)) (dN (dC (.int 1))))) dNoPart))) (dNil)))))))
  (dSeq (dSet 4 (dOp (rdO addD) (dN (dVar 4)) (dN (dLst (dCons (dOp (rdO addD) (dN (dOp (rdO addD) (dN (dSl (dN (dVar 1)) dNoPart (dPart (dVar 2)))) (dN (dTup (dCons (dVar 3) (dNil)))))) (dN (dSl (dN (dVar 1)) (dPart (dOp (rdO addD) (dN (dVar 2)) (dN (dC (.int 1))))) dNoPart))) (dCons (dOp (rdO addD) (dN (dVar 1)) (dN (dTup (dCons (dVar 3) (dNil))))) (dCons (dTup (dNil)) (dCons (dC .non) (dCons (dOp (rdO ixD) (dN (dVar 1)) (dC (.int 0))) (dNil))))))))))
  (dSeq (dSet 4 (dOp (rdO addD) (dN (dVar 4)) (dN (dLst (dCons (dTup (dCons (dC (.str "a")) (dCons (dC (.str "b")) (dCons (dC (.str "c")) (dCons (dC (.str "d")) (dCons (dC (.str "e")) (dNil))))))) (dCons (dSl (dN (dVar 1)) dNoPart (dPart (dC (.int 1)))) (dCons (dFz (dCB (rdDictP) (dCons (dN (dLc (dSeqI (dN (dVar 1))) (gdName 5) dYes (dTup (dCons (dVar 5) (dCons (dC (.int 1)) (dNil)))) [5])) (dNil)))) (dNil))))))))
  (dRet (dOp (rdO ixD) (dN (dVar 4)) (dCall Wd (sp__law_draw K) [] (dCons (dVar 0) (dCons (dC (.int 12)) (dNil))))))))))))
def rd__law_bent_doors (K : PySem.W.Frag) (Wd : DW) : DS :=
  (dSeq (dSet 4 (dCall Wd (sp__law_draw K) [] (dCons (dVar 0) (dCons (dCB (rd1 lenD) (dCons (dN (dVar 1)) (dNil))) (dNil)))))
  (dSeq (dSet 5 ((dOrX (dOp (rdO ixD) (dN (dVar 1)) (dVar 4)) (dTup (dCons (dOp (rdO ixD) (dN (dVar 2)) (dC (.int 0))) (dCons (dC (.int 0)) (dNil)))))))
  (dSeq (dSet 6 (dOp (rdO ixD) (dN (dLst (dCons (dVar 3) (dCons (dNeg (dC (.int 1))) (dCons (dC (.bl true)) (dCons (dC (.bl false)) (dCons (dC .non) (dCons (dC (.str "0")) (dCons (dOp (rdO powD) (dN (dC (.int 10))) (dN (dC (.int 9)))) (dCons (dOp (rdO subD) (dN (dVar 3)) (dN (dC (.int 1)))) (dCons (dTup (dCons (dC (.int 0)) (dNil))) (dNil)))))))))))) (dCall Wd (sp__law_draw K) [] (dCons (dVar 0) (dCons (dC (.int 9)) (dNil))))))
  (dSeq (dSet 7 (dLst (dCons (dTup (dCons (dOp (rdO ixD) (dN (dVar 5)) (dC (.int 0))) (dCons (dVar 6) (dNil)))) (dCons (dTup (dCons (dVar 6) (dCons (dOp (rdO ixD) (dN (dVar 5)) (dC (.int 1))) (dNil)))) (dCons (dTup (dCons (dC (.str "q")) (dCons (dOp (rdO ixD) (dN (dVar 5)) (dC (.int 1))) (dNil)))) (dCons (dCB (rd1 listD) (dCons (dN (dVar 5)) (dNil))) (dCons (dOp (rdO addD) (dN (dVar 5)) (dN (dTup (dCons (dC (.int 0)) (dNil))))) (dCons (dSl (dN (dVar 5)) dNoPart (dPart (dC (.int 1)))) (dNil)))))))))
  (dSeq (dSet 7 (dOp (rdO addD) (dN (dVar 7)) (dN (dLst (dCons (dRevT (dN (dVar 5))) (dCons (dTup (dNil)) (dCons (dC (.int 0)) (dCons (dC (.str "a")) (dCons (dC .non) (dCons (dTup (dCons (dLst (dCons (dC (.str "a")) (dNil))) (dCons (dOp (rdO ixD) (dN (dVar 5)) (dC (.int 1))) (dNil)))) (dCons (dTup (dCons (dNewF) (dCons (dOp (rdO ixD) (dN (dVar 5)) (dC (.int 1))) (dNil)))) (dCons (dTup (dCons (dOp (rdO ixD) (dN (dVar 5)) (dC (.int 0))) (dCons (dLst (dCons (dC (.str "0")) (dNil))) (dNil)))) (dNil)))))))))))))
  (dSeq (dSet 8 (dLst (dCons (dOp (rdO addD) (dN (dOp (rdO addD) (dN (dSl (dN (dVar 1)) dNoPart (dPart (dVar 4)))) (dN (dTup (dCons (dOp (rdO ixD) (dN (dVar 7)) (dCall Wd (sp__law_draw K) [] (dCons (dVar 0) (dCons (dC (.int 14)) (dNil))))) (dNil)))))) (dN (dSl (dN (dVar 1)) (dPart (dOp (rdO addD) (dN (dVar 4)) (dN (dC (.int 1))))) dNoPart))) (dCons (dOp (rdO addD) (dN (dSl (dN (dVar 1)) dNoPart (dPart (dVar 4)))) (dN (dSl (dN (dVar 1)) (dPart (dOp (rdO addD) (dN (dVar 4)) (dN (dC (.int 1))))) dNoPart))) (dNil)))))
  (dSeq (dSet 8 (dOp (rdO addD) (dN (dVar 8)) (dN (dLst (dCons (dOp (rdO addD) (dN (dVar 1)) (dN (dSl (dN (dVar 1)) dNoPart (dPart (dC (.int 1)))))) (dCons (dCB (rd1 listD) (dCons (dN (dVar 1)) (dNil))) (dCons (dC .non) (dCons (dTup (dNil)) (dCons (dOp (rdO ixD) (dN (dVar 1)) (dC (.int 0))) (dNil))))))))))
  (dRet (dOp (rdO ixD) (dN (dVar 8)) (dOp (rdO ixD) (dN (dLst (dCons (dC (.int 0)) (dCons (dC (.int 0)) (dCons (dC (.int 0)) (dCons (dC (.int 0)) (dCons (dC (.int 1)) (dCons (dC (.int 2)) (dCons (dC (.int 3)) (dCons (dC (.int 4)) (dCons (dC (.int 5)) (dCons (dC (.int 6)) (dNil))))))))))))) (dCall Wd (sp__law_draw K) [] (dCons (dVar 0) (dCons (dC (.int 10)) (dNil))))))))))))))
def rd__law_bent (K : PySem.W.Frag) (Wd : DW) : DS :=
  (dSeq (dAsg (dN (dVar 1)) (gdTup 3 (gdCons (gdName 2) (gdCons (gdName 3) (gdCons (gdName 4) (gdNil))))))
  (dSeq (dPar 5 6 (dCall Wd (sp__law_draw K) [] (dCons (dVar 0) (dCons (dC (.int 8)) (dNil)))) (dCall Wd (sp__law_draw K) [] (dCons (dVar 0) (dCons (dCB (rdMax) (dCons (dN (dC (.int 1))) (dCons (dN (dCB (rd1 lenD) (dCons (dN (dVar 4)) (dNil)))) (dNil)))) (dNil)))))
  (dSeq (dIfS (dTest (dOp (rdEq) (dN (dVar 5)) (dN (dC (.int 0))))) (dRet (dTup (dCons (dCall Wd (sp__law_bent_names K) [] (dCons (dVar 0) (dCons (dVar 2) (dNil)))) (dCons (dVar 3) (dCons (dVar 4) (dNil)))))) dNext)
  (dSeq (dIfS (dTest (dOp (rdEq) (dN (dVar 5)) (dN (dC (.int 1))))) (dRet (dTup (dCons (dVar 2) (dCons (dCall Wd (sp__law_bent_names K) [] (dCons (dVar 0) (dCons (dVar 3) (dNil)))) (dCons (dVar 4) (dNil)))))) dNext)
  (dSeq (dIfS (dTest (dOp (rdEq) (dN (dVar 5)) (dN (dC (.int 2))))) (dSeq (dSet 7 (dLst (dCons (dCB (rd1 listD) (dCons (dN (dVar 4)) (dNil))) (dCons (dTup (dNil)) (dCons (dC .non) (dCons (dSl (dN (dVar 4)) dNoPart (dPart (dNeg (dC (.int 1))))) (dCons (dOp (rdO mulE) (dN (dVar 4)) (dN (dC (.int 37)))) (dCons (dOp (rdO mulE) (dN (dSl (dN (dVar 4)) dNoPart (dPart (dC (.int 1))))) (dN (dC (.int 36)))) (dCons (dOp (rdO mulE) (dN (dSl (dN (dVar 4)) dNoPart (dPart (dC (.int 1))))) (dN (dC (.int 37)))) (dCons (dNewF) (dNil)))))))))))
  (dSeq (dSet 7 (dOp (rdO addD) (dN (dVar 7)) (dN (dLst (dCons (dOp (rdO ixD) (dN (dVar 4)) (dC (.int 0))) (dCons (dC (.str "rooms")) (dNil)))))))
  (dRet (dTup (dCons (dVar 2) (dCons (dVar 3) (dCons (dOp (rdO ixD) (dN (dVar 7)) (dCall Wd (sp__law_draw K) [] (dCons (dVar 0) (dCons (dC (.int 10)) (dNil))))) (dNil)))))))) dNext)
  (dSeq (dSet 8 (dCall Wd (sp__law_bent_doors K) [] (dCons (dVar 0) (dCons (dOp (rdO ixD) (dN (dVar 4)) (dVar 6)) (dCons (dVar 3) (dCons (dCB (rd1 lenD) (dCons (dN (dVar 4)) (dNil))) (dNil)))))))
  (dRet (dTup (dCons (dVar 2) (dCons (dVar 3) (dCons (dOp (rdO addD) (dN (dOp (rdO addD) (dN (dSl (dN (dVar 4)) dNoPart (dPart (dVar 6)))) (dN (dTup (dCons (dVar 8) (dNil)))))) (dN (dSl (dN (dVar 4)) (dPart (dOp (rdO addD) (dN (dVar 6)) (dN (dC (.int 1))))) dNoPart))) (dNil))))))))))))
def rd__law_are_names (K : PySem.W.Frag) (Wd : DW) : DS :=
  (dSeq (dIfS ((dOr (dNot (dTru (dN (dCB rdIsi (dCons (dVar 0) (dCons (dC (.ty "tuple")) (dNil))))))) (dNot (dTest (dChain (rdO (intD fun i j => decide (i ≤ j))) (rdO (intD fun i j => decide (i ≤ j))) (dN (dVar 1)) (dN (dCB (rd1 lenD) (dCons (dN (dVar 0)) (dNil)))) (dN (dVar 2))))))) (dRet (dC (.bl false))) dNext)
  (dSeq (dIfS (dTest (dOp (rdEqE true) (dN (dLc (dSeqI (dN (dVar 0))) (gdName 3) (dNot (dTru (dN (dCall noD (sp__law_is_name K) [] (dCons (dVar 3) (dNil)))))) (dVar 3) [3])) (dN (dLst (dNil))))) (dRet (dC (.bl false))) dNext)
  (dRet ((dAndV (dOp (rdEq) (dN (dCB (rd1 listD) (dCons (dN (dVar 0)) (dNil)))) (dN (dCB (rdSortTu) (dCons (dN (dVar 0)) (dNil))))) (dOp (rdEq) (dN (dLenSet (dN (dVar 0)))) (dN (dCB (rd1 lenD) (dCons (dN (dVar 0)) (dNil))))))))))
def rd__law_is_door (K : PySem.W.Frag) (Wd : DW) : DS :=
  (dSeq (dIfS (dTest (dOp (rdO isD) (dN (dVar 0)) (dN (dC .non)))) (dRet (dC (.bl true))) dNext)
  (dSeq (dIfS ((dOr (dNot (dTru (dN (dCB rdIsi (dCons (dVar 0) (dCons (dC (.ty "tuple")) (dNil))))))) (dOr (dTest (dOp (rdNe) (dN (dCB (rd1 lenD) (dCons (dN (dVar 0)) (dNil)))) (dN (dC (.int 2))))) (dOr (dNot (dTru (dN (dCB rdIsi (dCons (dOp (rdO ixD) (dN (dVar 0)) (dC (.int 0))) (dCons (dC (.ty "str")) (dNil))))))) (dTest (dOp (rdIn true) (dN (dOp (rdO ixD) (dN (dVar 0)) (dC (.int 0)))) (dN (dVar 1)))))))) (dRet (dC (.bl false))) dNext)
  (dRet ((dAndV (dCB rdIsi (dCons (dOp (rdO ixD) (dN (dVar 0)) (dC (.int 1))) (dCons (dC (.ty "int")) (dNil)))) (dAndV (dNotV (dN (dCB rdIsi (dCons (dOp (rdO ixD) (dN (dVar 0)) (dC (.int 1))) (dCons (dC (.ty "bool")) (dNil)))))) (dChain (rdO (intD fun i j => decide (i ≤ j))) (rdO (cmpD (fun i j => decide (i < j)) ltS)) (dN (dC (.int 0))) (dN (dOp (rdO ixD) (dN (dVar 0)) (dC (.int 1)))) (dN (dVar 2)))))))))
def rd__law_good (K : PySem.W.Frag) (Wd : DW) : DS :=
  (dSeq (dAsg (dN (dVar 0)) (gdTup 3 (gdCons (gdName 1) (gdCons (gdName 2) (gdCons (gdName 3) (gdNil))))))
  (dSeq (dIfS ((dOr (dNot (dTru (dN (dCall Wd (sp__law_are_names K) [] (dCons (dVar 1) (dCons (dC (.int 1)) (dCons (dC (.int 4)) (dNil)))))))) (dNot (dTru (dN (dCall Wd (sp__law_are_names K) [] (dCons (dVar 2) (dCons (dC (.int 2)) (dCons (dC (.int 4)) (dNil)))))))))) (dRet (dC (.bl false))) dNext)
  (dSeq (dIfS ((dOr (dNot (dTru (dN (dCB rdIsi (dCons (dVar 3) (dCons (dC (.ty "tuple")) (dNil))))))) (dNot (dTest (dChain (rdO (intD fun i j => decide (i ≤ j))) (rdO (intD fun i j => decide (i ≤ j))) (dN (dC (.int 1))) (dN (dCB (rd1 lenD) (dCons (dN (dVar 3)) (dNil)))) (dN (dC (.int 36)))))))) (dRet (dC (.bl false))) dNext)
  (dSeq (dFor (dSeqI (dN (dVar 3))) (gdName 4) (dSeq (dIfS ((dOr (dNot (dTru (dN (dCB rdIsi (dCons (dVar 4) (dCons (dC (.ty "tuple")) (dNil))))))) (dTest (dOp (rdNe) (dN (dCB (rd1 lenD) (dCons (dN (dVar 4)) (dNil)))) (dN (dCB (rd1 lenD) (dCons (dN (dVar 1)) (dNil)))))))) (dRet (dC (.bl false))) dNext)
  (dIfS (dTest (dOp (rdEqE true) (dN (dLc (dSeqI (dN (dVar 4))) (gdName 5) (dNot (dTru (dN (dCall noD (sp__law_is_door K) [] (dCons (dVar 5) (dCons (dVar 2) (dCons (dCB (rd1 lenD) (dCons (dN (dVar 3)) (dNil))) (dNil)))))))) (dVar 5) [5])) (dN (dLst (dNil))))) (dRet (dC (.bl false))) dNext)))
  (dRet (dC (.bl true)))))))
def rd_law (K : PySem.W.Frag) (Wd : DW) : DS :=
  (dSeq (dSet 1 (dCall Wd (sp__law_begun K) [] (dCons (dVar 0) (dNil))))
  (dSeq (dFor (dRng1 (dCons (dN (dC (.int 3))) (dNil))) (gdName 2) (dSeq (dSet 3 (dCall Wd (sp__law_parts K) [] (dCons (dVar 1) (dCons (dOp (rdO addD) (dN (dC (.int 1))) (dN (dCall Wd (sp__law_draw K) [] (dCons (dVar 1) (dCons (dC (.int 6)) (dNil)))))) (dCons (dC (.int 4)) (dCons (dOp (rdO ixD) (dN (dLst (dCons (dC (.int 0)) (dCons (dC (.int 3)) (dNil))))) (dCall Wd (sp__law_draw K) [] (dCons (dVar 1) (dCons (dC (.int 2)) (dNil))))) (dNil)))))))
  (dSeq (dSet 4 (dCall Wd (sp__law_name K) [] (dCons (dVar 1) (dNil))))
  (dSeq (dSet 5 (dCall Wd (sp__law_draw K) [] (dCons (dVar 1) (dCons (dOp (rdO addD) (dN (dCB (rd1 lenD) (dCons (dN (dVar 4)) (dNil)))) (dN (dC (.int 1)))) (dNil)))))
  (dSeq (dSet 6 (dOp (rdO ixD) (dN (dLst (dCons (dC (.str "")) (dCons (dC (.str "a")) (dCons (dC (.str "A")) (dCons (dC (.str " ")) (dCons (dC (.str "-")) (dCons (dC (.str "0")) (dNil))))))))) (dCall Wd (sp__law_draw K) [] (dCons (dVar 1) (dCons (dC (.int 6)) (dNil))))))
  (dSeq (dSet 7 (dLst (dCons (dCall Wd (sp__law_name K) [] (dCons (dVar 1) (dNil))) (dCons (dOp (rdO addD) (dN (dOp (rdO addD) (dN (dSl (dN (dVar 4)) dNoPart (dPart (dVar 5)))) (dN (dVar 6)))) (dN (dSl (dN (dVar 4)) (dPart (dVar 5)) dNoPart))) (dCons (dOp (rdO ixD) (dN (dVar 3)) (dC (.int 0))) (dNil))))))
  (dSeq (dFor (dSeqI (dN (dOp (rdO addD) (dN (dVar 7)) (dN (dLst (dCons (dOp (rdO ixD) (dN (dOp (rdO ixD) (dN (dVar 3)) (dC (.int 0)))) (dC (.int 0))) (dCons (dC (.str "")) (dCons (dC .non) (dCons (dC (.int 7)) (dCons (dC (.bl true)) (dCons (dLst (dCons (dC (.str "a")) (dNil))) (dCons (dC (.str "abcdef")) (dCons (dC (.str "abcdefg")) (dNil)))))))))))))) (gdName 8) (dSeq (dSet 9 (dCall Wd (sp__law_is_name K) [] (dCons (dVar 8) (dNil))))
  (dIfS (dTest (dOp (rdNe) (dN (dCB (rdRepr) (dCons (dN (dLst (dCons (dCall Wd (sp_is_name K) [] (dCons (dVar 8) (dNil))) (dCons (dCallK Wd 0 1 (sp_is_name K) (perm [0]) dNil (dCons (dVar 8) (dNil))) (dNil))))) (dNil)))) (dN (dCB (rdRepr) (dCons (dN (dLst (dCons (dVar 9) (dCons (dVar 9) (dNil))))) (dNil)))))) (dRet (dC (.bl false))) dNext)))
  (dSeq (dIfS (dTest (dOp (rdO isntB) (dN (dCall Wd (sp__law_taken K) [] (dCons (dVar 3) (dNil)))) (dN (dC (.bl true))))) (dRet (dC (.bl false))) dNext)
  (dFor (dRng1 (dCons (dN (dC (.int 6))) (dNil))) (gdName 10) (dSeq (dSet 11 (dCall Wd (sp__law_bent K) [] (dCons (dVar 1) (dCons (dVar 3) (dNil)))))
  (dSeq (dIfS ((dAnd (dTest (dOp (rdEq) (dN (dOp (rdO modD) (dN (dVar 10)) (dN (dC (.int 3))))) (dN (dC (.int 2))))) (dTru (dN (dCall Wd (sp__law_good K) [] (dCons (dVar 11) (dNil))))))) (dSet 11 (dCall Wd (sp__law_bent K) [] (dCons (dVar 1) (dCons (dVar 11) (dNil))))) dNext)
  (dIfS (dTest (dOp (rdNe) (dN (dCall Wd (sp__law_taken K) [] (dCons (dVar 11) (dNil)))) (dN (dCall Wd (sp__law_good K) [] (dCons (dVar 11) (dNil)))))) (dRet (dC (.bl false))) dNext))))))))))))
  (dRet (dC (.bl true)))))
/-- what is to be shown of each -/
structure Lw (K : PySem.W.Frag) : Prop where
  _law_name : ∀ {ds : List D} {M : Mem} {Q : DKt} {E : DX}, sp__law_name K ds M Q E → rd__law_name K (wd E) (ends Q) (startD ["_law_state", "_law_size", "_law_k"] ds) M
  _law_names : ∀ {ds : List D} {M : Mem} {Q : DKt} {E : DX}, sp__law_names K ds M Q E → rd__law_names K (wd E) (ends Q) (startD ["_law_state", "_law_many", "_law_some", "_law_name_here", "_law_others", "_law_sign", "_law_one"] ds) M
  _law_parts : ∀ {ds : List D} {M : Mem} {Q : DKt} {E : DX}, sp__law_parts K ds M Q E → rd__law_parts K (wd E) (ends Q) (startD ["_law_state", "_law_many", "_law_most_letters", "_law_shut", "_law_names_here", "_law_marks", "_law_halls", "_law_k", "_law_doors", "_law_name_here", "_law_door"] ds) M
  _law_is_name : ∀ {ds : List D} {M : Mem} {Q : DKt} {E : DX}, sp__law_is_name K ds M Q E → rd__law_is_name K (wd E) (ends Q) (startD ["_law_what", "_law_sign"] ds) M
  is_name : ∀ {ds : List D} {M : Mem} {Q : DKt} {E : DX}, sp_is_name K ds M Q E → rd_is_name K (wd E) (ends Q) (startD ["thing", "sign"] ds) M
  are_names : ∀ {ds : List D} {M : Mem} {Q : DKt} {E : DX}, sp_are_names K ds M Q E → rd_are_names K (wd E) (ends Q) (startD ["thing", "least", "most", "one", "other"] ds) M
  is_count : ∀ {ds : List D} {M : Mem} {Q : DKt} {E : DX}, sp_is_count K ds M Q E → rd_is_count K (wd E) (ends Q) (startD ["thing"] ds) M
  is_door : ∀ {ds : List D} {M : Mem} {Q : DKt} {E : DX}, sp_is_door K ds M Q E → rd_is_door K (wd E) (ends Q) (startD ["thing", "signs", "many"] ds) M
  are_rooms : ∀ {ds : List D} {M : Mem} {Q : DKt} {E : DX}, sp_are_rooms K ds M Q E → rd_are_rooms K (wd E) (ends Q) (startD ["thing", "letters", "signs", "doors", "door"] ds) M
  Plan___init__ : ∀ {ds : List D} {M : Mem} {Q : DKt} {E : DX}, sp_Plan___init__ K ds M Q E → rd_Plan___init__ K (wd E) (ends Q) (startD ["self", "letters", "signs", "rooms"] ds) M
  _law_taken : ∀ {ds : List D} {M : Mem} {Q : DKt} {E : DX}, sp__law_taken K ds M Q E → rd__law_taken K (wd E) (ends Q) (startD ["_law_parts_here", "_law_caught", "e", "_law_others"] ds) M
  _law_bent_names : ∀ {ds : List D} {M : Mem} {Q : DKt} {E : DX}, sp__law_bent_names K ds M Q E → rd__law_bent_names K (wd E) (ends Q) (startD ["_law_state", "_law_names_here", "_law_at", "_law_odd", "_law_some", "_law_one"] ds) M
  _law_bent_doors : ∀ {ds : List D} {M : Mem} {Q : DKt} {E : DX}, sp__law_bent_doors K ds M Q E → rd__law_bent_doors K (wd E) (ends Q) (startD ["_law_state", "_law_doors", "_law_marks", "_law_many", "_law_at", "_law_door", "_law_odd", "_law_other", "_law_some"] ds) M
  _law_bent : ∀ {ds : List D} {M : Mem} {Q : DKt} {E : DX}, sp__law_bent K ds M Q E → rd__law_bent K (wd E) (ends Q) (startD ["_law_state", "_law_parts_here", "_law_names_here", "_law_marks", "_law_halls", "_law_way", "_law_at", "_law_some", "_law_doors"] ds) M
  _law_are_names : ∀ {ds : List D} {M : Mem} {Q : DKt} {E : DX}, sp__law_are_names K ds M Q E → rd__law_are_names K (wd E) (ends Q) (startD ["_law_what", "_law_low", "_law_most", "_law_one"] ds) M
  _law_is_door : ∀ {ds : List D} {M : Mem} {Q : DKt} {E : DX}, sp__law_is_door K ds M Q E → rd__law_is_door K (wd E) (ends Q) (startD ["_law_what", "_law_marks", "_law_many"] ds) M
  _law_good : ∀ {ds : List D} {M : Mem} {Q : DKt} {E : DX}, sp__law_good K ds M Q E → rd__law_good K (wd E) (ends Q) (startD ["_law_parts_here", "_law_names_here", "_law_marks", "_law_halls", "_law_doors", "_law_door"] ds) M
  law : ∀ {ds : List D} {M : Mem} {Q : DKt} {E : DX}, sp_law K ds M Q E → rd_law K (wd E) (ends Q) (startD ["_law_script", "_law_state", "_law_turn", "_law_parts_here", "_law_name_here", "_law_at", "_law_odd", "_law_things", "_law_what", "_law_owed", "_law_k", "_law_bent_here"] ds) M
end BB

set_option maxHeartbeats 4000000
namespace BB
open L2 PySem PySem.Spec PyProof.Rows
local macro_rules | `(tactic| walk_at "bb") => `(tactic| first
  | (with_reducible refine i_c ?_) | (with_reducible refine i_n ?_) | (with_reducible refine i_op ?_) | (with_reducible refine i_cons ?_) | (with_reducible refine i_nil ?_) | (with_reducible refine i_cb ?_)
  | (with_reducible refine i_seq ?_) | (with_reducible refine i_set ?_) | (with_reducible refine i_ret ?_) | (with_reducible refine i_if ?_) | (with_reducible refine i_drop ?_) | (with_reducible refine i_asg ?_)
  | (with_reducible refine i_test ?_) | (with_reducible refine i_chain ?_) | (with_reducible refine i_tru ?_) | (with_reducible refine i_and ?_) | (with_reducible refine i_or ?_) | (with_reducible refine i_not ?_)
  | (with_reducible refine i_andv ?_) | (with_reducible refine i_orv ?_) | (with_reducible refine i_notv ?_) | (with_reducible refine i_ifx ?_) | (with_reducible refine i_tup ?_) | (with_reducible refine i_lst ?_) | (with_reducible refine i_lstM ?_)
  | (with_reducible refine i_neg ?_) | (with_reducible refine i_call ?_) | (with_reducible refine i_callK ?_) | (with_reducible refine i_meth ?_) | (with_reducible refine i_fld ?_) | (with_reducible refine i_tupIx ?_) | (with_reducible refine i_app ?_)
  | (with_reducible refine i_join ?_) | (with_reducible refine i_sl ?_) | (with_reducible refine i_part ?_) | (with_reducible refine i_nopart ?_) | (with_reducible refine i_next ?_) | (with_reducible refine i_retN ?_)
  | (with_reducible refine i_gname ?_) | (with_reducible refine i_gcons ?_) | (with_reducible refine i_gnil ?_) | (with_reducible refine i_seqI ?_) | (with_reducible refine i_rng1 ?_) | (with_reducible refine i_enum ?_) | (with_reducible refine i_zip2 ?_)
  | (with_reducible refine i_yes ?_) | (with_reducible refine i_for ?_) | (with_reducible refine i_lc ?_)
  | ((with_reducible refine i_var (d := ?bbd) ?bbh ?bbq); (case bbh => rfl)) | ((with_reducible refine i_rdo (d := ?bbd) ?bbh ?bbq); (case bbh => rfl); (try dsimp only)) | ((with_reducible refine i_rd1 (d := ?bbd) ?bbh ?bbq); (case bbh => rfl); (try dsimp only))
  | (with_reducible refine i_itt ?_) | (with_reducible refine i_nf ?_) | (with_reducible refine i_nt ?_) | (with_reducible refine i_itf ?_)
  | (with_reducible refine i_isi rfl kb_int_int ?_) | (with_reducible refine i_isi rfl kb_int_bool ?_) | (with_reducible refine i_isi rfl kb_str_str ?_) | (with_reducible refine i_isi rfl kb_tup_tup ?_)
  | (with_reducible refine ⟨_, rfl, ?_⟩))
local macro_rules | `(tactic| walk_at "bbs") => `(tactic| repeat walk_at "bb")

section
variable {K : PySem.W.Frag} {ds : List D} {M : Mem} {Q : DKt} {E : DX}
theorem no_letters {a b c : D} : List.lookup (α := Str) "letters" [("own_letters", a), ("own_signs", b), ("own_rooms", c)] = none := by kernel_rfl
theorem no_rooms {a b c : D} : List.lookup (α := Str) "rooms" [("own_letters", a), ("own_signs", b), ("own_rooms", c)] = none := by kernel_rfl
theorem cs_one (c : Nat) : ({ cps := #[c] } : Str).cps = #[c] := rfl
theorem in_small (c : Nat) (M : Mem) (Q : DKt) (q : Q (.bl (decide (c ∈ SMALLS.cps.toList))) M) : rdIn false (.str ⟨#[c]⟩) (.str SMALLS) M Q := by
  refine .inr ⟨c, SMALLS, rfl, rfl, ?_⟩
  exact q
theorem c_letters {p : Pl} (q : Q (namesD p.letters) M) : sp_Plan_letters K [planD K p] M Q E := ⟨_, rfl, p, rfl, q⟩
theorem c_rooms {p : Pl} (q : Q (rowsD' p.rooms) M) : sp_Plan_rooms K [planD K p] M Q E := ⟨_, rfl, p, rfl, q⟩
theorem rows_at {rs : List (List Door)} {i : Nat} {r : List Door} (h : rs[i]? = some r) : ixD M (rowsD' rs) (.int i) = some (.tup (r.map doorD)) := ix_tup (by rw [List.getElem?_map, h]; rfl)
theorem c_len {p : Pl} (h : p.rooms.length ≤ 1000) (q : Q (.int p.rooms.length) M) : sp_Plan___len__ K [planD K p] M Q E := ⟨_, rfl, p, rfl, h, q⟩
theorem i_lenP {p : Pl} (h : p.rooms.length ≤ 1000) (q : Q (.int p.rooms.length) M) : rdLenO (He.ga K "Plan") (sp_Plan___len__ K) [planD K p] M Q :=
  ⟨_, _, rfl, rfl, c_len h ⟨_, rfl, by omega, by omega, q⟩⟩
theorem c_need_room {p : Pl} {room : Nat} (ok : p.Ok) (hr : room < p.rooms.length) (q : Q (.int room) M) : sp_need_room K [planD K p, .int room] M Q E := ⟨_, _, rfl, p, room, ok, rfl, rfl, hr, q⟩
end
end BB

set_option maxHeartbeats 4000000
namespace BB
open L2 PySem PySem.Spec PyProof.Rows
local macro_rules | `(tactic| walk_at "bb") => `(tactic| first
  | (with_reducible refine i_c ?_) | (with_reducible refine i_n ?_) | (with_reducible refine i_op ?_) | (with_reducible refine i_cons ?_) | (with_reducible refine i_nil ?_) | (with_reducible refine i_cb ?_)
  | (with_reducible refine i_seq ?_) | (with_reducible refine i_set ?_) | (with_reducible refine i_ret ?_) | (with_reducible refine i_if ?_) | (with_reducible refine i_drop ?_) | (with_reducible refine i_setF ?_) | (with_reducible refine i_raise ?_) | (with_reducible refine i_raiseI ?_) | (with_reducible refine i_asg ?_)
  | (with_reducible refine i_test ?_) | (with_reducible refine i_chain ?_) | (with_reducible refine i_tru ?_) | (with_reducible refine i_and ?_) | (with_reducible refine i_or ?_) | (with_reducible refine i_not ?_)
  | (with_reducible refine i_andv ?_) | (with_reducible refine i_orv ?_) | (with_reducible refine i_notv ?_) | (with_reducible refine i_ifx ?_) | (with_reducible refine i_tup ?_) | (with_reducible refine i_lst ?_) | (with_reducible refine i_lstM ?_)
  | (with_reducible refine i_neg ?_) | (with_reducible refine i_call ?_) | (with_reducible refine i_callK ?_) | (with_reducible refine i_meth ?_) | (with_reducible refine i_fld ?_) | (with_reducible refine i_tupIx ?_) | (with_reducible refine i_app ?_)
  | (with_reducible refine i_join ?_) | (with_reducible refine i_sl ?_) | (with_reducible refine i_part ?_) | (with_reducible refine i_nopart ?_) | (with_reducible refine i_next ?_) | (with_reducible refine i_retN ?_)
  | (with_reducible refine i_gname ?_) | (with_reducible refine i_gcons ?_) | (with_reducible refine i_gnil ?_) | (with_reducible refine i_seqI ?_) | (with_reducible refine i_rng1 ?_) | (with_reducible refine i_enum ?_) | (with_reducible refine i_zip2 ?_)
  | (with_reducible refine i_yes ?_) | (with_reducible refine i_for ?_) | (with_reducible refine i_lc ?_)
  | ((with_reducible refine i_var (d := ?bbd) ?bbh ?bbq); (case bbh => rfl)) | ((with_reducible refine i_rdo (d := ?bbd) ?bbh ?bbq); (case bbh => rfl); (try dsimp only)) | ((with_reducible refine i_rd1 (d := ?bbd) ?bbh ?bbq); (case bbh => rfl); (try dsimp only))
  | (with_reducible refine i_itt ?_) | (with_reducible refine i_nf ?_) | (with_reducible refine i_nt ?_) | (with_reducible refine i_itf ?_)
  | ((with_reducible show rdIsi _ _ _); first | refine i_isi rfl kb_int_int ?_ | refine i_isi rfl kb_int_bool ?_ | refine i_isi rfl kb_str_str ?_ | refine i_isi rfl kb_tup_tup ?_)
  | (with_reducible refine ⟨_, rfl, ?_⟩)
  | ((with_reducible show wkD _ _ _); first | refine wk_tup ?_ | refine wk_lst ?_ | refine wk_str ?_)
  | ((with_reducible show rdEq _ _ _ _); refine i_eqI ?_) | ((with_reducible show rdNe _ _ _ _); refine i_neI ?_)
  | ((with_reducible show ite _ _ _); refine i_itt ?_) | ((with_reducible show ite _ _ _); refine i_itf ?_))
local macro_rules | `(tactic| walk_at "bbs") => `(tactic| repeat walk_at "bb")

section
variable {K : PySem.W.Frag} {ds : List D} {M : Mem} {Q : DKt} {E : DX}
theorem name_len {z : Str} (h : isNameB z = true) : z.length ≤ 6 := by
  unfold isNameB at h
  rw [Bool.and_eq_true, Bool.and_eq_true] at h
  exact of_decide_eq_true h.2.1
theorem rep_succ {i : Nat} : (List.replicate i true).map D.bl ++ [.bl true] = (List.replicate (i + 1) true).map D.bl := by
  rw [List.replicate_succ', List.map_append]; rfl
theorem all_rep {n : Nat} : (List.replicate n true).all id = true := by
  induction n with
  | zero => rfl
  | succ n ih => rw [List.replicate_succ, List.all_cons, ih]; rfl
theorem put2 {l s : D} : putD "own_signs" s [("own_letters", l)] = ([("own_letters", l), ("own_signs", s)] : List (Str × D)) := by kernel_rfl
theorem put3 {l s r : D} : putD "own_rooms" r [("own_letters", l), ("own_signs", s)] = ([("own_letters", l), ("own_signs", s), ("own_rooms", r)] : List (Str × D)) := by kernel_rfl
end
end BB

set_option maxHeartbeats 4000000
namespace BB
open L2 PySem PySem.Spec PyProof.Rows
local macro_rules | `(tactic| walk_at "bb") => `(tactic| first
  | (with_reducible refine i_c ?_) | (with_reducible refine i_n ?_) | (with_reducible refine i_op ?_) | (with_reducible refine i_cons ?_) | (with_reducible refine i_nil ?_) | (with_reducible refine i_cb ?_)
  | (with_reducible refine i_seq ?_) | (with_reducible refine i_set ?_) | (with_reducible refine i_ret ?_) | (with_reducible refine i_if ?_) | (with_reducible refine i_drop ?_) | (with_reducible refine i_setF ?_) | (with_reducible refine i_raise ?_) | (with_reducible refine i_raiseI ?_) | (with_reducible refine i_asg ?_)
  | (with_reducible refine i_test ?_) | (with_reducible refine i_chain ?_) | (with_reducible refine i_tru ?_) | (with_reducible refine i_and ?_) | (with_reducible refine i_or ?_) | (with_reducible refine i_not ?_)
  | (with_reducible refine i_andv ?_) | (with_reducible refine i_orv ?_) | (with_reducible refine i_notv ?_) | (with_reducible refine i_ifx ?_) | (with_reducible refine i_tup ?_) | (with_reducible refine i_lst ?_) | (with_reducible refine i_lstM ?_)
  | (with_reducible refine i_neg ?_) | (with_reducible refine i_call ?_) | (with_reducible refine i_callK ?_) | (with_reducible refine i_meth ?_) | (with_reducible refine i_fld ?_) | (with_reducible refine i_tupIx ?_) | (with_reducible refine i_app ?_)
  | (with_reducible refine i_join ?_) | (with_reducible refine i_sl ?_) | (with_reducible refine i_part ?_) | (with_reducible refine i_nopart ?_) | (with_reducible refine i_next ?_) | (with_reducible refine i_retN ?_)
  | (with_reducible refine i_gname ?_) | (with_reducible refine i_gcons ?_) | (with_reducible refine i_gnil ?_) | (with_reducible refine i_seqI ?_) | (with_reducible refine i_rng1 ?_) | (with_reducible refine i_enum ?_) | (with_reducible refine i_zip2 ?_)
  | (with_reducible refine i_yes ?_) | (with_reducible refine i_for ?_) | (with_reducible refine i_lc ?_)
  | ((with_reducible refine i_var (d := ?bbd) ?bbh ?bbq); (case bbh => rfl)) | ((with_reducible refine i_rdo (d := ?bbd) ?bbh ?bbq); (case bbh => rfl); (try dsimp only)) | ((with_reducible refine i_rd1 (d := ?bbd) ?bbh ?bbq); (case bbh => rfl); (try dsimp only))
  | (with_reducible refine i_itt ?_) | (with_reducible refine i_nf ?_) | (with_reducible refine i_nt ?_) | (with_reducible refine i_itf ?_)
  | ((with_reducible show rdIsi _ _ _); first | refine i_isi rfl kb_int_int ?_ | refine i_isi rfl kb_int_bool ?_ | refine i_isi rfl kb_str_str ?_ | refine i_isi rfl kb_tup_tup ?_)
  | (with_reducible refine ⟨_, rfl, ?_⟩)
  | ((with_reducible show wkD _ _ _); first | refine wk_tup ?_ | refine wk_lst ?_ | refine wk_str ?_)
  | ((with_reducible show rdEq _ _ _ _); refine i_eqI ?_) | ((with_reducible show rdNe _ _ _ _); refine i_neI ?_)
  | ((with_reducible show ite _ _ _); refine i_itt ?_) | ((with_reducible show ite _ _ _); refine i_itf ?_))
local macro_rules | `(tactic| walk_at "bbs") => `(tactic| repeat walk_at "bb")

section
variable {K : PySem.W.Frag} {ds : List D} {M : Mem} {Q : DKt} {E : DX}
theorem c_draw {a c : Addr} {m : Int} (hm : M a = some (.gen c)) (h0 : 0 < m) (h1 : m < 1073741824) (q : ∀ r : Int, 0 ≤ r → r < m → Q (.int r) M) : sp__law_draw K [.ref a, .int m] M Q E := ⟨_, _, rfl, a, c, m, rfl, hm, rfl, h0, h1, q⟩
/-- a list or text at a drawn place -/
theorem ix_drawn {xs : List D} {r : Int} (h0 : 0 ≤ r) (h1 : r < xs.length) : ∃ d, d ∈ xs ∧ ixD M (.lst xs) (.int r) = some d := by
  obtain ⟨n, rfl⟩ := Int.eq_ofNat_of_zero_le h0
  have hn : n < xs.length := by omega
  exact ⟨xs[n], List.getElem_mem hn, ix_lst (by simp [hn])⟩
theorem ix_sign {z : Str} {r : Int} (hz : z.length ≤ sizeLine) (h0 : 0 ≤ r) (h1 : r < z.cps.toList.length) : ∃ c, c ∈ z.cps.toList ∧ ixD M (.str z) (.int r) = some (.str ⟨#[c]⟩) := by
  obtain ⟨n, rfl⟩ := Int.eq_ofNat_of_zero_le h0
  have hn : n < z.cps.toList.length := by omega
  refine ⟨z.cps.toList[n], List.getElem_mem hn, ?_⟩
  show (if z.length ≤ sizeLine then (atI z.cps.toList ((n : Nat) : Int)).map fun c => D.str ⟨#[c]⟩ else none) = _
  rw [if_pos hz, atI_nat (x := z.cps.toList[n]) (by simp [hn])]
  rfl
def tenN : List Str := ["room", "box", "word", "suite", "sign", "claim", "plan", "done", "put", "tell"]
theorem tenN_ok : ∀ z ∈ tenN, isNameB z = true := by decide +kernel
theorem small_len : SMALLS.cps.toList.length = 26 := by decide +kernel
theorem joinL_nil : ∀ l : List (List Nat), TL.joinL [] l = l.flatten
  | [] => rfl
  | [p] => by show p = [p].flatten; simp
  | p :: q :: r => by
    show p ++ ([] ++ TL.joinL [] (q :: r)) = _
    rw [joinL_nil (q :: r)]
    simp
theorem join_cps (zs : List Str) : (Txt.join ("" : Str) zs).cps.toList = (zs.map fun z => z.cps.toList).flatten := by
  rw [TL.join_eq]
  have := TL.tl_join ("" : Str) zs
  rw [show TL.tl ("" : Str) = [] from rfl, joinL_nil] at this
  exact this
theorem singles : ∀ {zs : List Str}, (∀ z ∈ zs, ∃ c, c ∈ SMALLS.cps.toList ∧ z = ⟨#[c]⟩) → ∃ cs : List Nat, zs = cs.map (fun c => (⟨#[c]⟩ : Str)) ∧ ∀ c ∈ cs, c ∈ SMALLS.cps.toList
  | [], _ => ⟨[], rfl, fun _ h => by cases h⟩
  | z :: zs, h => by
    obtain ⟨c, hc, e⟩ := h z List.mem_cons_self
    obtain ⟨cs, e2, h2⟩ := singles (zs := zs) fun y hy => h y (List.mem_cons_of_mem _ hy)
    refine ⟨c :: cs, by rw [e, e2]; rfl, fun x hx => ?_⟩
    rcases List.mem_cons.mp hx with hx | hx
    · rw [hx]; exact hc
    · exact h2 x hx
theorem flat_singles (cs : List Nat) : ((cs.map (fun c => (⟨#[c]⟩ : Str))).map fun z => z.cps.toList).flatten = cs := by
  induction cs with
  | nil => rfl
  | cons c cs ih =>
    rw [List.map_cons, List.map_cons, List.flatten_cons, ih]
    rfl
theorem len_cps (z : Str) : z.length = z.cps.toList.length := Array.length_toList.symm
theorem nameB_iff {z : Str} : isNameB z = true ↔ 1 ≤ z.cps.toList.length ∧ z.cps.toList.length ≤ 6 ∧ ∀ c ∈ z.cps.toList, c ∈ SMALLS.cps.toList := by
  unfold isNameB
  rw [Bool.and_eq_true, Bool.and_eq_true, List.all_eq_true, len_cps]
  simp only [decide_eq_true_eq]
theorem join_small {zs : List Str} (h1 : 1 ≤ zs.length) (h2 : zs.length ≤ 6) (h : ∀ z ∈ zs, ∃ c, c ∈ SMALLS.cps.toList ∧ z = ⟨#[c]⟩) : isNameB (Txt.join "" zs) = true := by
  obtain ⟨cs, rfl, hc⟩ := singles h
  rw [List.length_map] at h1 h2
  rw [nameB_iff, join_cps, flat_singles]
  exact ⟨h1, h2, hc⟩
theorem lw__law_name (h : sp__law_name K ds M Q E) : rd__law_name K (wd E) (ends Q) (startD ["_law_state", "_law_size", "_law_k"] ds) M := by
  obtain ⟨s, rfl, a, c, rfl, hm, q⟩ := h
  unfold rd__law_name
  walk_at "bbs"
  refine c_draw hm (by omega) (by omega) fun r h0 h1 => ?_
  walk_at "bbs"
  by_cases hr : r = 0
  · rw [decide_eq_true hr]
    walk_at "bbs"
    refine ⟨by show 10 ≤ sizeLine; rw [sizeLine_eq]; omega, ?_⟩
    walk_at "bbs"
    refine c_draw hm (by omega) (by omega) fun r2 h2 h3 => ?_
    obtain ⟨d, hd, e⟩ := ix_drawn (M := M) (xs := tenN.map .str) h2 (by show r2 < (10 : Nat); omega)
    obtain ⟨z, hz, rfl⟩ := List.mem_map.mp hd
    refine i_rdo e ?_
    exact .done (q z (tenN_ok z hz))
  · rw [decide_eq_false hr]
    walk_at "bbs"
    refine .done ?_
    walk_at "bbs"
    refine ⟨by show 6 ≤ sizeLine; rw [sizeLine_eq]; omega, ?_⟩
    walk_at "bbs"
    refine c_draw hm (by omega) (by omega) fun r2 h2 h3 => ?_
    obtain ⟨d, hd, e⟩ := ix_drawn (M := M) (xs := ([1, 1, 1, 2, 6, 3] : List Int).map .int) h2 (by show r2 < (6 : Nat); omega)
    obtain ⟨n, hn, rfl⟩ := List.mem_map.mp hd
    have hn1 : 1 ≤ n ∧ n ≤ 6 := by
      simp only [List.mem_cons, List.not_mem_nil, or_false] at hn
      omega
    refine i_rdo e ?_
    refine .done ?_
    walk_at "bbs"
    refine ⟨by omega, by omega, by rw [rng_len, sizeLine_eq]; omega, fun i acc M' => M' = M ∧ ∃ zs : List Str, acc = zs.map .str ∧ zs.length = i ∧ ∀ z ∈ zs, ∃ c, c ∈ SMALLS.cps.toList ∧ z = ⟨#[c]⟩, ⟨rfl, [], rfl, rfl, fun _ h => by cases h⟩, fun _ _ _ _ => trivial, ?_, ?_⟩
    · rintro i d acc M2 hd' ⟨rfl, zs, rfl, hl, hz⟩
      walk_at "bbs"
      refine c_draw hm (by omega) (by omega) fun r3 h4 h5 => ?_
      obtain ⟨cc, hcc, e2⟩ := ix_sign (M := M2) (z := SMALLS) (by rw [sizeLine_eq, len_cps, small_len]; omega) h4 (by rw [small_len]; omega)
      refine i_rdo e2 ?_
      refine ⟨rfl, zs ++ [⟨#[cc]⟩], by rw [List.map_append]; rfl, by simp [hl], fun z hz' => ?_⟩
      rcases List.mem_append.mp hz' with hz' | hz'
      · exact hz z hz'
      · exact ⟨cc, hcc, List.mem_singleton.mp hz'⟩
    · rintro acc M2 ⟨rfl, zs, rfl, hl, hz⟩
      rw [rng_len] at hl
      walk_at "bbs"
      refine ⟨?_, ?_⟩
      · have e1 : (zs.map fun x => x.length) = List.replicate zs.length 1 := by
          rw [List.eq_replicate_iff]
          refine ⟨by rw [List.length_map], fun b hb => ?_⟩
          obtain ⟨z, hz', rfl⟩ := List.mem_map.mp hb
          obtain ⟨cc, _, rfl⟩ := hz z hz'
          rfl
        rw [e1, List.sum_replicate_nat, show (("" : Str)).length = 0 from rfl]
        omega
      · exact .done (q _ (join_small (by omega) (by omega) hz))
theorem c_name {a c : Addr} (hm : M a = some (.gen c)) (q : ∀ z, isNameB z = true → Q (.str z) M) : sp__law_name K [.ref a] M Q E := ⟨_, rfl, a, c, rfl, hm, q⟩
theorem rising_pw : ∀ {l : List Str} {p : Str}, risingS p l = true → (p :: l).Nodup → (p :: l).Pairwise (fun x y => ltS x y = true)
  | [], p, _, _ => List.pairwise_singleton _ _
  | x :: r, p, h, hn => by
    unfold risingS at h
    rw [Bool.and_eq_true] at h
    have hn2 := List.nodup_cons.mp hn
    have ih := rising_pw h.2 hn2.2
    have h1 : ¬ x.cps.toList < p.cps.toList := by
      have := h.1
      rw [PyProof.Rows.ltCps_eq] at this
      simpa using this
    have hne : p.cps.toList ≠ x.cps.toList := fun e => hn2.1 (by
      have : p = x := by cases p; cases x; simp only [Str.mk.injEq]; exact Array.toList_inj.mp e
      rw [this]; exact List.mem_cons_self)
    have hpx : ltS p x = true := by
      unfold ltS
      refine decide_eq_true (Classical.byContradiction fun hc => hne ?_)
      exact List.le_antisymm (List.not_lt.mp h1) (List.not_lt.mp hc)
    refine List.pairwise_cons.mpr ⟨fun y hy => ?_, ih⟩
    rcases List.mem_cons.mp hy with hy | hy
    · rw [hy]; exact hpx
    · have hxy := (List.pairwise_cons.mp ih).1 y hy
      exact decide_eq_true (List.lt_trans (of_decide_eq_true hpx) (of_decide_eq_true hxy))
theorem sorted_pw {l : List Str} (h : sortedS l = true) (hn : l.Nodup) : l.Pairwise (fun x y => ltS x y = true) := by
  cases l with
  | nil => exact .nil
  | cons x r => exact rising_pw h hn
theorem cutS_to (z : Str) (n : Nat) : (cutS z none (some (n : Int))).cps.toList = z.cps.toList.take n := by
  unfold cutS
  rw [HT.sIx_none, HT.sIx_nat, List.drop_zero, Nat.sub_zero]
  show (z.cps.toList.take (min n z.length)) = _
  rw [len_cps]
  by_cases h : n ≤ z.cps.toList.length
  · rw [Nat.min_eq_left h]
  · rw [Nat.min_eq_right (by omega), List.take_of_length_le (Nat.le_refl _), List.take_of_length_le (by omega)]
theorem str_ext {x y : Str} (h : x.cps.toList = y.cps.toList) : x = y := by cases x; cases y; simp only [Str.mk.injEq]; exact Array.toList_inj.mp h
theorem app_cps (x y : Str) : (x ++ y).cps.toList = x.cps.toList ++ y.cps.toList := TL.tl_append x y
/-- a name of at most five signs, and one more -/
theorem name_more {z : Str} {n c : Nat} (h : isNameB z = true) (hn : n ≤ 5) (hc : c ∈ SMALLS.cps.toList) : isNameB (cutS z none (some (n : Int)) ++ ⟨#[c]⟩) = true := by
  rw [nameB_iff] at h ⊢
  rw [app_cps, cutS_to]
  refine ⟨by rw [List.length_append]; show 1 ≤ _ + 1; omega, by rw [List.length_append, List.length_take]; show _ + 1 ≤ 6; omega, fun x hx => ?_⟩
  rcases List.mem_append.mp hx with hx | hx
  · exact h.2.2 x (List.mem_of_mem_take hx)
  · rw [List.mem_singleton.mp hx]; exact hc
def cand (z : Str) (c : Nat) : Str := cutS z none (some ((4 : Nat) : Int)) ++ ⟨#[c]⟩
theorem cand_inj {z : Str} {c d : Nat} (h : cand z c = cand z d) : c = d := by
  have h2 : (cand z c).cps.toList = (cand z d).cps.toList := by rw [h]
  unfold cand at h2
  rw [app_cps, app_cps] at h2
  have h3 := List.append_cancel_left h2
  exact (List.cons.inj h3).1
theorem small_nodup : SMALLS.cps.toList.Nodup := by decide +kernel
theorem cands_nodup (z : Str) : (SMALLS.cps.toList.map (cand z)).Nodup := by
  refine List.pairwise_map.mpr (small_nodup.imp fun h e => h (cand_inj e))
/-- of so many candidates one is new -/
theorem some_new {z : Str} {zs : List Str} (h : zs.length < 26) : ((z :: SMALLS.cps.toList.map (cand z)).filter fun y => !decide (y ∈ zs)) ≠ [] := by
  intro e
  have hsub : SMALLS.cps.toList.map (cand z) ⊆ zs := fun y hy => by
    have := List.filter_eq_nil_iff.mp e y (List.mem_cons_of_mem _ hy)
    simpa using this
  have := (cands_nodup z).length_le_of_subset hsub
  rw [List.length_map, small_len] at this
  omega
theorem toPys_strs : ∀ zs : List Str, toPys (zs.map D.str) = some (zs.map PyData.str)
  | [] => by rw [List.map_nil, toPys]; rfl
  | z :: zs => by
    rw [List.map_cons, toPys, toPys_strs zs, toPy]
    rfl
theorem small_ok : ∀ c ∈ SMALLS.cps.toList, c < 0x110000 := by decide +kernel
theorem strOk_name {z : Str} (h : isNameB z = true) : PyData.strOk z = true := by
  unfold PyData.strOk
  rw [← Array.all_toList, List.all_eq_true]
  exact fun c hc => decide_eq_true (small_ok c ((nameB_iff.mp h).2.2 c hc))
theorem lay_strs : ∀ {zs : List Str}, (∀ z ∈ zs, PyData.strOk z = true) → PyData.canLayAll0 (zs.map PyData.str) = true
  | [], _ => rfl
  | z :: zs, h => by
    rw [List.map_cons, PyData.canLayAll0, lay_strs fun y hy => h y (List.mem_cons_of_mem _ hy), PyData.canLay0, h z List.mem_cons_self]
    rfl
theorem depth_strs : ∀ zs : List Str, PyData.depthAll (zs.map PyData.str) = 0
  | [] => rfl
  | z :: zs => by rw [List.map_cons, PyData.depthAll, depth_strs zs, PyData.depth]; rfl
theorem shaped_list {zs : List Str} (h : ∀ z ∈ zs, PyData.strOk z = true) : SeqAt.shaped (.list (zs.map PyData.str)) = true := by
  unfold SeqAt.shaped
  rw [PyData.canLay0, lay_strs h, PyData.depth, depth_strs]
  rfl
theorem i_neEmpty {p : Addr} {zs : List Str} (h : M p = some (.lst (zs.map .str))) (hz : ∀ z ∈ zs, PyData.strOk z = true) (q : Q (.bl (!zs.isEmpty)) M) : rdNe (.ref p) (.lst []) M Q := by
  refine ⟨.list (zs.map PyData.str), .list [], ?_, by show toPy (.lst []) = _; rw [toPy, toPys]; rfl, shaped_list hz, rfl, ?_⟩
  · show (match M p with | some (.lst xs) => (toPys xs).map PyData.list | _ => none) = _
    rw [h]
    show (toPys _).map _ = _
    rw [toPys_strs]
    rfl
  · have : PyData.eqv (.list (zs.map PyData.str)) (.list []) = zs.isEmpty := by
      cases zs with
      | nil => rfl
      | cons z zs => rw [List.map_cons, PyData.eqv, PyData.eqvAll]; rfl
    rw [this]
    exact q
theorem at_last {zs : List Str} {l : Str} : ixD M (.lst ((zs ++ [l]).map D.str)) (.int (-1)) = some (.str l) := by
  show atI ((zs ++ [l]).map D.str) (-1) = _
  unfold atI ixN
  rw [if_neg (by omega), if_pos (by simp; omega)]
  show ((zs ++ [l]).map D.str)[(-1 + (((zs ++ [l]).map D.str).length : Int)).toNat]? = _
  have : (-1 + (((zs ++ [l]).map D.str).length : Int)).toNat = zs.length := by rw [List.length_map, List.length_append, List.length_singleton]; omega
  rw [this, List.getElem?_map]
  simp
theorem i_ixRef {p : Addr} {xs : List D} {i : Int} {d : D} (h : M p = some (.lst xs)) (e : ixD M (.lst xs) (.int i) = some d) (q : Q d M) : rdO ixD (.ref p) (.int i) M Q := by
  refine ⟨d, ?_, q⟩
  show (seqOf M (.ref p)).bind _ = _
  rw [seqOf_ref h]
  exact e
theorem sl_to {z : Str} {n : Nat} (hz : z.length ≤ sizeLine) : slD M (.str z) none (some (n : Int)) = some (.str (cutS z none (some (n : Int)))) := if_pos hz
theorem name_size {z : Str} (h : isNameB z = true) : z.length ≤ sizeLine := by have := name_len h; rw [sizeLine_eq]; omega
theorem i_rdoN {f : Mem → D → D → Option D} {x y d : D} (h : f M x y = some d) (q : Q d M) : rdO f x y M Q := ⟨d, h, q⟩
theorem names_tail {T : EndsD} {a p : Addr} {m : Int} {z : Str} {zs : List Str} {x4 : Option D} (hp : M p = some (.lst (zs.map .str))) (hz : isNameB z = true) (hzs : ∀ z ∈ zs, isNameB z = true) (hl : zs.length < 26)
    (hT : ∀ y, isNameB y = true → y ∉ zs → ∀ x4, T.nx [some (.ref a), some (.int m), some (.ref p), some (.str z), x4, none, none] (mset M p (.lst ((zs ++ [y]).map .str)))) :
    (dSeq (dSet 4 (dOp (rdO addD) (dN (dLst (dCons (dVar 3) (dNil)))) (dN (dLc (dSeqI (dN (dC (.str "abcdefghijklmnopqrstuvwxyz")))) (gdName 5) dYes (dOp (rdO addD) (dN (dSl (dN (dVar 3)) dNoPart (dPart (dC (.int 4))))) (dN (dVar 5))) [5]))))
  (dDrop (dApp (dVar 2) (dOp (rdO ixD) (dN (dLc (dSeqI (dN (dVar 4))) (gdName 6) (dTest (dOp (rdIn true) (dN (dVar 6)) (dN (dVar 2)))) (dVar 6) [6])) (dC (.int 0)))))) T [some (.ref a), some (.int m), some (.ref p), some (.str z), x4, none, none] M := by
  have h26 := small_len
  have hs := sizeLine_eq
  walk_at "bbs"
  refine ⟨by show 1 ≤ sizeLine; omega, ?_⟩
  walk_at "bbs"
  refine ⟨by unfold signs; rw [List.length_map]; show SMALLS.cps.toList.length ≤ _; omega, fun i acc M' => acc = ((SMALLS.cps.toList.take i).map (cand z)).map D.str ∧ M' = M, ⟨rfl, rfl⟩, fun _ _ _ _ => trivial, ?_, ?_⟩
  · rintro i d acc M2 hd ⟨rfl, rfl⟩
    obtain ⟨c, hc, rfl⟩ := signs_at hd
    walk_at "bbs"
    refine ⟨_, sl_to (n := 4) (name_size hz), ?_⟩
    walk_at "bbs"
    refine i_rdoN (addD_str ?_) ?_
    · have h1 := len_cps (cutS z none (some ((4 : Nat) : Int)))
      rw [cutS_to, List.length_take] at h1
      have h2 : (⟨#[c]⟩ : Str).length = 1 := rfl
      omega
    · refine ⟨?_, rfl⟩
      rw [List.map_map, List.map_map]
      exact take_map_succ (fun c => D.str (cand z c)) hc
  · rintro acc M2 ⟨rfl, rfl⟩
    have hlen : (signs ("abcdefghijklmnopqrstuvwxyz" : Str)).length = 26 := by unfold signs; rw [List.length_map]; exact small_len
    rw [hlen, List.take_of_length_le (by omega)]
    refine i_rdoN (addD_lst (by rw [List.length_map, List.length_map]; show 1 + _ ≤ _; omega)) ?_
    refine .done ?_
    walk_at "bbs"
    refine ⟨p, _, rfl, hp, ?_⟩
    walk_at "bbs"
    have e0 : [D.str z] ++ (SMALLS.cps.toList.map (cand z)).map D.str = (z :: SMALLS.cps.toList.map (cand z)).map D.str := rfl
    rw [e0]
    refine ⟨by rw [List.length_map, List.length_cons, List.length_map]; omega, fun i acc M' => acc = (((z :: SMALLS.cps.toList.map (cand z)).take i).filter fun y => !decide (y ∈ zs)).map D.str ∧ M' = M2, ⟨rfl, rfl⟩, fun _ _ _ _ => trivial, ?_, ?_⟩
    · rintro i d acc M3 hd ⟨rfl, rfl⟩
      obtain ⟨y, hy, rfl⟩ := strs_at hd
      walk_at "bbs"
      refine i_inS (by rw [show nrm (D.ref p) = D.ref p from rfl]; exact seqOf_ref hp) ?_
      rw [if_pos rfl]
      walk_at "bbs"
      have hsucc : ((z :: SMALLS.cps.toList.map (cand z)).take (i + 1)).filter (fun y => !decide (y ∈ zs)) = ((z :: SMALLS.cps.toList.map (cand z)).take i).filter (fun y => !decide (y ∈ zs)) ++ (if y ∈ zs then [] else [y]) := by
        rw [← take_succ_of hy, List.filter_append]
        congr 1
        by_cases hyz : y ∈ zs <;> simp [hyz]
      by_cases hyz : y ∈ zs
      · rw [decide_eq_true hyz]
        walk_at "bbs"
        refine ⟨?_, rfl⟩
        rw [hsucc, if_pos hyz, List.append_nil]
      · rw [decide_eq_false hyz]
        walk_at "bbs"
        refine ⟨?_, rfl⟩
        rw [hsucc, if_neg hyz, List.map_append]
        rfl
    · rintro acc M3 ⟨rfl, rfl⟩
      walk_at "bbs"
      rw [List.length_map, List.take_length]
      have hne := some_new (z := z) hl
      cases hf : (z :: SMALLS.cps.toList.map (cand z)).filter (fun y => !decide (y ∈ zs)) with
      | nil => exact absurd hf hne
      | cons y r =>
        have hy : y ∈ (z :: SMALLS.cps.toList.map (cand z)).filter (fun y => !decide (y ∈ zs)) := by rw [hf]; exact List.mem_cons_self
        obtain ⟨hy1, hy2⟩ := List.mem_filter.mp hy
        refine i_rdoN (ix_lst (i := 0) (d := .str y) rfl) ?_
        refine ⟨_, hp, by rw [List.length_map]; omega, ?_⟩
        have hyn : isNameB y = true := by
          rcases List.mem_cons.mp hy1 with e | hy1
          · rw [e]; exact hz
          · obtain ⟨c, hc, rfl⟩ := List.mem_map.mp hy1
            exact name_more hz (by omega) hc
        have key := hT y hyn (by simpa using hy2)
        rw [List.map_append] at key
        exact key _
theorem lw__law_names (h : sp__law_names K ds M Q E) : rd__law_names K (wd E) (ends Q) (startD ["_law_state", "_law_many", "_law_some", "_law_name_here", "_law_others", "_law_sign", "_law_one"] ds) M := by
  obtain ⟨s, n, rfl, a, c, m, rfl, hm, rfl, h0, h1, q⟩ := h
  unfold rd__law_names
  walk_at "bbs"
  refine ⟨Nat.zero_le _, fun p hp => ?_⟩
  refine .done ?_
  have hma : ∀ {x}, (mset M p x) a = some (.gen c) := fun {x} => by rw [mset_ne (mem_ne hm hp)]; exact hm
  refine ⟨fun k env M' => ∃ (zs : List Str) (x3 x4 : Option D), env = [some (.ref a), some (.int m), some (.ref p), x3, x4, none, none] ∧ M' = mset M p (.lst (zs.map .str)) ∧ (∀ z ∈ zs, isNameB z = true) ∧ zs.Nodup ∧ zs.length ≤ m.toNat ∧ k = m.toNat - zs.length,
    ⟨m.toNat, [], none, none, rfl, rfl, (by intro _ h; cases h), List.nodup_nil, Nat.zero_le _, rfl⟩, ?_⟩
  rintro k env M2 ⟨zs, x3, x4, rfl, rfl, hz, hnd, hle, rfl⟩
  walk_at "bbs"
  refine i_rd1 (d := .int zs.length) (by show (seqOf _ _).map _ = _; rw [show nrm (D.ref p) = D.ref p from rfl, seqOf_ref mset_same]; simp) ?_
  walk_at "bbs"
  by_cases hlt : (zs.length : Int) < m
  · rw [decide_eq_true hlt]
    walk_at "bbs"
    refine c_name hma fun z0 hz0 => ?_
    refine .done ?_
    walk_at "bbs"
    refine ⟨by show 0 ≤ sizeLine; exact Nat.zero_le _, ?_⟩
    refine i_neEmpty mset_same (fun z h => strOk_name (hz z h)) ?_
    have fin : ∀ (z : Str) (T : EndsD), isNameB z = true → (T.nx = FzS fun env M' => ∃ m', m' < m.toNat - zs.length ∧ ∃ (zs : List Str) (x3 x4 : Option D), env = [some (.ref a), some (.int m), some (.ref p), x3, x4, none, none] ∧ M' = mset M p (.lst (zs.map .str)) ∧ (∀ z ∈ zs, isNameB z = true) ∧ zs.Nodup ∧ zs.length ≤ m.toNat ∧ m' = m.toNat - zs.length) →
        ∀ x4, (dSeq (dSet 4 (dOp (rdO addD) (dN (dLst (dCons (dVar 3) (dNil)))) (dN (dLc (dSeqI (dN (dC (.str "abcdefghijklmnopqrstuvwxyz")))) (gdName 5) dYes (dOp (rdO addD) (dN (dSl (dN (dVar 3)) dNoPart (dPart (dC (.int 4))))) (dN (dVar 5))) [5]))))
  (dDrop (dApp (dVar 2) (dOp (rdO ixD) (dN (dLc (dSeqI (dN (dVar 4))) (gdName 6) (dTest (dOp (rdIn true) (dN (dVar 6)) (dN (dVar 2)))) (dVar 6) [6])) (dC (.int 0)))))) T [some (.ref a), some (.int m), some (.ref p), some (.str z), x4, none, none] (mset M p (.lst (zs.map .str))) := fun z T hz' hT x4 => by
      refine names_tail mset_same hz' hz (by omega) fun y hy hyn x4 => ?_
      rw [hT, mset_mset]
      refine .done ⟨m.toNat - (zs.length + 1), by omega, zs ++ [y], _, _, rfl, rfl, fun x hx => ?_, ?_, by rw [List.length_append, List.length_singleton]; omega, by rw [List.length_append, List.length_singleton]⟩
      · rcases List.mem_append.mp hx with hx | hx
        · exact hz x hx
        · rw [List.mem_singleton.mp hx]; exact hy
      · exact List.nodup_append.mpr ⟨hnd, (by simp), fun x hx w hw e => hyn (by rw [← List.mem_singleton.mp hw, ← e]; exact hx)⟩
    walk_at "bbs"
    cases hzs : zs with
    | nil =>
      rw [hzs] at fin
      walk_at "bbs"
      refine .done ?_
      exact fin z0 _ hz0 rfl _
    | cons z1 zr =>
      rw [hzs] at fin
      walk_at "bbs"
      refine c_draw hma (by omega) (by omega) fun r h2 h3 => ?_
      walk_at "bbs"
      by_cases hr : r = 0
      · rw [decide_eq_true hr]
        walk_at "bbs"
        obtain ⟨ini, l, el⟩ : ∃ ini l, z1 :: zr = ini ++ [l] := ⟨_, _, (List.dropLast_concat_getLast (List.cons_ne_nil z1 zr)).symm⟩
        have hl : isNameB l = true := hz l (by rw [hzs, el]; exact List.mem_append_right _ List.mem_cons_self)
        refine i_ixRef mset_same (by rw [el]; exact at_last) ?_
        walk_at "bbs"
        refine ⟨_, sl_to (n := 5) (name_size hl), ?_⟩
        walk_at "bbs"
        refine c_draw hma (by omega) (by omega) fun r2 h4 h5 => ?_
        obtain ⟨cc, hcc, e2⟩ := ix_sign (M := mset M p (MO.lst (List.map D.str (z1 :: zr)))) (z := ("abz" : Str)) (by rw [sizeLine_eq]; decide) h4 (by show r2 < (3 : Nat); omega)
        have hcs : cc ∈ SMALLS.cps.toList := (show ∀ c ∈ ("abz" : Str).cps.toList, c ∈ SMALLS.cps.toList by decide +kernel) cc hcc
        refine i_rdo e2 ?_
        refine i_rdoN (addD_str ?_) ?_
        · have h1 := len_cps (cutS l none (some ((5 : Nat) : Int)))
          rw [cutS_to, List.length_take] at h1
          have h2 : (⟨#[cc]⟩ : Str).length = 1 := rfl
          have := sizeLine_eq
          omega
        · refine .done ?_
          exact fin _ _ (name_more hl (by omega) hcs) rfl _
      · rw [decide_eq_false hr]
        walk_at "bbs"
        refine .done ?_
        exact fin z0 _ hz0 rfl _
  · rw [decide_eq_false hlt]
    walk_at "bbs"
    refine .done ?_
    walk_at "bbs"
    have hlen : zs.length = m.toNat := by omega
    refine ⟨_, rfl, zs, by rw [show nrm (D.ref p) = D.ref p from rfl]; exact lstOf_ref mset_same, by omega, fun ys hperm hsort => ?_⟩
    walk_at "bbs"
    first | refine ⟨_, rfl, _, rfl, ?_⟩ | skip
    refine .drop p mset_same rfl ?_
    rw [mdel_mset hp]
    have hl2 := hperm.length_eq
    exact .done (q ys ⟨fun y hy => hz y (hperm.subset hy), sorted_pw hsort (hperm.nodup_iff.mpr hnd), by omega, by omega⟩)
theorem c_names {a c : Addr} {m : Int} (hm : M a = some (.gen c)) (h0 : 1 ≤ m) (h1 : m ≤ 8) (q : ∀ zs, isNames zs m.toNat m.toNat → Q (namesD zs) M) : sp__law_names K [.ref a, .int m] M Q E := ⟨_, _, rfl, a, c, m, rfl, hm, rfl, h0, h1, q⟩
end
end BB

set_option maxHeartbeats 4000000
namespace BB
open L2 PySem PySem.Spec PyProof.Rows

section
variable {K : PySem.W.Frag} {ds : List D} {M : Mem} {Q : DKt} {E : DX}
theorem i_par {i j : Nat} {da db : DE} {T : EndsD} {env : Env} (q : da env M fun x M1 => db env M1 fun y M2 => T.nx ((env.set i (some x)).set j (some y)) M2) : dPar i j da db T env M := q
local macro_rules | `(tactic| walk_at "bb") => `(tactic| first
  | (with_reducible refine i_c ?_) | (with_reducible refine i_n ?_) | (with_reducible refine i_op ?_) | (with_reducible refine i_cons ?_) | (with_reducible refine i_nil ?_) | (with_reducible refine i_cb ?_)
  | (with_reducible refine i_seq ?_) | (with_reducible refine i_set ?_) | (with_reducible refine i_ret ?_) | (with_reducible refine i_if ?_) | (with_reducible refine i_drop ?_) | (with_reducible refine i_par ?_) | (with_reducible refine i_setF ?_) | (with_reducible refine i_raise ?_) | (with_reducible refine i_raiseI ?_) | (with_reducible refine i_asg ?_)
  | (with_reducible refine i_test ?_) | (with_reducible refine i_chain ?_) | (with_reducible refine i_tru ?_) | (with_reducible refine i_and ?_) | (with_reducible refine i_or ?_) | (with_reducible refine i_not ?_)
  | (with_reducible refine i_andv ?_) | (with_reducible refine i_orv ?_) | (with_reducible refine i_notv ?_) | (with_reducible refine i_ifx ?_) | (with_reducible refine i_tup ?_) | (with_reducible refine i_lst ?_) | (with_reducible refine i_lstM ?_)
  | (with_reducible refine i_neg ?_) | (with_reducible refine i_call ?_) | (with_reducible refine i_callK ?_) | (with_reducible refine i_meth ?_) | (with_reducible refine i_fld ?_) | (with_reducible refine i_tupIx ?_) | (with_reducible refine i_app ?_)
  | (with_reducible refine i_join ?_) | (with_reducible refine i_sl ?_) | (with_reducible refine i_part ?_) | (with_reducible refine i_nopart ?_) | (with_reducible refine i_next ?_) | (with_reducible refine i_retN ?_)
  | (with_reducible refine i_gname ?_) | (with_reducible refine i_gcons ?_) | (with_reducible refine i_gnil ?_) | (with_reducible refine i_seqI ?_) | (with_reducible refine i_rng1 ?_) | (with_reducible refine i_enum ?_) | (with_reducible refine i_zip2 ?_)
  | (with_reducible refine i_yes ?_) | (with_reducible refine i_for ?_) | (with_reducible refine i_lc ?_)
  | ((with_reducible refine i_var (d := ?bbd) ?bbh ?bbq); (case bbh => rfl)) | ((with_reducible refine i_rdo (d := ?bbd) ?bbh ?bbq); (case bbh => rfl); (try dsimp only)) | ((with_reducible refine i_rd1 (d := ?bbd) ?bbh ?bbq); (case bbh => rfl); (try dsimp only))
  | (with_reducible refine i_itt ?_) | (with_reducible refine i_nf ?_) | (with_reducible refine i_nt ?_) | (with_reducible refine i_itf ?_)
  | ((with_reducible show rdIsi _ _ _); first | refine i_isi rfl kb_int_int ?_ | refine i_isi rfl kb_int_bool ?_ | refine i_isi rfl kb_str_str ?_ | refine i_isi rfl kb_tup_tup ?_)
  | (with_reducible refine ⟨_, rfl, ?_⟩)
  | ((with_reducible show wkD _ _ _); first | refine wk_tup ?_ | refine wk_lst ?_ | refine wk_str ?_)
  | ((with_reducible show rdEq _ _ _ _); refine i_eqI ?_) | ((with_reducible show rdNe _ _ _ _); refine i_neI ?_)
  | ((with_reducible show ite _ _ _); refine i_itt ?_) | ((with_reducible show ite _ _ _); refine i_itf ?_))
local macro_rules | `(tactic| walk_at "bbs") => `(tactic| repeat walk_at "bb")
theorem ix_strs {zs : List Str} {r : Int} (h0 : 0 ≤ r) (h1 : r < zs.length) : ∃ z, z ∈ zs ∧ ixD M (.tup (zs.map .str)) (.int r) = some (.str z) := by
  obtain ⟨n, rfl⟩ := Int.eq_ofNat_of_zero_le h0
  have hn : n < zs.length := by omega
  exact ⟨zs[n], List.getElem_mem hn, ix_tup (by simp [hn])⟩
theorem tup_ref {p : Addr} {xs : List D} (h : M p = some (.lst xs)) : tupD M (nrm (.ref p)) = some (.tup xs) := by
  show (seqOf M (.ref p)).map D.tup = _
  rw [seqOf_ref h]
  rfl
/-- the doors of one room, as they are drawn -/
def RowOk (ss : List Str) (m : Nat) (r : List Door) : Prop := ∀ s n, some (s, n) ∈ r → s ∈ ss ∧ n < m
theorem lw__law_parts (h : sp__law_parts K ds M Q E) : rd__law_parts K (wd E) (ends Q) (startD ["_law_state", "_law_many", "_law_most_letters", "_law_shut", "_law_names_here", "_law_marks", "_law_halls", "_law_k", "_law_doors", "_law_name_here", "_law_door"] ds) M := by
  obtain ⟨s, n, l, t, rfl, a, c, m, lm, sh, rfl, hm, rfl, rfl, rfl, k1, k2, k3, k4, k5, k6, q⟩ := h
  have hs := sizeLine_eq
  unfold rd__law_parts
  walk_at "bbs"
  refine c_draw hm (by omega) (by omega) fun r1 a1 a2 => ?_
  walk_at "bbs"
  refine c_names (m := 1 + r1) hm (by omega) (by omega) fun ls hls => ?_
  refine .done ?_
  walk_at "bbs"
  refine c_draw hm (by omega) (by omega) fun r2 a3 a4 => ?_
  walk_at "bbs"
  refine c_names (m := 2 + r2) hm (by omega) (by omega) fun ss hss => ?_
  walk_at "bbs"
  refine ⟨by show 0 ≤ sizeLine; omega, fun ph hph => ?_⟩
  have hma : ∀ {x}, (mset M ph x) a = some (.gen c) := fun {x} => by rw [mset_ne (mem_ne hm hph)]; exact hm
  refine .done ?_
  walk_at "bbs"
  refine ⟨by omega, by omega, ?_⟩
  have hl1 : 1 ≤ ls.length ∧ ls.length ≤ 4 := by have := hls.2.2; omega
  have hs1 : 2 ≤ ss.length ∧ ss.length ≤ 4 := by have := hss.2.2; omega
  refine ⟨fun i env M' => ∃ (rs : List (List Door)) (x7 x8 x9 x10 : Option D), env = [some (.ref a), some (.int m), some (.int lm), some (.int sh), some (namesD ls), some (namesD ss), some (.ref ph), x7, x8, x9, x10] ∧ M' = mset M ph (.lst (rs.map fun r => .tup (r.map doorD))) ∧ rs.length = i ∧ ∀ r ∈ rs, r.length = ls.length ∧ RowOk ss m.toNat r,
    ⟨[], none, none, none, none, rfl, rfl, rfl, by intro _ h; cases h⟩, fun _ _ _ _ => trivial, ?_, ?_⟩
  · rintro i d env M2 hd ⟨rs, x7, x8, x9, x10, rfl, rfl, hrl, hrs⟩
    obtain ⟨hi, rfl⟩ := rng_at hd
    walk_at "bbs"
    refine ⟨by show 0 ≤ sizeLine; omega, fun pd hpd => ?_⟩
    have hpn : pd ≠ ph := fun e => by rw [e, mset_same] at hpd; cases hpd
    have hpd0 : M pd = none := by rw [mset_ne hpn] at hpd; exact hpd
    have hmb : ∀ {x y}, (mset (mset M ph x) pd y) a = some (.gen c) := fun {x y} => by rw [mset_ne (mem_ne hm hpd0)]; exact hma
    refine .done ?_
    walk_at "bbs"
    refine ⟨fun j env M' => ∃ (r : List Door) (x9 x10 : Option D), env = [some (.ref a), some (.int m), some (.int lm), some (.int sh), some (namesD ls), some (namesD ss), some (.ref ph), some (.int (0 + (i : Nat))), some (.ref pd), x9, x10] ∧ M' = mset (mset M ph (.lst (rs.map fun r => .tup (r.map doorD)))) pd (.lst (r.map doorD)) ∧ r.length = j ∧ RowOk ss m.toNat r,
      ⟨[], _, _, rfl, rfl, rfl, by intro _ _ h; cases h⟩, fun _ _ _ _ => trivial, ?_, ?_⟩
    · rintro j d env M3 hd2 ⟨r, y9, y10, rfl, rfl, hr1, hr2⟩
      obtain ⟨z, hz, rfl⟩ := strs_at hd2
      have hj : j < ls.length := (List.getElem?_eq_some_iff.mp hz).1
      walk_at "bbs"
      rw [List.length_map]
      refine c_draw hmb (by omega) (by omega) fun r3 b1 b2 => ?_
      obtain ⟨sg, hsg, e1⟩ := ix_strs (M := mset (mset M ph (.lst (rs.map fun r => .tup (r.map doorD)))) pd (.lst (r.map doorD))) (zs := ss) b1 b2
      refine i_rdo e1 ?_
      walk_at "bbs"
      refine c_draw hmb (by omega) (by omega) fun r4 b3 b4 => ?_
      refine ⟨by show 2 ≤ sizeLine; omega, ?_⟩
      refine .done ?_
      -- the door, whichever
      have fin : ∀ (dr : Door) (T : EndsD) (w9 : Option D), RowOk ss m.toNat [dr] → (T.nx = FzS fun env M' => ∃ (r : List Door) (x9 x10 : Option D), env = [some (.ref a), some (.int m), some (.int lm), some (.int sh), some (namesD ls), some (namesD ss), some (.ref ph), some (.int (0 + (i : Nat))), some (.ref pd), x9, x10] ∧ M' = mset (mset M ph (.lst (rs.map fun r => .tup (r.map doorD)))) pd (.lst (r.map doorD)) ∧ r.length = j + 1 ∧ RowOk ss m.toNat r) →
          (dDrop (dApp (dVar 8) (dVar 10))) T [some (.ref a), some (.int m), some (.int lm), some (.int sh), some (namesD ls), some (namesD ss), some (.ref ph), some (.int (0 + (i : Nat))), some (.ref pd), w9, some (doorD dr)] (mset (mset M ph (.lst (rs.map fun r => .tup (r.map doorD)))) pd (.lst (r.map doorD))) := fun dr T w9 hdr hT => by
        walk_at "bbs"
        refine ⟨pd, _, rfl, mset_same, ?_⟩
        walk_at "bbs"
        refine ⟨_, mset_same, by rw [List.length_map]; omega, ?_⟩
        rw [hT, mset_mset]
        refine .done ⟨r ++ [dr], _, _, rfl, by rw [List.map_append]; rfl, by rw [List.length_append, List.length_singleton, hr1], fun s n hsn => ?_⟩
        rcases List.mem_append.mp hsn with h | h
        · exact hr2 s n h
        · exact hdr s n h
      have fin2 : ∀ (dr : Door) (T : EndsD) (w9 : Option D), RowOk ss m.toNat [dr] → (T.nx = FzS fun env M' => ∃ (r : List Door) (x9 x10 : Option D), env = [some (.ref a), some (.int m), some (.int lm), some (.int sh), some (namesD ls), some (namesD ss), some (.ref ph), some (.int (0 + (i : Nat))), some (.ref pd), x9, x10] ∧ M' = mset (mset M ph (.lst (rs.map fun r => .tup (r.map doorD)))) pd (.lst (r.map doorD)) ∧ r.length = j + 1 ∧ RowOk ss m.toNat r) →
          (dSeq (dIfS ((dAnd (dTest (dOp (rdO (intD fun i j => decide (i > j))) (dN (dVar 3)) (dN (dC (.int 0))))) (dTest (dOp (rdEq) (dN (dCall (wd E) (sp__law_draw K) [] (dCons (dVar 0) (dCons (dVar 3) (dNil))))) (dN (dC (.int 0))))))) (dSet 10 (dC .non)) dNext)
  (dDrop (dApp (dVar 8) (dVar 10)))) T [some (.ref a), some (.int m), some (.int lm), some (.int sh), some (namesD ls), some (namesD ss), some (.ref ph), some (.int (0 + (i : Nat))), some (.ref pd), w9, some (doorD dr)] (mset (mset M ph (.lst (rs.map fun r => .tup (r.map doorD)))) pd (.lst (r.map doorD))) := fun dr T w9 hdr hT => by
        walk_at "bbs"
        by_cases c2 : sh > 0
        · rw [decide_eq_true c2]
          walk_at "bbs"
          refine c_draw hmb (by omega) (by omega) fun r6 b7 b8 => ?_
          walk_at "bbs"
          by_cases c3 : r6 = 0
          · rw [decide_eq_true c3]
            walk_at "bbs"
            refine .done ?_
            exact fin none _ _ (fun s n h => by cases h with | tail _ h => cases h) hT
          · rw [decide_eq_false c3]
            walk_at "bbs"
            refine .done ?_
            exact fin dr _ _ hdr hT
        · rw [decide_eq_false c2]
          walk_at "bbs"
          refine .done ?_
          exact fin dr _ _ hdr hT
      obtain ⟨n4, rfl⟩ := Int.eq_ofNat_of_zero_le b3
      have hd0 : RowOk ss m.toNat [some (sg, n4)] := fun s n h => by
        cases h with
        | head => exact ⟨hsg, by omega⟩
        | tail _ h => cases h
      walk_at "bbs"
      by_cases c1 : (0 + (i : Int)) + 1 < m
      · rw [decide_eq_true c1]
        walk_at "bbs"
        refine c_draw hmb (by omega) (by omega) fun r5 b5 b6 => ?_
        walk_at "bbs"
        by_cases c4 : r5 = 0
        · rw [decide_eq_true c4]
          walk_at "bbs"
          refine ⟨by show 2 ≤ sizeLine; omega, ?_⟩
          refine .done ?_
          have hd1 : RowOk ss m.toNat [some (sg, i + 1)] := fun s n h => by
            cases h with
            | head => exact ⟨hsg, by omega⟩
            | tail _ h => cases h
          have hdr : doorD (some (sg, i + 1)) = .tup [.str sg, .int (0 + (i : Int) + 1)] := by unfold doorD; rw [Int.zero_add]; rfl
          have fin3 := fun T w9 => fin2 (some (sg, i + 1)) T w9 hd1
          simp only [hdr] at fin3
          exact fin3 _ _ rfl
        · rw [decide_eq_false c4]
          walk_at "bbs"
          refine .done ?_
          exact fin2 (some (sg, n4)) _ _ hd0 rfl
      · rw [decide_eq_false c1]
        walk_at "bbs"
        refine .done ?_
        exact fin2 (some (sg, n4)) _ _ hd0 rfl
    · rintro env M3 ⟨r, y9, y10, rfl, rfl, hr1, hr2⟩
      rw [List.length_map] at hr1
      refine .done ?_
      walk_at "bbs"
      refine ⟨ph, _, rfl, by rw [mset_ne hpn.symm]; exact mset_same, ?_⟩
      walk_at "bbs"
      refine i_rd1 (tup_ref mset_same) ?_
      refine ⟨_, by rw [mset_ne hpn.symm]; exact mset_same, by rw [List.length_map]; omega, ?_⟩
      refine .drop pd (m := .lst (r.map doorD)) (by rw [mset_ne hpn]; exact mset_same) rfl ?_
      rw [mdel_mset_ne hpn.symm, mdel_mset hpd, mset_mset]
      refine .done ⟨rs ++ [r], _, _, _, _, rfl, by rw [List.map_append]; rfl, by rw [List.length_append, List.length_singleton, hrl], fun x hx => ?_⟩
      rcases List.mem_append.mp hx with h | h
      · exact hrs x h
      · rw [List.mem_singleton.mp h]; exact ⟨hr1, hr2⟩
  · rintro env M2 ⟨rs, x7, x8, x9, x10, rfl, rfl, hrl, hrs⟩
    rw [rng_len] at hrl
    refine .done ?_
    walk_at "bbs"
    refine i_rd1 (tup_ref mset_same) ?_
    refine ⟨by show 3 ≤ sizeLine; omega, ?_⟩
    refine .drop ph mset_same rfl ?_
    rw [mdel_mset hph]
    refine .done (q ⟨ls, ss, rs⟩ ⟨⟨hls.1, hls.2.1, hl1.1, hl1.2⟩, ⟨hss.1, hss.2.1, hs1.1, hs1.2⟩, ?_, ?_, fun r hr => (hrs r hr).1, fun r hr s n hsn => ?_⟩ hrl)
    · show 1 ≤ rs.length; omega
    · show rs.length ≤ 36; omega
    · obtain ⟨e1, e2⟩ := (hrs r hr).2 s n hsn
      exact ⟨e1, by show n < rs.length; omega⟩
end
end BB

set_option maxHeartbeats 4000000
namespace BB
open L2 PySem PySem.Spec PyProof.Rows
section
variable {K : PySem.W.Frag} {M : Mem} {Q : DKt} {E : DX}
theorem i_make {Wd : DW} {C : Addr} {sp : SpD} {dl : DA} {env : Env} (q : dl env M fun us M1 => ∀ p dx, M1 p = none → M1 dx = none → dx ≠ p →
  sp (.ref p :: us) (mset (mset M1 dx (.own p)) p (.ins C [])) (fun v M2 => v = .non ∧ FzV Q (.ref p) M2) fun c fs M' => FzV (fun _ M'' => Wd c fs env M'') .non M') : dMake Wd C sp dl env M Q := q
/-- a plan that was made is fixed at once -/
theorem made {p dx : Addr} {fs : List (Str × D)} {C : Addr} (ht : Tidy M) (hp : M p = none) (hdx : M dx = none) (hne : dx ≠ p)
    (q : Q (.ins C fs) M) : FzV Q (.ref p) (mset (mset (mset M dx (.own p)) p (.ins C [])) p (.ins C fs)) := by
  refine .fixI mset_same fun d2 h2 => ?_
  have hd : d2 = dx := by
    refine Classical.byContradiction fun hn => ?_
    by_cases e1 : d2 = p
    · rw [e1, mset_same] at h2; cases h2
    · rw [mset_ne e1, mset_ne e1, mset_ne hn] at h2
      exact ht _ _ h2 hp
  subst hd
  rw [mset_mset, mdel_mset (by rw [mset_ne hne.symm]; exact hp), mdel_mset hdx]
  exact .done q
theorem tidy0 {a c : Addr} (h0 : ∀ b, M b = none) (hac : a ≠ c) : Tidy (mset (mset M c (.own a)) a (.gen c)) := fun d p h => by
  by_cases e2 : d = a
  · rw [e2, mset_same] at h; cases h
  · rw [mset_ne e2] at h
    by_cases e3 : d = c
    · rw [e3, mset_same] at h
      cases h
      rw [mset_same]; exact fun z => nomatch z
    · rw [mset_ne e3, h0] at h; cases h
end
end BB

set_option maxHeartbeats 8000000
namespace BB
open L2 PySem PySem.Spec PyProof.Rows
local macro_rules | `(tactic| walk_at "bb") => `(tactic| first
  | (with_reducible refine i_c ?_) | (with_reducible refine i_n ?_) | (with_reducible refine i_op ?_) | (with_reducible refine i_cons ?_) | (with_reducible refine i_nil ?_) | (with_reducible refine i_cb ?_)
  | (with_reducible refine i_seq ?_) | (with_reducible refine i_set ?_) | (with_reducible refine i_ret ?_) | (with_reducible refine i_if ?_) | (with_reducible refine i_drop ?_) | (with_reducible refine i_par ?_) | (with_reducible refine i_setF ?_) | (with_reducible refine i_raise ?_) | (with_reducible refine i_raiseI ?_) | (with_reducible refine i_asg ?_)
  | (with_reducible refine i_test ?_) | (with_reducible refine i_chain ?_) | (with_reducible refine i_tru ?_) | (with_reducible refine i_and ?_) | (with_reducible refine i_or ?_) | (with_reducible refine i_not ?_)
  | (with_reducible refine i_andv ?_) | (with_reducible refine i_orv ?_) | (with_reducible refine i_notv ?_) | (with_reducible refine i_ifx ?_) | (with_reducible refine i_tup ?_) | (with_reducible refine i_lst ?_) | (with_reducible refine i_lstM ?_)
  | (with_reducible refine i_neg ?_) | (with_reducible refine i_call ?_) | (with_reducible refine i_callK ?_) | (with_reducible refine i_meth ?_) | (with_reducible refine i_fld ?_) | (with_reducible refine i_tupIx ?_) | (with_reducible refine i_app ?_)
  | (with_reducible refine i_join ?_) | (with_reducible refine i_sl ?_) | (with_reducible refine i_part ?_) | (with_reducible refine i_nopart ?_) | (with_reducible refine i_next ?_) | (with_reducible refine i_retN ?_)
  | (with_reducible refine i_gname ?_) | (with_reducible refine i_gcons ?_) | (with_reducible refine i_gnil ?_) | (with_reducible refine i_seqI ?_) | (with_reducible refine i_rng1 ?_) | (with_reducible refine i_enum ?_) | (with_reducible refine i_zip2 ?_)
  | (with_reducible refine i_keys ?_) | (with_reducible refine i_updT ?_) | (with_reducible refine i_popI ?_) | (with_reducible refine i_lcM ?_) | (with_reducible refine i_parD ?_) | (with_reducible refine i_tupH ?_) | (with_reducible refine i_dispT ?_) | (with_reducible refine i_dget ?_) | (with_reducible refine i_dget1 ?_) | (with_reducible refine i_dget2 ?_) | (with_reducible refine i_dput ?_) | (with_reducible refine i_while ?_) | (with_reducible refine i_newT ?_) | (with_reducible refine i_newK ?_) | (with_reducible refine i_dispK ?_)
  | (with_reducible refine i_yes ?_) | (with_reducible refine i_for ?_) | (with_reducible refine i_lc ?_)
  | ((with_reducible refine i_var (d := ?bbd) ?bbh ?bbq); (case bbh => rfl)) | ((with_reducible refine i_rdo (d := ?bbd) ?bbh ?bbq); (case bbh => rfl); (try dsimp only)) | ((with_reducible refine i_rd1 (d := ?bbd) ?bbh ?bbq); (case bbh => rfl); (try dsimp only))
  | (with_reducible refine i_itt ?_) | (with_reducible refine i_nf ?_) | (with_reducible refine i_nt ?_) | (with_reducible refine i_itf ?_)
  | ((with_reducible show rdIsi _ _ _); first | refine i_isi rfl kb_int_int ?_ | refine i_isi rfl kb_int_bool ?_ | refine i_isi rfl kb_str_str ?_ | refine i_isi rfl kb_tup_tup ?_)
  | (with_reducible refine ⟨_, rfl, ?_⟩)
  | ((with_reducible show wkD _ _ _); first | refine wk_tup ?_ | refine wk_lst ?_ | refine wk_str ?_)
  | ((with_reducible show rdEq _ _ _ _); refine i_eqI ?_) | ((with_reducible show rdNe _ _ _ _); refine i_neI ?_)
  | ((with_reducible show ite _ _ _); refine i_itt ?_) | ((with_reducible show ite _ _ _); refine i_itf ?_))
local macro_rules | `(tactic| walk_at "bbs") => `(tactic| repeat walk_at "bb")

section
variable {K : PySem.W.Frag} {ds : List D} {M : Mem} {Q : DKt} {E : DX}
/-! ### rising names, told in two ways -/
theorem lt_trans' {x y z : Str} (h : ltS x y = true) (k : ltS y z = true) : ltS x z = true := decide_eq_true (List.lt_trans (of_decide_eq_true h) (of_decide_eq_true k))
theorem lt_irr' (x : Str) : ltS x x = false := decide_eq_false (List.lt_irrefl _)
/-- each lesser than the next one -/
theorem steps_rise : ∀ zs : List Str, ((zs.zip (zs.drop 1)).map fun p => ltS p.1 p.2).all id = decide (zs.Pairwise fun x y => ltS x y = true)
  | [] => by rw [decide_eq_true List.Pairwise.nil]; rfl
  | [x] => by rw [decide_eq_true (List.pairwise_singleton _ _)]; rfl
  | x :: y :: r => by
    have ih := steps_rise (y :: r)
    show (ltS x y && (((y :: r).zip r).map fun p => ltS p.1 p.2).all id) = _
    have e : (((y :: r).zip r).map fun p => ltS p.1 p.2).all id = decide ((y :: r).Pairwise fun x y => ltS x y = true) := ih
    rw [e]
    by_cases h1 : ltS x y = true
    · rw [h1, Bool.true_and]
      by_cases h2 : (y :: r).Pairwise fun x y => ltS x y = true
      · rw [decide_eq_true h2, decide_eq_true (List.pairwise_cons.mpr ⟨fun z hz => ?_, h2⟩)]
        rcases List.mem_cons.mp hz with rfl | hz
        · exact h1
        · exact lt_trans' h1 ((List.pairwise_cons.mp h2).1 z hz)
      · rw [decide_eq_false h2, decide_eq_false fun q => h2 (List.pairwise_cons.mp q).2]
    · rw [Bool.eq_false_iff.mpr h1, Bool.false_and, decide_eq_false fun q => h1 ((List.pairwise_cons.mp q).1 y List.mem_cons_self)]
theorem pw_nodup {zs : List Str} (h : zs.Pairwise fun x y => ltS x y = true) : zs.Nodup := h.imp fun {x y} q e => by
  rw [e, lt_irr'] at q; cases q
/-- two rising rows of the same -/
theorem pw_same : ∀ {xs ys : List Str}, xs.Pairwise (fun x y => ltS x y = true) → ys.Pairwise (fun x y => ltS x y = true) → (∀ z, z ∈ xs ↔ z ∈ ys) → xs = ys
  | [], [], _, _, _ => rfl
  | [], y :: ys, _, _, h => nomatch (h y).mpr List.mem_cons_self
  | x :: xs, [], _, _, h => nomatch (h x).mp List.mem_cons_self
  | x :: xs, y :: ys, h1, h2, h => by
    have e : x = y := by
      rcases List.mem_cons.mp ((h x).mp List.mem_cons_self) with e | m
      · exact e
      · rcases List.mem_cons.mp ((h y).mpr List.mem_cons_self) with e | m2
        · exact e.symm
        · have a := (List.pairwise_cons.mp h2).1 x m
          have b := (List.pairwise_cons.mp h1).1 y m2
          have := lt_trans' a b
          rw [lt_irr'] at this; cases this
    subst e
    rw [pw_same (List.pairwise_cons.mp h1).2 (List.pairwise_cons.mp h2).2 fun z => ⟨fun m => ?_, fun m => ?_⟩]
    · rcases List.mem_cons.mp ((h z).mp (List.mem_cons_of_mem _ m)) with rfl | q
      · have := (List.pairwise_cons.mp h1).1 z m
        rw [lt_irr'] at this; cases this
      · exact q
    · rcases List.mem_cons.mp ((h z).mpr (List.mem_cons_of_mem _ m)) with rfl | q
      · have := (List.pairwise_cons.mp h2).1 z m
        rw [lt_irr'] at this; cases this
      · exact q
/-- as many unlike ones as there are: none stands twice -/
theorem nodup_of_many : ∀ {zs ys : List Str}, ys.Nodup → (∀ z, z ∈ ys ↔ z ∈ zs) → ys.length = zs.length → zs.Nodup
  | [], _, _, _, _ => List.nodup_nil
  | x :: zs, ys, nd, h, hl => by
    by_cases hx : x ∈ zs
    · have sub : ys ⊆ zs := fun z hz => by
        rcases List.mem_cons.mp ((h z).mp hz) with rfl | q
        · exact hx
        · exact q
      have := nd.length_le_of_subset sub
      rw [List.length_cons] at hl; omega
    · have hxy := (h x).mpr List.mem_cons_self
      refine List.nodup_cons.mpr ⟨hx, nodup_of_many (nd.erase x) (fun z => ?_) ?_⟩
      · rw [nd.mem_erase_iff, h z, List.mem_cons]
        exact ⟨fun ⟨a, b⟩ => b.resolve_left a, fun q => ⟨fun e => hx (e ▸ q), .inr q⟩⟩
      · rw [List.length_erase_of_mem hxy, hl, List.length_cons]; omega
/-- sorted as they are, none twice: rising -/
theorem rise_iff {zs ys ms : List Str} (hp : ys.Perm zs) (hs : sortedS ys = true) (nd : ms.Nodup) (hm : ∀ z, z ∈ ms ↔ z ∈ zs) :
    (decide (zs = ys) && decide ((ms.length : Int) = (zs.length : Int))) = decide (zs.Pairwise fun x y => ltS x y = true) := by
  by_cases h : zs.Pairwise fun x y => ltS x y = true
  · have n1 := pw_nodup h
    have hy := sorted_pw hs (hp.nodup_iff.mpr n1)
    have e : zs = ys := pw_same h hy fun z => hp.mem_iff.symm
    have l1 := nd.length_le_of_subset (l₂ := zs) fun z hz => (hm z).mp hz
    have l2 := n1.length_le_of_subset (l₂ := ms) fun z hz => (hm z).mpr hz
    rw [decide_eq_true h, decide_eq_true e, decide_eq_true (show ((ms.length : Nat) : Int) = (zs.length : Nat) by omega)]
    rfl
  · rw [decide_eq_false h]
    by_cases e : zs = ys
    · rw [decide_eq_true e, Bool.true_and]
      refine decide_eq_false fun q => h ?_
      have n1 := nodup_of_many nd hm (by omega)
      rw [e] at n1 ⊢
      exact sorted_pw hs n1
    · rw [decide_eq_false e, Bool.false_and]
theorem eqv_str' (x y : Str) : PyData.eqv (.str x) (.str y) = decide (x = y) := by
  rw [PyData.eqv]
  by_cases h : x = y
  · rw [decide_eq_true h, h]; exact beq_self_eq_true y
  · rw [decide_eq_false h]; exact beq_eq_false_iff_ne.mpr h
theorem eqv_tstrs : ∀ xs ys : List Str, PyData.eqvAll (xs.map PyData.str) (ys.map PyData.str) = decide (xs = ys)
  | [], [] => rfl
  | [], _ :: _ => rfl
  | _ :: _, [] => rfl
  | x :: xs, y :: ys => by
    rw [List.map_cons, List.map_cons, PyData.eqvAll, eqv_tstrs xs ys, eqv_str']
    by_cases e1 : x = y
    · by_cases e2 : xs = ys
      · rw [decide_eq_true e1, decide_eq_true e2, decide_eq_true (by rw [e1, e2])]; rfl
      · rw [decide_eq_true e1, decide_eq_false e2, decide_eq_false (by intro z; injection z; contradiction)]; rfl
    · rw [decide_eq_false e1, Bool.false_and, decide_eq_false (by intro z; injection z; contradiction)]
theorem lst_py (zs : List Str) : pyOf M (.lst (zs.map D.str)) = some (.list (zs.map PyData.str)) := by
  show toPy (.lst (zs.map .str)) = _
  rw [toPy, toPys_strs]; rfl
theorem i_eqLists {xs ys : List Str} (h1 : ∀ z ∈ xs, isNameB z = true) (h2 : ∀ z ∈ ys, isNameB z = true) (q : Q (.bl (decide (xs = ys))) M) : rdEq (.lst (xs.map .str)) (.lst (ys.map .str)) M Q :=
  ⟨_, _, lst_py xs, lst_py ys, shaped_list fun z hz => strOk_name (h1 z hz), shaped_list fun z hz => strOk_name (h2 z hz), by rw [PyData.eqv, eqv_tstrs]; exact q⟩
theorem filter_none {α : Type} (p : α → Bool) : ∀ l : List α, (l.filter fun c => !p c).isEmpty = l.all p
  | [] => rfl
  | a :: l => by
    rw [List.all_cons]
    cases h : p a with
    | true => rw [List.filter_cons_of_neg (by rw [h]; exact fun z => nomatch z), filter_none p l]; rfl
    | false => rw [List.filter_cons_of_pos (by rw [h]; rfl)]; rfl
theorem filter_succ {α β : Type} {f : α → β} {p : α → Bool} {l : List α} {i : Nat} {a : α} (h : l[i]? = some a) : ((l.take (i + 1)).filter p).map f = ((l.take i).filter p).map f ++ (if p a = true then [f a] else []) := by
  rw [← take_succ_of h, List.filter_append, List.map_append]
  congr 1
  cases hp : p a with
  | true => rw [List.filter_cons_of_pos (by rw [hp])]; rfl
  | false => rw [List.filter_cons_of_neg (by rw [hp]; exact fun z => nomatch z)]; rfl
/-! ### is_name, by the program and by the law -/
theorem in_smallN (c : Nat) (M : Mem) (Q : DKt) (q : Q (.bl (!decide (c ∈ SMALLS.cps.toList))) M) : rdIn true (.str ⟨#[c]⟩) (.str SMALLS) M Q := by
  refine .inr ⟨c, SMALLS, rfl, rfl, ?_⟩
  exact q
theorem nameB_short {z : Str} (h : ¬ (1 : Int) ≤ z.length) : isNameB z = false := by unfold isNameB; rw [decide_eq_false (show ¬ 1 ≤ z.length by omega)]; rfl
theorem nameB_long {z : Str} (h : ¬ (z.length : Int) ≤ 6) : isNameB z = false := by unfold isNameB; rw [decide_eq_false (show ¬ z.length ≤ 6 by omega)]; simp
theorem nameB_mid {z : Str} (h1 : (1 : Int) ≤ z.length) (h2 : (z.length : Int) ≤ 6) : isNameB z = z.cps.toList.all fun c => decide (c ∈ SMALLS.cps.toList) := by
  unfold isNameB; rw [decide_eq_true (show 1 ≤ z.length by omega), decide_eq_true (show z.length ≤ 6 by omega)]; rfl
theorem signs_len (z : Str) : (signs z).length = z.cps.toList.length := by unfold signs; rw [List.length_map]
theorem small_size {z : Str} (h2 : (z.length : Int) ≤ 6) : (signs z).length ≤ sizeLine := by
  rw [signs_len, show z.cps.toList.length = z.length from Array.length_toList, sizeLine_eq]; omega
theorem lw_is_name (h : sp_is_name K ds M Q E) : rd_is_name K (wd E) (ends Q) (startD ["thing", "sign"] ds) M := by
  obtain ⟨d, rfl, hd, q⟩ := h
  unfold rd_is_name
  have hk := hd.kd
  cases hk with
  | str z =>
    have hz : z.length ≤ sizeLine := by have := hd.strLen; rw [sizeLine_eq]; omega
    walk_at "bbs"
    refine i_rd1 (if_pos hz) ?_
    walk_at "bbs"
    by_cases h1 : (1 : Int) ≤ (z.length : Int)
    · rw [decide_eq_true h1]
      walk_at "bbs"
      by_cases h2 : (z.length : Int) ≤ 6
      · rw [decide_eq_true h2]
        walk_at "bbs"
        refine ⟨small_size h2, fun i acc M' => acc = (z.cps.toList.take i).map (fun c => .bl (decide (c ∈ SMALLS.cps.toList))) ∧ M' = M, ⟨rfl, rfl⟩, fun _ _ _ _ => trivial, ?_, ?_⟩
        · rintro i d acc _ hd ⟨rfl, rfl⟩
          obtain ⟨c, hc, rfl⟩ := signs_at hd
          walk_at "bbs"
          refine in_small c _ _ ?_
          exact ⟨take_map_succ (fun c => D.bl (decide (c ∈ SMALLS.cps.toList))) hc, rfl⟩
        · rintro acc _ ⟨rfl, rfl⟩
          walk_at "bbs"
          refine i_all (bs := z.cps.toList.map fun c => decide (c ∈ SMALLS.cps.toList)) ?_ ?_
          · show some _ = some _
            rw [signs_len, List.take_length, List.map_map]
            rfl
          · refine .done ?_
            have e : isNameD (.str z) = (z.cps.toList.map fun c => decide (c ∈ SMALLS.cps.toList)).all id := by
              show isNameB z = _
              rw [nameB_mid h1 h2, List.all_map]; rfl
            rw [← e]
            exact q
      · rw [decide_eq_false h2]
        walk_at "bbs"
        refine .done ?_
        rw [← nameB_long h2]
        exact q
    · rw [decide_eq_false h1]
      walk_at "bbs"
      refine .done ?_
      rw [← nameB_short h1]
      exact q
  | _ =>
    walk_at "bbs"
    exact .done q
theorem lw__law_is_name (h : sp__law_is_name K ds M Q E) : rd__law_is_name K (wd E) (ends Q) (startD ["_law_what", "_law_sign"] ds) M := by
  obtain ⟨d, rfl, hd, q⟩ := h
  unfold rd__law_is_name
  have hk := hd.kd
  cases hk with
  | str z =>
    have hz : z.length ≤ sizeLine := by have := hd.strLen; rw [sizeLine_eq]; omega
    walk_at "bbs"
    refine i_rd1 (if_pos hz) ?_
    walk_at "bbs"
    by_cases h1 : (1 : Int) ≤ (z.length : Int)
    · rw [decide_eq_true h1]
      walk_at "bbs"
      by_cases h2 : (z.length : Int) ≤ 6
      · rw [decide_eq_true h2]
        walk_at "bbs"
        refine .done ?_
        walk_at "bbs"
        refine ⟨small_size h2, fun i acc M' => acc = ((z.cps.toList.take i).filter (fun c => !decide (c ∈ SMALLS.cps.toList))).map (fun c => D.str ⟨#[c]⟩) ∧ M' = M, ⟨rfl, rfl⟩, fun _ _ _ _ => trivial, ?_, ?_⟩
        · rintro i d acc _ hd ⟨rfl, rfl⟩
          obtain ⟨c, hc, rfl⟩ := signs_at hd
          walk_at "bbs"
          refine in_smallN c _ _ ?_
          walk_at "bbs"
          by_cases hm : c ∈ SMALLS.cps.toList
          · rw [decide_eq_true hm]
            walk_at "bbs"
            refine ⟨?_, rfl⟩
            rw [filter_succ hc, if_neg (by rw [decide_eq_true hm]; exact fun z => nomatch z), List.append_nil]
          · rw [decide_eq_false hm]
            walk_at "bbs"
            refine ⟨?_, rfl⟩
            rw [filter_succ hc, if_pos (by rw [decide_eq_false hm]; rfl)]
        · rintro acc _ ⟨rfl, rfl⟩
          walk_at "bbs"
          refine ⟨Nat.zero_le _, ?_⟩
          refine i_eqE rfl rfl ?_
          refine .done ?_
          have e : isNameD (.str z) = xor false (((z.cps.toList.take (signs z).length).filter (fun c => !decide (c ∈ SMALLS.cps.toList))).map (fun c => D.str ⟨#[c]⟩)).isEmpty := by
            show isNameB z = _
            rw [nameB_mid h1 h2, signs_len, List.take_length, List.isEmpty_map, filter_none, Bool.false_xor]
          rw [← e]
          exact q
      · rw [decide_eq_false h2]
        walk_at "bbs"
        refine .done ?_
        rw [← nameB_long h2]
        exact q
    · rw [decide_eq_false h1]
      walk_at "bbs"
      refine .done ?_
      rw [← nameB_short h1]
      exact q
  | _ =>
    walk_at "bbs"
    exact .done q
theorem c_is_name {d : D} (h : Tm 0 d) (q : Q (.bl (isNameD d)) M) : sp_is_name K [d] M Q E := ⟨_, rfl, h, q⟩
theorem c_law_is_name {d : D} (h : Tm 0 d) (q : Q (.bl (isNameD d)) M) : sp__law_is_name K [d] M Q E := ⟨_, rfl, h, q⟩
theorem lw_is_count (h : sp_is_count K ds M Q E) : rd_is_count K (wd E) (ends Q) (startD ["thing"] ds) M := by
  obtain ⟨d, rfl, hd, q⟩ := h
  unfold rd_is_count
  have hk := hd.kd
  cases hk <;> (walk_at "bbs"; exact .done q)
theorem c_is_count {d : D} (h : Tm 0 d) (q : Q (.bl (countB d)) M) : sp_is_count K [d] M Q E := ⟨_, rfl, h, q⟩
end
end BB

set_option maxHeartbeats 8000000
namespace BB
open L2 PySem PySem.Spec PyProof.Rows
local macro_rules | `(tactic| walk_at "bb") => `(tactic| first
  | (with_reducible refine i_c ?_) | (with_reducible refine i_n ?_) | (with_reducible refine i_op ?_) | (with_reducible refine i_cons ?_) | (with_reducible refine i_nil ?_) | (with_reducible refine i_cb ?_)
  | (with_reducible refine i_seq ?_) | (with_reducible refine i_set ?_) | (with_reducible refine i_ret ?_) | (with_reducible refine i_if ?_) | (with_reducible refine i_drop ?_) | (with_reducible refine i_par ?_) | (with_reducible refine i_setF ?_) | (with_reducible refine i_raise ?_) | (with_reducible refine i_raiseI ?_) | (with_reducible refine i_asg ?_)
  | (with_reducible refine i_test ?_) | (with_reducible refine i_chain ?_) | (with_reducible refine i_tru ?_) | (with_reducible refine i_and ?_) | (with_reducible refine i_or ?_) | (with_reducible refine i_not ?_)
  | (with_reducible refine i_andv ?_) | (with_reducible refine i_orv ?_) | (with_reducible refine i_notv ?_) | (with_reducible refine i_ifx ?_) | (with_reducible refine i_tup ?_) | (with_reducible refine i_lst ?_) | (with_reducible refine i_lstM ?_)
  | (with_reducible refine i_neg ?_) | (with_reducible refine i_call ?_) | (with_reducible refine i_callK ?_) | (with_reducible refine i_meth ?_) | (with_reducible refine i_fld ?_) | (with_reducible refine i_tupIx ?_) | (with_reducible refine i_app ?_)
  | (with_reducible refine i_join ?_) | (with_reducible refine i_sl ?_) | (with_reducible refine i_part ?_) | (with_reducible refine i_nopart ?_) | (with_reducible refine i_next ?_) | (with_reducible refine i_retN ?_)
  | (with_reducible refine i_gname ?_) | (with_reducible refine i_gcons ?_) | (with_reducible refine i_gnil ?_) | (with_reducible refine i_seqI ?_) | (with_reducible refine i_rng1 ?_) | (with_reducible refine i_enum ?_) | (with_reducible refine i_zip2 ?_)
  | (with_reducible refine i_keys ?_) | (with_reducible refine i_updT ?_) | (with_reducible refine i_popI ?_) | (with_reducible refine i_lcM ?_) | (with_reducible refine i_parD ?_) | (with_reducible refine i_tupH ?_) | (with_reducible refine i_dispT ?_) | (with_reducible refine i_dget ?_) | (with_reducible refine i_dget1 ?_) | (with_reducible refine i_dget2 ?_) | (with_reducible refine i_dput ?_) | (with_reducible refine i_while ?_) | (with_reducible refine i_newT ?_) | (with_reducible refine i_newK ?_) | (with_reducible refine i_dispK ?_)
  | (with_reducible refine i_yes ?_) | (with_reducible refine i_for ?_) | (with_reducible refine i_lc ?_)
  | ((with_reducible refine i_var (d := ?bbd) ?bbh ?bbq); (case bbh => rfl)) | ((with_reducible refine i_rdo (d := ?bbd) ?bbh ?bbq); (case bbh => rfl); (try dsimp only)) | ((with_reducible refine i_rd1 (d := ?bbd) ?bbh ?bbq); (case bbh => rfl); (try dsimp only))
  | (with_reducible refine i_itt ?_) | (with_reducible refine i_nf ?_) | (with_reducible refine i_nt ?_) | (with_reducible refine i_itf ?_)
  | ((with_reducible show rdIsi _ _ _); first | refine i_isi rfl kb_int_int ?_ | refine i_isi rfl kb_int_bool ?_ | refine i_isi rfl kb_str_str ?_ | refine i_isi rfl kb_tup_tup ?_)
  | (with_reducible refine ⟨_, rfl, ?_⟩)
  | ((with_reducible show wkD _ _ _); first | refine wk_tup ?_ | refine wk_lst ?_ | refine wk_str ?_)
  | ((with_reducible show rdEq _ _ _ _); refine i_eqI ?_) | ((with_reducible show rdNe _ _ _ _); refine i_neI ?_)
  | ((with_reducible show ite _ _ _); refine i_itt ?_) | ((with_reducible show ite _ _ _); refine i_itf ?_))
local macro_rules | `(tactic| walk_at "bbs") => `(tactic| repeat walk_at "bb")

section
variable {K : PySem.W.Frag} {ds : List D} {M : Mem} {Q : DKt} {E : DX}
theorem i_lenSet {de : DE} {env : Env} (q : de env M fun x M1 => ∃ xs : List Str, x = .tup (xs.map D.str) ∧ xs.length < 1000 ∧ ∀ ys : List Str, ys.Nodup → (∀ z, z ∈ ys ↔ z ∈ xs) → Q (.int ys.length) M1) : dLenSet de env M Q := q
/-! ### rows of names -/
theorem namesB_tup {lo hi : Nat} {xs : List D} : namesB lo hi (.tup xs) = (decide (lo ≤ xs.length) && decide (xs.length ≤ hi) && (xs.all isNameD && decide ((xs.map textOf).Pairwise fun x y => ltS x y = true))) := rfl
theorem namesB_lo {lo hi : Nat} {xs : List D} (h : ¬ (lo : Int) ≤ (xs.length : Int)) : namesB lo hi (.tup xs) = false := by
  rw [namesB_tup, decide_eq_false (show ¬ lo ≤ xs.length by omega)]; rfl
theorem namesB_hi {lo hi : Nat} {xs : List D} (h : ¬ (xs.length : Int) ≤ (hi : Int)) : namesB lo hi (.tup xs) = false := by
  rw [namesB_tup, decide_eq_false (show ¬ xs.length ≤ hi by omega), Bool.and_false]; rfl
theorem namesB_no {lo hi : Nat} {xs : List D} (h : xs.all isNameD = false) : namesB lo hi (.tup xs) = false := by
  rw [namesB_tup, h, Bool.false_and, Bool.and_false]
theorem namesB_in {lo hi : Nat} {zs : List Str} (h1 : (lo : Int) ≤ ((zs.map D.str).length : Int)) (h2 : ((zs.map D.str).length : Int) ≤ (hi : Int)) (h : ∀ z ∈ zs, isNameB z = true) : namesB lo hi (.tup (zs.map D.str)) = decide (zs.Pairwise fun x y => ltS x y = true) := by
  rw [namesB_tup, isNameD_all h, texts_names, decide_eq_true (show lo ≤ (zs.map D.str).length by omega), decide_eq_true (show (zs.map D.str).length ≤ hi by omega)]
  rfl
theorem lw_are_names (h : sp_are_names K ds M Q E) : rd_are_names K (wd E) (ends Q) (startD ["thing", "least", "most", "one", "other"] ds) M := by
  obtain ⟨d, l, u, rfl, lo, hi, hd, rfl, rfl, hh, q⟩ := h
  unfold rd_are_names
  have hk := hd.kd
  cases hk with
  | tup xs =>
    have hz : xs.length ≤ sizeLine := by have := hd.size; rw [sizeLine_eq]; omega
    walk_at "bbs"
    by_cases h1 : (lo : Int) ≤ (xs.length : Int)
    · rw [decide_eq_true h1]
      walk_at "bbs"
      by_cases h2 : (xs.length : Int) ≤ (hi : Int)
      · rw [decide_eq_true h2]
        walk_at "bbs"
        refine ⟨hz, fun i acc M' => acc = (xs.take i).map (fun x => .bl (isNameD x)) ∧ M' = M, ⟨rfl, rfl⟩, fun _ _ _ _ => trivial, ?_, ?_⟩
        · rintro i d acc _ hx ⟨rfl, rfl⟩
          walk_at "bbs"
          refine c_is_name (hd.elem _ (List.mem_of_getElem? hx)) ?_
          exact ⟨take_map_succ (fun x => D.bl (isNameD x)) hx, rfl⟩
        · rintro acc M2 ⟨rfl, rfl⟩
          walk_at "bbs"
          refine i_all (bs := xs.map isNameD) (by show some _ = some _; rw [List.take_length, List.map_map]; rfl) ?_
          rw [List.all_map, show xs.all (id ∘ isNameD) = xs.all isNameD from rfl]
          by_cases h3 : xs.all isNameD = true
          · rw [h3]
            walk_at "bbs"
            refine .done ?_
            obtain ⟨e, hn⟩ := texts_of h3
            obtain ⟨zs, ez⟩ : ∃ zs, zs = xs.map textOf := ⟨_, rfl⟩
            rw [← ez] at e hn
            clear ez h3 hd hz
            subst e
            rw [namesB_in h1 h2 hn, ← steps_rise] at q
            walk_at "bbs"
            have hc : cutD (zs.map D.str) (some 1) none = (zs.drop 1).map D.str := by
              rw [show (1 : Int) = ((1 : Nat) : Int) from rfl, cut_from, List.map_drop]
            rw [hc]
            refine ⟨_, _, _, _, rfl, rfl, rfl, ?_⟩
            have el : (zip2D (zs.map D.str) ((zs.drop 1).map D.str)).length = (zs.zip (zs.drop 1)).length := by
              unfold zip2D; rw [rowsD_len, List.length_zip, List.length_map, List.length_map]
            refine ⟨by rw [el, List.length_zip, sizeLine_eq]; rw [List.length_map] at h2; omega, fun i acc M' => acc = ((zs.zip (zs.drop 1)).take i).map (fun p => .bl (ltS p.1 p.2)) ∧ M' = M2, ⟨rfl, rfl⟩, fun _ _ _ _ => trivial, ?_, ?_⟩
            · rintro i d acc _ hx ⟨rfl, rfl⟩
              obtain ⟨x, y, hx1, hy, rfl⟩ := zip2_at hx
              refine i_gtup rfl ?_
              walk_at "bbs"
              exact ⟨take_map_succ (d := (x, y)) (fun p => D.bl (ltS p.1 p.2)) (List.getElem?_zip_eq_some.mpr ⟨hx1, hy⟩), rfl⟩
            · rintro acc _ ⟨rfl, rfl⟩
              walk_at "bbs"
              refine i_all (bs := (zs.zip (zs.drop 1)).map fun p => ltS p.1 p.2) (by show some _ = some _; rw [el, List.take_length, List.map_map]; rfl) ?_
              exact .done q
          · rw [Bool.eq_false_iff.mpr h3]
            walk_at "bbs"
            refine .done ?_
            rw [← namesB_no (lo := lo) (hi := hi) (Bool.eq_false_iff.mpr h3)]
            exact q
      · rw [decide_eq_false h2]
        walk_at "bbs"
        refine .done ?_
        rw [← namesB_hi (lo := lo) h2]
        exact q
    · rw [decide_eq_false h1]
      walk_at "bbs"
      refine .done ?_
      rw [← namesB_lo (hi := hi) h1]
      exact q
  | _ =>
    walk_at "bbs"
    exact .done q
theorem lw__law_are_names (h : sp__law_are_names K ds M Q E) : rd__law_are_names K (wd E) (ends Q) (startD ["_law_what", "_law_low", "_law_most", "_law_one"] ds) M := by
  obtain ⟨d, l, u, rfl, lo, hi, hd, rfl, rfl, hh, q⟩ := h
  unfold rd__law_are_names
  have hk := hd.kd
  cases hk with
  | tup xs =>
    have hz : xs.length ≤ sizeLine := by have := hd.size; rw [sizeLine_eq]; omega
    walk_at "bbs"
    by_cases h1 : (lo : Int) ≤ (xs.length : Int)
    · rw [decide_eq_true h1]
      walk_at "bbs"
      by_cases h2 : (xs.length : Int) ≤ (hi : Int)
      · rw [decide_eq_true h2]
        walk_at "bbs"
        refine .done ?_
        walk_at "bbs"
        refine ⟨hz, fun i acc M' => acc = ((xs.take i).filter (fun x => !isNameD x)).map id ∧ M' = M, ⟨rfl, rfl⟩, fun _ _ _ _ => trivial, ?_, ?_⟩
        · rintro i d acc _ hx ⟨rfl, rfl⟩
          walk_at "bbs"
          refine c_law_is_name (hd.elem _ (List.mem_of_getElem? hx)) ?_
          walk_at "bbs"
          cases hn : isNameD d with
          | true =>
            walk_at "bbs"
            refine ⟨?_, rfl⟩
            rw [filter_succ hx, if_neg (by rw [hn]; exact fun z => nomatch z), List.append_nil]
          | false =>
            walk_at "bbs"
            refine ⟨?_, rfl⟩
            rw [filter_succ hx, if_pos (by rw [hn]; rfl)]
            rfl
        · rintro acc _ ⟨rfl, rfl⟩
          walk_at "bbs"
          refine ⟨Nat.zero_le _, ?_⟩
          refine i_eqE rfl rfl ?_
          rw [List.take_length, List.isEmpty_map, filter_none, Bool.true_xor]
          by_cases h3 : xs.all isNameD = true
          · rw [h3]
            walk_at "bbs"
            refine .done ?_
            obtain ⟨e, hn⟩ := texts_of h3
            obtain ⟨zs, ez⟩ : ∃ zs, zs = xs.map textOf := ⟨_, rfl⟩
            rw [← ez] at e hn
            clear ez h3 hd hz
            subst e
            rw [namesB_in h1 h2 hn] at q
            have hl : zs.length ≤ 60 := by rw [List.length_map] at h2; omega
            walk_at "bbs"
            refine ⟨zs, rfl, by omega, fun ys hp hs => ?_⟩
            walk_at "bbs"
            refine i_eqLists hn (fun z hm => hn z (hp.mem_iff.mp hm)) ?_
            refine ⟨_, rfl, ?_⟩
            by_cases e : zs = ys
            · rw [decide_eq_true e]
              walk_at "bbs"
              refine i_lenSet ?_
              walk_at "bbs"
              refine ⟨by omega, fun ms nd hm => ?_⟩
              walk_at "bbs"
              refine .done ?_
              rw [← rise_iff hp hs nd hm, decide_eq_true e, Bool.true_and] at q
              rw [List.length_map]
              exact q
            · rw [decide_eq_false e]
              walk_at "bbs"
              refine .done ?_
              have hf : decide (zs.Pairwise fun x y => ltS x y = true) = false := decide_eq_false fun hr => e (pw_same hr (sorted_pw hs (hp.nodup_iff.mpr (pw_nodup hr))) fun z => hp.mem_iff.symm)
              rw [hf] at q
              exact q
          · rw [Bool.eq_false_iff.mpr h3]
            walk_at "bbs"
            refine .done ?_
            rw [← namesB_no (lo := lo) (hi := hi) (Bool.eq_false_iff.mpr h3)]
            exact q
      · rw [decide_eq_false h2]
        walk_at "bbs"
        refine .done ?_
        rw [← namesB_hi (lo := lo) h2]
        exact q
    · rw [decide_eq_false h1]
      walk_at "bbs"
      refine .done ?_
      rw [← namesB_lo (hi := hi) h1]
      exact q
  | _ =>
    walk_at "bbs"
    exact .done q
theorem c_are_names {d : D} {lo hi : Nat} (h : Tm 1 d) (hh : hi ≤ 60) (q : Q (.bl (namesB lo hi d)) M) : sp_are_names K [d, .int (lo : Nat), .int (hi : Nat)] M Q E := ⟨_, _, _, rfl, lo, hi, h, rfl, rfl, hh, q⟩
theorem c_law_are_names {d : D} {lo hi : Nat} (h : Tm 1 d) (hh : hi ≤ 60) (q : Q (.bl (namesB lo hi d)) M) : sp__law_are_names K [d, .int (lo : Nat), .int (hi : Nat)] M Q E := ⟨_, _, _, rfl, lo, hi, h, rfl, rfl, hh, q⟩
end
end BB

set_option maxHeartbeats 8000000
namespace BB
open L2 PySem PySem.Spec PyProof.Rows
local macro_rules | `(tactic| walk_at "bb") => `(tactic| first
  | (with_reducible refine i_c ?_) | (with_reducible refine i_n ?_) | (with_reducible refine i_op ?_) | (with_reducible refine i_cons ?_) | (with_reducible refine i_nil ?_) | (with_reducible refine i_cb ?_)
  | (with_reducible refine i_seq ?_) | (with_reducible refine i_set ?_) | (with_reducible refine i_ret ?_) | (with_reducible refine i_if ?_) | (with_reducible refine i_drop ?_) | (with_reducible refine i_par ?_) | (with_reducible refine i_setF ?_) | (with_reducible refine i_raise ?_) | (with_reducible refine i_raiseI ?_) | (with_reducible refine i_asg ?_)
  | (with_reducible refine i_test ?_) | (with_reducible refine i_chain ?_) | (with_reducible refine i_tru ?_) | (with_reducible refine i_and ?_) | (with_reducible refine i_or ?_) | (with_reducible refine i_not ?_)
  | (with_reducible refine i_andv ?_) | (with_reducible refine i_orv ?_) | (with_reducible refine i_notv ?_) | (with_reducible refine i_ifx ?_) | (with_reducible refine i_tup ?_) | (with_reducible refine i_lst ?_) | (with_reducible refine i_lstM ?_)
  | (with_reducible refine i_neg ?_) | (with_reducible refine i_call ?_) | (with_reducible refine i_callK ?_) | (with_reducible refine i_meth ?_) | (with_reducible refine i_fld ?_) | (with_reducible refine i_tupIx ?_) | (with_reducible refine i_app ?_)
  | (with_reducible refine i_join ?_) | (with_reducible refine i_sl ?_) | (with_reducible refine i_part ?_) | (with_reducible refine i_nopart ?_) | (with_reducible refine i_next ?_) | (with_reducible refine i_retN ?_)
  | (with_reducible refine i_gname ?_) | (with_reducible refine i_gcons ?_) | (with_reducible refine i_gnil ?_) | (with_reducible refine i_seqI ?_) | (with_reducible refine i_rng1 ?_) | (with_reducible refine i_enum ?_) | (with_reducible refine i_zip2 ?_)
  | (with_reducible refine i_keys ?_) | (with_reducible refine i_updT ?_) | (with_reducible refine i_popI ?_) | (with_reducible refine i_lcM ?_) | (with_reducible refine i_parD ?_) | (with_reducible refine i_tupH ?_) | (with_reducible refine i_dispT ?_) | (with_reducible refine i_dget ?_) | (with_reducible refine i_dget1 ?_) | (with_reducible refine i_dget2 ?_) | (with_reducible refine i_dput ?_) | (with_reducible refine i_while ?_) | (with_reducible refine i_newT ?_) | (with_reducible refine i_newK ?_) | (with_reducible refine i_dispK ?_)
  | (with_reducible refine i_yes ?_) | (with_reducible refine i_for ?_) | (with_reducible refine i_lc ?_)
  | ((with_reducible refine i_var (d := ?bbd) ?bbh ?bbq); (case bbh => rfl)) | ((with_reducible refine i_rdo (d := ?bbd) ?bbh ?bbq); (case bbh => rfl); (try dsimp only)) | ((with_reducible refine i_rd1 (d := ?bbd) ?bbh ?bbq); (case bbh => rfl); (try dsimp only))
  | (with_reducible refine i_itt ?_) | (with_reducible refine i_nf ?_) | (with_reducible refine i_nt ?_) | (with_reducible refine i_itf ?_)
  | ((with_reducible show rdIsi _ _ _); first | refine i_isi rfl kb_int_int ?_ | refine i_isi rfl kb_int_bool ?_ | refine i_isi rfl kb_str_str ?_ | refine i_isi rfl kb_tup_tup ?_)
  | (with_reducible refine ⟨_, rfl, ?_⟩)
  | ((with_reducible show wkD _ _ _); first | refine wk_tup ?_ | refine wk_lst ?_ | refine wk_str ?_)
  | ((with_reducible show rdEq _ _ _ _); refine i_eqI ?_) | ((with_reducible show rdNe _ _ _ _); refine i_neI ?_)
  | ((with_reducible show ite _ _ _); refine i_itt ?_) | ((with_reducible show ite _ _ _); refine i_itf ?_))
local macro_rules | `(tactic| walk_at "bbs") => `(tactic| repeat walk_at "bb")

section
variable {K : PySem.W.Frag} {ds : List D} {M : Mem} {Q : DKt} {E : DX}
/-! ### doors -/
theorem doorB_len {ss : List Str} {many : Nat} : ∀ {xs : List D}, xs.length ≠ 2 → doorB ss many (.tup xs) = false
  | [], _ => rfl
  | [x], _ => by cases x <;> rfl
  | [_, _], h => absurd rfl h
  | x :: y :: z :: r, _ => by cases x <;> cases y <;> rfl
theorem two_of {xs : List D} (h : ((xs.length : Nat) : Int) = 2) : ∃ x y, xs = [x, y] := by
  match xs, h with
  | [x, y], _ => exact ⟨x, y, rfl⟩
  | [], h => exact absurd h (by simp)
  | [_], h => exact absurd h (by simp)
  | _ :: _ :: _ :: r, h => simp only [List.length_cons] at h; omega
theorem doorB_str {ss : List Str} {many : Nat} {s : Str} {y : D} (h : s ∉ ss) : doorB ss many (.tup [.str s, y]) = false := by
  cases y with
  | int i =>
    show (decide (s ∈ ss) && _) = false
    rw [decide_eq_false h]; rfl
  | _ => rfl
theorem doorB_int {ss : List Str} {many : Nat} {s : Str} {i : Int} (h : s ∈ ss) : doorB ss many (.tup [.str s, .int i]) = (decide (0 ≤ i) && decide (i < many)) := by
  show (decide (s ∈ ss) && _) = _
  rw [decide_eq_true h]; rfl
theorem lw_is_door (h : sp_is_door K ds M Q E) : rd_is_door K (wd E) (ends Q) (startD ["thing", "signs", "many"] ds) M := by
  obtain ⟨d, s, n, rfl, ss, many, hd, rfl, rfl, q⟩ := h
  unfold rd_is_door
  have hk := hd.kd
  cases hk with
  | tup xs =>
    walk_at "bbs"
    refine .done ?_
    walk_at "bbs"
    by_cases h2 : ((xs.length : Nat) : Int) = 2
    · obtain ⟨x, y, rfl⟩ := two_of h2
      walk_at "bbs"
      have hx : Tm 0 x := hd.elem x List.mem_cons_self
      have hy : Tm 0 y := hd.elem y (List.mem_cons_of_mem _ List.mem_cons_self)
      have hxk := hx.kd
      cases hxk with
      | str s =>
        walk_at "bbs"
        refine i_inS rfl ?_
        rw [if_pos rfl]
        by_cases hs : s ∈ ss
        · rw [decide_eq_true hs]
          walk_at "bbs"
          refine .done ?_
          walk_at "bbs"
          refine c_is_count hy ?_
          have hyk := hy.kd
          cases hyk with
          | int i =>
            rw [doorB_int hs] at q
            by_cases h0 : 0 ≤ i
            · rw [show countB (.int i) = true from decide_eq_true h0]
              rw [decide_eq_true h0, Bool.true_and] at q
              walk_at "bbs"
              exact .done q
            · rw [show countB (.int i) = false from decide_eq_false h0]
              rw [decide_eq_false h0] at q
              walk_at "bbs"
              exact .done q
          | _ =>
            walk_at "bbs"
            exact .done q
        · rw [decide_eq_false hs]
          walk_at "bbs"
          refine .done ?_
          rw [doorB_str hs] at q
          exact q
      | _ =>
        walk_at "bbs"
        exact .done q
    · rw [decide_eq_false h2]
      walk_at "bbs"
      refine .done ?_
      rw [doorB_len (fun z => h2 (by rw [z]; rfl))] at q
      exact q
  | _ =>
    walk_at "bbs"
    first
      | exact .done q
      | (refine .done ?_
         walk_at "bbs"
         exact .done q)
theorem lw__law_is_door (h : sp__law_is_door K ds M Q E) : rd__law_is_door K (wd E) (ends Q) (startD ["_law_what", "_law_marks", "_law_many"] ds) M := by
  obtain ⟨d, s, n, rfl, ss, many, hd, rfl, rfl, q⟩ := h
  unfold rd__law_is_door
  have hk := hd.kd
  cases hk with
  | tup xs =>
    walk_at "bbs"
    refine .done ?_
    walk_at "bbs"
    by_cases h2 : ((xs.length : Nat) : Int) = 2
    · obtain ⟨x, y, rfl⟩ := two_of h2
      walk_at "bbs"
      have hx : Tm 0 x := hd.elem x List.mem_cons_self
      have hy : Tm 0 y := hd.elem y (List.mem_cons_of_mem _ List.mem_cons_self)
      have hxk := hx.kd
      cases hxk with
      | str s =>
        walk_at "bbs"
        refine i_inS rfl ?_
        rw [if_pos rfl]
        by_cases hs : s ∈ ss
        · rw [decide_eq_true hs]
          walk_at "bbs"
          refine .done ?_
          walk_at "bbs"
          have hyk := hy.kd
          cases hyk with
          | int i =>
            rw [doorB_int hs] at q
            walk_at "bbs"
            by_cases h0 : 0 ≤ i
            · rw [decide_eq_true h0]
              rw [decide_eq_true h0, Bool.true_and] at q
              walk_at "bbs"
              exact .done q
            · rw [decide_eq_false h0]
              rw [decide_eq_false h0] at q
              walk_at "bbs"
              exact .done q
          | _ =>
            walk_at "bbs"
            exact .done q
        · rw [decide_eq_false hs]
          walk_at "bbs"
          refine .done ?_
          rw [doorB_str hs] at q
          exact q
      | _ =>
        walk_at "bbs"
        exact .done q
    · rw [decide_eq_false h2]
      walk_at "bbs"
      refine .done ?_
      rw [doorB_len (fun z => h2 (by rw [z]; rfl))] at q
      exact q
  | _ =>
    walk_at "bbs"
    first
      | exact .done q
      | (refine .done ?_
         walk_at "bbs"
         exact .done q)
theorem c_is_door {d : D} {ss : List Str} {many : Nat} (h : Tm 1 d) (q : Q (.bl (doorB ss many d)) M) : sp_is_door K [d, namesD ss, .int (many : Nat)] M Q E := ⟨_, _, _, rfl, ss, many, h, rfl, rfl, q⟩
theorem c_law_is_door {d : D} {ss : List Str} {many : Nat} (h : Tm 1 d) (q : Q (.bl (doorB ss many d)) M) : sp__law_is_door K [d, namesD ss, .int (many : Nat)] M Q E := ⟨_, _, _, rfl, ss, many, h, rfl, rfl, q⟩
/-! ### rooms -/
theorem roomsB_tup {k : Nat} {ss : List Str} {rows : List D} : roomsB k ss (.tup rows) = (decide (1 ≤ rows.length) && decide (rows.length ≤ 36) && rows.all (rowB k ss rows.length)) := rfl
theorem roomsB_lo {k : Nat} {ss : List Str} {rows : List D} (h : ¬ (1 : Int) ≤ (rows.length : Int)) : roomsB k ss (.tup rows) = false := by
  rw [roomsB_tup, decide_eq_false (show ¬ 1 ≤ rows.length by omega)]; rfl
theorem roomsB_hi {k : Nat} {ss : List Str} {rows : List D} (h : ¬ (rows.length : Int) ≤ 36) : roomsB k ss (.tup rows) = false := by
  rw [roomsB_tup, decide_eq_false (show ¬ rows.length ≤ 36 by omega), Bool.and_false]; rfl
theorem roomsB_row {k : Nat} {ss : List Str} {rows : List D} {r : D} (hr : r ∈ rows) (h : rowB k ss rows.length r = false) : roomsB k ss (.tup rows) = false := by
  rw [roomsB_tup, show rows.all (rowB k ss rows.length) = false from Bool.eq_false_iff.mpr fun z => (by rw [List.all_eq_true.mp z r hr] at h; cases h), Bool.and_false]
theorem roomsB_all {k : Nat} {ss : List Str} {rows : List D} (h1 : (1 : Int) ≤ (rows.length : Int)) (h2 : (rows.length : Int) ≤ 36) (h : (rows.take rows.length).all (rowB k ss rows.length) = true) : roomsB k ss (.tup rows) = true := by
  rw [List.take_length] at h
  rw [roomsB_tup, decide_eq_true (show 1 ≤ rows.length by omega), decide_eq_true (show rows.length ≤ 36 by omega), h]; rfl
theorem all_succ {α : Type} {p : α → Bool} {l : List α} {i : Nat} {a : α} (h : l[i]? = some a) (h1 : (l.take i).all p = true) (h2 : p a = true) : (l.take (i + 1)).all p = true := by
  rw [← take_succ_of h, List.all_append, h1, List.all_cons, h2]; rfl
theorem rowB_tup {k many : Nat} {ss : List Str} {xs : List D} : rowB k ss many (.tup xs) = (decide (xs.length = k) && xs.all (doorB ss many)) := rfl
theorem lw_are_rooms (h : sp_are_rooms K ds M Q E) : rd_are_rooms K (wd E) (ends Q) (startD ["thing", "letters", "signs", "doors", "door"] ds) M := by
  obtain ⟨d, l, s, rfl, ls, ss, hd, rfl, rfl, q⟩ := h
  unfold rd_are_rooms
  have hk := hd.kd
  cases hk with
  | tup rows =>
    walk_at "bbs"
    by_cases h1 : (1 : Int) ≤ (rows.length : Int)
    · rw [decide_eq_true h1]
      walk_at "bbs"
      by_cases h2 : (rows.length : Int) ≤ 36
      · rw [decide_eq_true h2]
        walk_at "bbs"
        refine .done ?_
        walk_at "bbs"
        refine ⟨fun i env M' => M' = M ∧ (rows.take i).all (rowB ls.length ss rows.length) = true ∧ ∃ a b : Option D, env = [some (.tup rows), some (namesD ls), some (namesD ss), a, b], ⟨rfl, rfl, none, none, rfl⟩, fun _ _ _ _ => trivial, ?_, ?_⟩
        · rintro i d env M2 hx ⟨rfl, hall, a, b, rfl⟩
          have hmem := List.mem_of_getElem? hx
          have hr := hd.elem _ hmem
          have hrk := hr.kd
          cases hrk with
          | tup xs =>
            walk_at "bbs"
            rw [List.length_map]
            by_cases hl : ((xs.length : Nat) : Int) = (ls.length : Nat)
            · rw [decide_eq_true hl]
              walk_at "bbs"
              refine .done ?_
              walk_at "bbs"
              refine ⟨by have := hr.size; rw [sizeLine_eq]; omega, fun i acc M' => acc = (xs.take i).map (fun x => .bl (doorB ss rows.length x)) ∧ M' = M2, ⟨rfl, rfl⟩, fun _ _ _ _ => trivial, ?_, ?_⟩
              · rintro i d acc M3 hy ⟨rfl, rfl⟩
                walk_at "bbs"
                refine c_is_door (hr.elem _ (List.mem_of_getElem? hy)) ?_
                exact ⟨take_map_succ (fun x => D.bl (doorB ss rows.length x)) hy, rfl⟩
              · rintro acc M3 ⟨rfl, rfl⟩
                walk_at "bbs"
                refine i_all (bs := xs.map (doorB ss rows.length)) (by show some _ = some _; rw [List.take_length, List.map_map]; rfl) ?_
                rw [List.all_map, show xs.all (id ∘ doorB ss rows.length) = xs.all (doorB ss rows.length) from rfl]
                have er : rowB ls.length ss rows.length (.tup xs) = xs.all (doorB ss rows.length) := by
                  rw [rowB_tup, decide_eq_true (show xs.length = ls.length by omega), Bool.true_and]
                by_cases ha : xs.all (doorB ss rows.length) = true
                · rw [ha]
                  walk_at "bbs"
                  exact .done ⟨rfl, all_succ hx hall (er.trans ha), _, _, rfl⟩
                · rw [Bool.eq_false_iff.mpr ha]
                  walk_at "bbs"
                  refine .done ?_
                  rw [roomsB_row hmem (er.trans (Bool.eq_false_iff.mpr ha))] at q
                  exact q
            · rw [decide_eq_false hl]
              walk_at "bbs"
              refine .done ?_
              rw [roomsB_row hmem (by rw [rowB_tup, decide_eq_false (show ¬ xs.length = ls.length by omega)]; rfl)] at q
              exact q
          | _ =>
            walk_at "bbs"
            refine .done ?_
            rw [roomsB_row hmem rfl] at q
            exact q
        · rintro env M2 ⟨rfl, hall, a, b, rfl⟩
          refine .done ?_
          walk_at "bbs"
          refine .done ?_
          rw [roomsB_all h1 h2 hall] at q
          exact q
      · rw [decide_eq_false h2]
        walk_at "bbs"
        refine .done ?_
        rw [roomsB_hi h2] at q
        exact q
    · rw [decide_eq_false h1]
      walk_at "bbs"
      refine .done ?_
      rw [roomsB_lo h1] at q
      exact q
  | _ =>
    walk_at "bbs"
    exact .done q
theorem c_are_rooms {d : D} {ls ss : List Str} (h : Tm 3 d) (q : Q (.bl (roomsB ls.length ss d)) M) : sp_are_rooms K [d, namesD ls, namesD ss] M Q E := ⟨_, _, _, rfl, ls, ss, h, rfl, rfl, q⟩
theorem goodB_l {l s r : D} (h : namesB 1 4 l = false) : goodB l s r = false := by unfold goodB; rw [h]; rfl
theorem goodB_s {l s r : D} (h : namesB 2 4 s = false) : goodB l s r = false := by unfold goodB; rw [h, Bool.false_and, Bool.and_false]
theorem goodB_r {ls ss : List Str} {r : D} (h1 : isNames ls 1 4) (h2 : isNames ss 2 4) : goodB (namesD ls) (namesD ss) r = roomsB ls.length ss r := by
  unfold goodB
  rw [namesB_of h1, namesB_of h2, show (listOfD (namesD ls)).length = ls.length from List.length_map .., show (listOfD (namesD ss)).map textOf = ss from texts_names ss]
  rfl
theorem lw_Plan___init__ (h : sp_Plan___init__ K ds M Q E) : rd_Plan___init__ K (wd E) (ends Q) (startD ["self", "letters", "signs", "rooms"] ds) M := by
  obtain ⟨o, l, s, r, rfl, a, rfl, hm, hl, hs, hr, q1, q2⟩ := h
  unfold rd_Plan___init__
  walk_at "bbs"
  refine c_are_names (lo := 1) (hi := 4) hl (by omega) ?_
  by_cases h1 : namesB 1 4 l = true
  · rw [h1]
    walk_at "bbs"
    refine c_are_names (lo := 2) (hi := 4) hs (by omega) ?_
    by_cases h2 : namesB 2 4 s = true
    · rw [h2]
      walk_at "bbs"
      refine .done ?_
      walk_at "bbs"
      obtain ⟨ls, rfl, n1⟩ := names_of h1
      obtain ⟨ss, rfl, n2⟩ := names_of h2
      rw [goodB_r n1 n2] at q1 q2
      refine c_are_rooms hr ?_
      by_cases h3 : roomsB ls.length ss r = true
      · rw [h3]
        walk_at "bbs"
        refine .done ?_
        walk_at "bbs"
        refine ⟨a, _, rfl, hm, by decide, ?_⟩
        refine .done ?_
        walk_at "bbs"
        refine ⟨a, _, rfl, mset_same, by show 1 < 1000; omega, ?_⟩
        rw [mset_mset]
        refine .done ?_
        walk_at "bbs"
        refine ⟨a, _, rfl, mset_same, by
          show (putD "own_signs" _ [("own_letters", _)]).length < 1000
          rw [put2]
          show 2 < 1000
          omega, ?_⟩
        rw [mset_mset]
        show FzV Q .non (mset M a (.ins (He.ga K "Plan") (putD "own_rooms" _ (putD "own_signs" _ [("own_letters", _)]))))
        rw [put2, put3]
        exact .done (q1 h3)
      · rw [Bool.eq_false_iff.mpr h3]
        walk_at "bbs"
        exact .done (q2 (Bool.eq_false_iff.mpr h3))
    · rw [Bool.eq_false_iff.mpr h2]
      walk_at "bbs"
      exact .done (q2 (goodB_s (Bool.eq_false_iff.mpr h2)))
  · rw [Bool.eq_false_iff.mpr h1]
    walk_at "bbs"
    exact .done (q2 (goodB_l (Bool.eq_false_iff.mpr h1)))
theorem lw__law_good (h : sp__law_good K ds M Q E) : rd__law_good K (wd E) (ends Q) (startD ["_law_parts_here", "_law_names_here", "_law_marks", "_law_halls", "_law_doors", "_law_door"] ds) M := by
  obtain ⟨o, rfl, l, s, r, ⟨rfl, hl, hs, hd⟩, q⟩ := h
  unfold rd__law_good
  walk_at "bbs"
  refine i_gtup rfl ?_
  walk_at "bbs"
  refine .done ?_
  walk_at "bbs"
  refine c_law_are_names (lo := 1) (hi := 4) hl (by omega) ?_
  by_cases h1 : namesB 1 4 l = true
  · rw [h1]
    walk_at "bbs"
    refine c_law_are_names (lo := 2) (hi := 4) hs (by omega) ?_
    by_cases h2 : namesB 2 4 s = true
    · rw [h2]
      walk_at "bbs"
      refine .done ?_
      obtain ⟨ls, rfl, n1⟩ := names_of h1
      obtain ⟨ss, rfl, n2⟩ := names_of h2
      rw [goodB_r n1 n2] at q
      have hk := hd.kd
      cases hk with
      | tup rows =>
        walk_at "bbs"
        by_cases h1 : (1 : Int) ≤ (rows.length : Int)
        · rw [decide_eq_true h1]
          walk_at "bbs"
          by_cases h2 : (rows.length : Int) ≤ 36
          · rw [decide_eq_true h2]
            walk_at "bbs"
            refine .done ?_
            walk_at "bbs"
            refine ⟨fun i env M' => M' = M ∧ (rows.take i).all (rowB ls.length ss rows.length) = true ∧ ∃ a b : Option D, env = [some (.tup [namesD ls, namesD ss, .tup rows]), some (namesD ls), some (namesD ss), some (.tup rows), a, b], ⟨rfl, rfl, none, none, rfl⟩, fun _ _ _ _ => trivial, ?_, ?_⟩
            · rintro i d env M2 hx ⟨rfl, hall, a, b, rfl⟩
              have hmem := List.mem_of_getElem? hx
              have hr := hd.elem _ hmem
              have hrk := hr.kd
              cases hrk with
              | tup xs =>
                walk_at "bbs"
                rw [List.length_map]
                by_cases hl : ((xs.length : Nat) : Int) = (ls.length : Nat)
                · rw [decide_eq_true hl]
                  walk_at "bbs"
                  refine .done ?_
                  walk_at "bbs"
                  refine ⟨by have := hr.size; rw [sizeLine_eq]; omega, fun i acc M' => acc = ((xs.take i).filter (fun x => !doorB ss rows.length x)).map id ∧ M' = M2, ⟨rfl, rfl⟩, fun _ _ _ _ => trivial, ?_, ?_⟩
                  · rintro i d acc M3 hy ⟨rfl, rfl⟩
                    walk_at "bbs"
                    refine c_law_is_door (hr.elem _ (List.mem_of_getElem? hy)) ?_
                    walk_at "bbs"
                    cases hn : doorB ss rows.length d with
                    | true =>
                      walk_at "bbs"
                      refine ⟨?_, rfl⟩
                      rw [filter_succ hy, if_neg (by rw [hn]; exact fun z => nomatch z), List.append_nil]
                    | false =>
                      walk_at "bbs"
                      refine ⟨?_, rfl⟩
                      rw [filter_succ hy, if_pos (by rw [hn]; rfl)]
                      rfl
                  · rintro acc M3 ⟨rfl, rfl⟩
                    walk_at "bbs"
                    refine ⟨Nat.zero_le _, ?_⟩
                    refine i_eqE rfl rfl ?_
                    rw [List.take_length, List.isEmpty_map, filter_none, Bool.true_xor]
                    have er : rowB ls.length ss rows.length (.tup xs) = xs.all (doorB ss rows.length) := by
                      rw [rowB_tup, decide_eq_true (show xs.length = ls.length by omega), Bool.true_and]
                    by_cases ha : xs.all (doorB ss rows.length) = true
                    · rw [ha]
                      walk_at "bbs"
                      exact .done ⟨rfl, all_succ hx hall (er.trans ha), _, _, rfl⟩
                    · rw [Bool.eq_false_iff.mpr ha]
                      walk_at "bbs"
                      refine .done ?_
                      rw [roomsB_row hmem (er.trans (Bool.eq_false_iff.mpr ha))] at q
                      exact q
                · rw [decide_eq_false hl]
                  walk_at "bbs"
                  refine .done ?_
                  rw [roomsB_row hmem (by rw [rowB_tup, decide_eq_false (show ¬ xs.length = ls.length by omega)]; rfl)] at q
                  exact q
              | _ =>
                walk_at "bbs"
                refine .done ?_
                rw [roomsB_row hmem rfl] at q
                exact q
            · rintro env M2 ⟨rfl, hall, a, b, rfl⟩
              refine .done ?_
              walk_at "bbs"
              refine .done ?_
              rw [roomsB_all h1 h2 hall] at q
              exact q
          · rw [decide_eq_false h2]
            walk_at "bbs"
            refine .done ?_
            rw [roomsB_hi h2] at q
            exact q
        · rw [decide_eq_false h1]
          walk_at "bbs"
          refine .done ?_
          rw [roomsB_lo h1] at q
          exact q
      | _ =>
        walk_at "bbs"
        exact .done q
    · rw [Bool.eq_false_iff.mpr h2]
      walk_at "bbs"
      refine .done ?_
      rw [goodB_s (Bool.eq_false_iff.mpr h2)] at q
      exact q
  · rw [Bool.eq_false_iff.mpr h1]
    walk_at "bbs"
    refine .done ?_
    rw [goodB_l (Bool.eq_false_iff.mpr h1)] at q
    exact q
theorem c_law_good {o l s r : D} (h : Parts o l s r) (q : Q (.bl (goodB l s r)) M) : sp__law_good K [o] M Q E := ⟨_, rfl, l, s, r, h, q⟩
end
end BB

set_option maxHeartbeats 8000000
namespace BB
open L2 PySem PySem.Spec PyProof.Rows
local macro_rules | `(tactic| walk_at "bb") => `(tactic| first
  | (with_reducible refine i_c ?_) | (with_reducible refine i_n ?_) | (with_reducible refine i_op ?_) | (with_reducible refine i_cons ?_) | (with_reducible refine i_nil ?_) | (with_reducible refine i_cb ?_)
  | (with_reducible refine i_seq ?_) | (with_reducible refine i_set ?_) | (with_reducible refine i_ret ?_) | (with_reducible refine i_if ?_) | (with_reducible refine i_drop ?_) | (with_reducible refine i_par ?_) | (with_reducible refine i_setF ?_) | (with_reducible refine i_raise ?_) | (with_reducible refine i_raiseI ?_) | (with_reducible refine i_asg ?_)
  | (with_reducible refine i_test ?_) | (with_reducible refine i_chain ?_) | (with_reducible refine i_tru ?_) | (with_reducible refine i_and ?_) | (with_reducible refine i_or ?_) | (with_reducible refine i_not ?_)
  | (with_reducible refine i_andv ?_) | (with_reducible refine i_orv ?_) | (with_reducible refine i_notv ?_) | (with_reducible refine i_ifx ?_) | (with_reducible refine i_tup ?_) | (with_reducible refine i_lst ?_) | (with_reducible refine i_lstM ?_)
  | (with_reducible refine i_neg ?_) | (with_reducible refine i_call ?_) | (with_reducible refine i_callK ?_) | (with_reducible refine i_meth ?_) | (with_reducible refine i_fld ?_) | (with_reducible refine i_tupIx ?_) | (with_reducible refine i_app ?_)
  | (with_reducible refine i_join ?_) | (with_reducible refine i_sl ?_) | (with_reducible refine i_part ?_) | (with_reducible refine i_nopart ?_) | (with_reducible refine i_next ?_) | (with_reducible refine i_retN ?_)
  | (with_reducible refine i_gname ?_) | (with_reducible refine i_gcons ?_) | (with_reducible refine i_gnil ?_) | (with_reducible refine i_seqI ?_) | (with_reducible refine i_rng1 ?_) | (with_reducible refine i_enum ?_) | (with_reducible refine i_zip2 ?_)
  | (with_reducible refine i_keys ?_) | (with_reducible refine i_updT ?_) | (with_reducible refine i_popI ?_) | (with_reducible refine i_lcM ?_) | (with_reducible refine i_parD ?_) | (with_reducible refine i_tupH ?_) | (with_reducible refine i_dispT ?_) | (with_reducible refine i_dget ?_) | (with_reducible refine i_dget1 ?_) | (with_reducible refine i_dget2 ?_) | (with_reducible refine i_dput ?_) | (with_reducible refine i_while ?_) | (with_reducible refine i_newT ?_) | (with_reducible refine i_newK ?_) | (with_reducible refine i_dispK ?_)
  | (with_reducible refine i_yes ?_) | (with_reducible refine i_for ?_) | (with_reducible refine i_lc ?_)
  | ((with_reducible refine i_var (d := ?bbd) ?bbh ?bbq); (case bbh => rfl)) | ((with_reducible refine i_rdo (d := ?bbd) ?bbh ?bbq); (case bbh => rfl); (try dsimp only)) | ((with_reducible refine i_rd1 (d := ?bbd) ?bbh ?bbq); (case bbh => rfl); (try dsimp only))
  | (with_reducible refine i_itt ?_) | (with_reducible refine i_nf ?_) | (with_reducible refine i_nt ?_) | (with_reducible refine i_itf ?_)
  | ((with_reducible show rdIsi _ _ _); first | refine i_isi rfl kb_int_int ?_ | refine i_isi rfl kb_int_bool ?_ | refine i_isi rfl kb_str_str ?_ | refine i_isi rfl kb_tup_tup ?_)
  | (with_reducible refine ⟨_, rfl, ?_⟩)
  | ((with_reducible show wkD _ _ _); first | refine wk_tup ?_ | refine wk_lst ?_ | refine wk_str ?_)
  | ((with_reducible show rdEq _ _ _ _); refine i_eqI ?_) | ((with_reducible show rdNe _ _ _ _); refine i_neI ?_)
  | ((with_reducible show ite _ _ _); refine i_itt ?_) | ((with_reducible show ite _ _ _); refine i_itf ?_))
local macro_rules | `(tactic| walk_at "bbs") => `(tactic| repeat walk_at "bb")

section
variable {K : PySem.W.Frag} {ds : List D} {M : Mem} {Q : DKt} {E : DX}
/-! ### is it taken -/
theorem i_makeK {Wd : DW} {C : Addr} {m : Nat} {sp : SpD} {gD : List D → List D → List D} {dk : DA} {env : Env} (q : dk env M fun zs M1 => zs.length = m ∧ ∀ p dx, M1 p = none → M1 dx = none → dx ≠ p →
  sp (gD [.ref p] zs) (mset (mset M1 dx (.own p)) p (.ins C [])) (fun v M2 => v = .non ∧ FzV Q (.ref p) M2) fun c fs M' => FzV (fun _ M'' => Wd c fs env M'') .non M') : dMakeK Wd C m sp gD dk env M Q := q
theorem perm_lsr {a l s r : D} : perm [0, 3, 2, 1] [a] [r, s, l] = [a, l, s, r] := rfl
/-- what was begun to be made is let go -/
theorem unmade {p dx : Addr} {C : Addr} {P : DKt} {d : D} (ht : Tidy M) (hp : M p = none) (hdx : M dx = none) (hne : dx ≠ p)
    (q : P d M) : FzV P d (mset (mset M dx (.own p)) p (.ins C [])) := by
  refine .dropI p mset_same fun d2 h2 => ?_
  have hd : d2 = dx := by
    refine Classical.byContradiction fun hn => ?_
    by_cases e1 : d2 = p
    · rw [e1, mset_same] at h2; cases h2
    · rw [mset_ne e1, mset_ne hn] at h2
      exact ht _ _ h2 hp
  subst hd
  rw [mdel_mset (by rw [mset_ne hne.symm]; exact hp), mdel_mset hdx]
  exact .done q
theorem fz_env1 {P : Env → Mem → Prop} {e e' : Env} (h : e = e') (q : FzS P e' M) : FzS P e M := h ▸ q
theorem seen_same1 {a : Addr} {c : Value} {fs : List (Str × D)} : seenX a c fs (some (.ref a)) = some (.exc c fs) := if_pos rfl
/-- parts, seen by one that was caught (there are no addresses in them) -/
theorem seen_parts {a : Addr} {c : Value} {fs : List (Str × D)} {xs : List D} : seenX a c fs (some (.tup xs)) = some (.tup xs) := rfl
theorem lw__law_taken (h : sp__law_taken K ds M Q E) : rd__law_taken K (wd E) (ends Q) (startD ["_law_parts_here", "_law_caught", "e", "_law_others"] ds) M := by
  obtain ⟨o, rfl, l, s, r, ⟨rfl, hl, hs, hr⟩, X, ht, q⟩ := h
  have hz := sizeLine_eq
  unfold rd__law_taken
  walk_at "bbs"
  refine .done ?_
  walk_at "bbs"
  unfold dTryKeep
  walk_at "bbs"
  refine i_makeK ?_
  walk_at "bbs"
  refine ⟨rfl, fun p dx hp hdx hne => ?_⟩
  rw [perm_lsr]
  refine ⟨_, _, _, _, rfl, p, rfl, mset_same, hl, hs, hr, fun hg => ⟨rfl, made ht hp hdx hne ?_⟩, fun hg => unmade ht hp hdx hne ?_⟩
  · walk_at "bbs"
    refine .done ?_
    walk_at "bbs"
    refine .done ?_
    rw [hg] at q
    exact q
  · refine ⟨true, X.b, fun _ a => ?_, fun h => by cases h⟩
    walk_at "bbs"
    refine fz_env1 (e' := [some (.tup [l, s, r]), some (.exc (.ref (He.ga K "NoPlan")) []), none, none]) ?_ (.done ?_)
    · show [seenX a (.ref (He.ga K "NoPlan")) [] (some (.tup [l, s, r])), seenX a (.ref (He.ga K "NoPlan")) [] (some (.ref a)), none, none] = _
      rw [seen_same1]; rfl
    walk_at "bbs"
    refine .done ?_
    walk_at "bbs"
    refine ⟨by show 5 ≤ sizeLine; omega, ?_⟩
    walk_at "bbs"
    refine i_isiXT (cs := [He.ga K "NoDeed", He.ga K "NoName", He.ga K "NoRoom", He.ga K "NoText", He.ga K "NoWord"]) X.q (kitAny_none X.o) ?_
    walk_at "bbs"
    refine .done ?_
    walk_at "bbs"
    refine i_isiX X.q X.s ?_
    walk_at "bbs"
    refine i_isiY X.q X.v ?_
    walk_at "bbs"
    refine .done ?_
    rw [hg] at q
    exact q
theorem c_taken {o l s r : D} (h : Parts o l s r) (X : XF1 K) (ht : Tidy M) (q : Q (.bl (goodB l s r)) M) : sp__law_taken K [o] M Q E := ⟨_, rfl, l, s, r, h, X, ht, q⟩
end
end BB

set_option maxHeartbeats 8000000
namespace BB
open L2 PySem PySem.Spec PyProof.Rows
local macro_rules | `(tactic| walk_at "bb") => `(tactic| first
  | (with_reducible refine i_c ?_) | (with_reducible refine i_n ?_) | (with_reducible refine i_op ?_) | (with_reducible refine i_cons ?_) | (with_reducible refine i_nil ?_) | (with_reducible refine i_cb ?_)
  | (with_reducible refine i_seq ?_) | (with_reducible refine i_set ?_) | (with_reducible refine i_ret ?_) | (with_reducible refine i_if ?_) | (with_reducible refine i_drop ?_) | (with_reducible refine i_par ?_) | (with_reducible refine i_setF ?_) | (with_reducible refine i_raise ?_) | (with_reducible refine i_raiseI ?_) | (with_reducible refine i_asg ?_)
  | (with_reducible refine i_test ?_) | (with_reducible refine i_chain ?_) | (with_reducible refine i_tru ?_) | (with_reducible refine i_and ?_) | (with_reducible refine i_or ?_) | (with_reducible refine i_not ?_)
  | (with_reducible refine i_andv ?_) | (with_reducible refine i_orv ?_) | (with_reducible refine i_notv ?_) | (with_reducible refine i_ifx ?_) | (with_reducible refine i_tup ?_) | (with_reducible refine i_lst ?_) | (with_reducible refine i_lstM ?_)
  | (with_reducible refine i_neg ?_) | (with_reducible refine i_call ?_) | (with_reducible refine i_callK ?_) | (with_reducible refine i_meth ?_) | (with_reducible refine i_fld ?_) | (with_reducible refine i_tupIx ?_) | (with_reducible refine i_app ?_)
  | (with_reducible refine i_join ?_) | (with_reducible refine i_sl ?_) | (with_reducible refine i_part ?_) | (with_reducible refine i_nopart ?_) | (with_reducible refine i_next ?_) | (with_reducible refine i_retN ?_)
  | (with_reducible refine i_gname ?_) | (with_reducible refine i_gcons ?_) | (with_reducible refine i_gnil ?_) | (with_reducible refine i_seqI ?_) | (with_reducible refine i_rng1 ?_) | (with_reducible refine i_enum ?_) | (with_reducible refine i_zip2 ?_)
  | (with_reducible refine i_keys ?_) | (with_reducible refine i_updT ?_) | (with_reducible refine i_popI ?_) | (with_reducible refine i_lcM ?_) | (with_reducible refine i_parD ?_) | (with_reducible refine i_tupH ?_) | (with_reducible refine i_dispT ?_) | (with_reducible refine i_dget ?_) | (with_reducible refine i_dget1 ?_) | (with_reducible refine i_dget2 ?_) | (with_reducible refine i_dput ?_) | (with_reducible refine i_while ?_) | (with_reducible refine i_newT ?_) | (with_reducible refine i_newK ?_) | (with_reducible refine i_dispK ?_)
  | (with_reducible refine i_yes ?_) | (with_reducible refine i_for ?_) | (with_reducible refine i_lc ?_)
  | ((with_reducible refine i_var (d := ?bbd) ?bbh ?bbq); (case bbh => rfl)) | ((with_reducible refine i_rdo (d := ?bbd) ?bbh ?bbq); (case bbh => rfl); (try dsimp only)) | ((with_reducible refine i_rd1 (d := ?bbd) ?bbh ?bbq); (case bbh => rfl); (try dsimp only))
  | (with_reducible refine i_itt ?_) | (with_reducible refine i_nf ?_) | (with_reducible refine i_nt ?_) | (with_reducible refine i_itf ?_)
  | ((with_reducible show rdIsi _ _ _); first | refine i_isi rfl kb_int_int ?_ | refine i_isi rfl kb_int_bool ?_ | refine i_isi rfl kb_str_str ?_ | refine i_isi rfl kb_tup_tup ?_)
  | (with_reducible refine ⟨_, rfl, ?_⟩)
  | ((with_reducible show wkD _ _ _); first | refine wk_tup ?_ | refine wk_lst ?_ | refine wk_str ?_)
  | ((with_reducible show rdEq _ _ _ _); refine i_eqI ?_) | ((with_reducible show rdNe _ _ _ _); refine i_neI ?_)
  | ((with_reducible show ite _ _ _); refine i_itt ?_) | ((with_reducible show ite _ _ _); refine i_itf ?_))
local macro_rules | `(tactic| walk_at "bbs") => `(tactic| repeat walk_at "bb")

section
variable {K : PySem.W.Frag} {ds : List D} {M : Mem} {Q : DKt} {E : DX}
/-- a row of things, so many tuples deep, of at most so many -/
def Row1 (n k : Nat) (xs : List D) : Prop := (∀ x ∈ xs, Tm n x) ∧ xs.length ≤ k
theorem Row1.cut {n k : Nat} {xs : List D} (h : Row1 n k xs) {lo hi : Option Int} : Row1 n k (cutD xs lo hi) := by
  unfold cutD
  refine ⟨fun x hx => h.1 x (List.mem_of_mem_drop (List.mem_of_mem_take hx)), ?_⟩
  rw [List.length_take, List.length_drop]
  have := h.2
  omega
theorem one1 {n : Nat} {x : D} (h : Tm n x) : Row1 n 1 [x] := ⟨fun y hy => by rw [List.mem_singleton.mp hy]; exact h, Nat.le_refl _⟩
theorem two1 {n : Nat} {x y : D} (h : Tm n x) (h' : Tm n y) : Row1 n 2 [x, y] := ⟨fun z hz => by
  rcases List.mem_cons.mp hz with rfl | hz
  · exact h
  · rw [List.mem_singleton.mp hz]; exact h', Nat.le_refl _⟩
theorem Row1.app {n j k : Nat} {xs ys : List D} (h : Row1 n j xs) (h' : Row1 n k ys) : Row1 n (j + k) (xs ++ ys) := ⟨fun x hx => (List.mem_append.mp hx).elim (h.1 x) (h'.1 x), by rw [List.length_append]; exact Nat.add_le_add h.2 h'.2⟩
theorem Row1.rev {n k : Nat} {xs : List D} (h : Row1 n k xs) : Row1 n k xs.reverse := ⟨fun x hx => h.1 x (List.mem_reverse.mp hx), by rw [List.length_reverse]; exact h.2⟩
theorem Row1.tm {n k : Nat} {xs : List D} (h : Row1 n k xs) (hk : k ≤ 2000) : Tm (n + 1) (.tup xs) := tm_tup h.1 (Nat.le_trans h.2 hk)
theorem Row1.rep {n k : Nat} {xs : List D} (h : Row1 n k xs) : ∀ m : Nat, Row1 n (k * m) (List.replicate m xs).flatten
  | 0 => ⟨fun _ h => (by cases h), by simp⟩
  | m + 1 => by
    rw [List.replicate_succ, List.flatten_cons, Nat.mul_succ, Nat.add_comm]
    exact h.app (h.rep m)
theorem rep_tm {n k m : Nat} {xs : List D} (h : Row1 n k xs) (hk : k * m ≤ 2000) : Tm (n + 1) (.tup (List.replicate ((m : Nat) : Int).toNat xs).flatten) := (h.rep m).tm hk
theorem row_names {zs : List Str} {n k : Nat} (h : zs.length ≤ k) (hz : ∀ z ∈ zs, z.length ≤ 6) : Row1 n k (zs.map D.str) := ⟨fun x hx => by
  obtain ⟨z, hm, rfl⟩ := List.mem_map.mp hx
  exact tm_str (by have := hz z hm; omega), by rw [List.length_map]; exact h⟩
theorem tm_door {n : Nat} {d : Door} (h : ∀ z m, d = some (z, m) → z.length ≤ 6) : Tm (n + 1) (doorD d) := by
  cases d with
  | none => exact tm_non
  | some zm =>
    obtain ⟨z, m⟩ := zm
    exact (two1 (tm_str (by have := h z m rfl; omega)) tm_int).tm (by omega)
theorem row_doors {row : List Door} {n k : Nat} (h : row.length ≤ k) (hz : ∀ z m, some (z, m) ∈ row → z.length ≤ 6) : Row1 (n + 1) k (row.map doorD) := ⟨fun x hx => by
  obtain ⟨d, hm, rfl⟩ := List.mem_map.mp hx
  exact tm_door fun z m e => hz z m (e ▸ hm), by rw [List.length_map]; exact h⟩
theorem i_addT {n j k : Nat} {xs ys : List D} (h : Row1 n j xs) (h' : Row1 n k ys) (hn : j + k ≤ 1000) (q : Q (.tup (xs ++ ys)) M) : rdO addD (.tup xs) (.tup ys) M Q := by
  refine i_rdoN (addD_tup ?_) q
  have := h.2
  have := h'.2
  rw [sizeLine_eq]; omega
theorem ix_mem {xs : List D} {r : Int} (h0 : 0 ≤ r) (h1 : r < xs.length) : ∃ d, d ∈ xs ∧ ∀ M, ixD M (.lst xs) (.int r) = some d := by
  obtain ⟨n, rfl⟩ := Int.eq_ofNat_of_zero_le h0
  have hn : n < xs.length := by omega
  exact ⟨xs[n], List.getElem_mem hn, fun M => ix_lst (List.getElem?_eq_getElem hn)⟩
theorem all_nil {P : D → Prop} : ∀ x ∈ ([] : List D), P x := fun _ h => by cases h
theorem all_cons {P : D → Prop} {x : D} {xs : List D} (h : P x) (k : ∀ y ∈ xs, P y) : ∀ y ∈ x :: xs, P y := fun y hy => by
  rcases List.mem_cons.mp hy with rfl | hy
  · exact h
  · exact k y hy
theorem all_app {P : D → Prop} {xs ys : List D} (h : ∀ x ∈ xs, P x) (k : ∀ y ∈ ys, P y) : ∀ y ∈ xs ++ ys, P y := fun y hy => (List.mem_append.mp hy).elim (h y) (k y)
/-- one of a list's, drawn -/
theorem ix_all {P : D → Prop} {xs : List D} {r : Int} (h : ∀ x ∈ xs, P x) (h0 : 0 ≤ r) (h1 : r < xs.length) (q : ∀ d, P d → Q d M) : rdO ixD (.lst xs) (.int r) M Q := by
  obtain ⟨d, hd, e⟩ := ix_mem h0 h1
  exact ⟨d, e M, q d (h d hd)⟩
theorem i_mulR {xs : List D} {m : Nat} (hne : xs ≠ []) (hm : m ≤ 4000) (hx : xs.length ≤ 1000) (q : Q (.tup (List.replicate ((m : Nat) : Int).toNat xs).flatten) M) : rdO mulE (.tup xs) (.int ((m : Nat) : Int)) M Q := i_rdoN (mulE_tup ⟨hne, by omega, by omega, hx⟩) q
theorem i_newF {env : Env} (q : Q (.dK []) M) : dNewF env M Q := q
theorem i_fz {de : DE} {env : Env} (q : de env M (FzV Q)) : dFz de env M Q := q
theorem i_revT {de : DE} {env : Env} (q : de env M fun x M1 => ∃ xs, x = .tup xs ∧ Q (.tup xs.reverse) M1) : dRevT de env M Q := q
theorem i_orX {da db : DE} {env : Env} (q : da env M fun x M1 => ∃ c, dTruth M1 x = some c ∧ if c = true then Q x M1 else db env M1 Q) : dOrX da db env M Q := q
theorem i_max {i j : Int} (q : Q (.int (if j > i then j else i)) M) : rdMax [.int i, .int j] M Q := ⟨i, j, rfl, q⟩
theorem lw__law_bent_names (h : sp__law_bent_names K ds M Q E) : rd__law_bent_names K (wd E) (ends Q) (startD ["_law_state", "_law_names_here", "_law_at", "_law_odd", "_law_some", "_law_one"] ds) M := by
  obtain ⟨s, o, rfl, a, c, zs, rfl, hm, rfl, l1, l4, h6, q⟩ := h
  have hs := sizeLine_eq
  unfold rd__law_bent_names
  walk_at "bbs"
  rw [List.length_map]
  refine i_max ?_
  rw [show (if ((zs.length : Nat) : Int) > 1 then ((zs.length : Nat) : Int) else 1) = (zs.length : Nat) by split <;> omega]
  walk_at "bbs"
  refine c_draw hm (by omega) (by omega) fun r1 a1 b1 => ?_
  refine .done ?_
  walk_at "bbs"
  refine ⟨by show 1 ≤ sizeLine; omega, ?_⟩
  walk_at "bbs"
  obtain ⟨z, hz, ez⟩ := ix_strs (M := M) (zs := zs) (r := 0) (by omega) (by omega)
  have hz6 := h6 z hz
  refine i_rdo ez ?_
  walk_at "bbs"
  refine ⟨by show 1 ≤ sizeLine; omega, ?_⟩
  walk_at "bbs"
  refine i_newF ?_
  walk_at "bbs"
  refine ⟨by show 14 ≤ sizeLine; omega, ?_⟩
  refine .done ?_
  walk_at "bbs"
  refine c_draw hm (by omega) (by omega) fun r2 a2 b2 => ?_
  obtain ⟨odd, hmem, eo⟩ := ix_mem (xs := [.str "", .str "A", .str "abcdefg", .str "a b", .str "a1", .non, .int 5, .bl true, .tup [.str "a"], .str "zz", .str "a", .str z, .lst [.str "a"], .dK []]) a2 (by show r2 < 14; omega)
  have ho : Tm 0 odd := by
    have l1 : ("a" : Str).length = 1 := rfl
    simp only [List.mem_cons, List.not_mem_nil, or_false] at hmem
    rcases hmem with rfl | rfl | rfl | rfl | rfl | rfl | rfl | rfl | rfl | rfl | rfl | rfl | rfl | rfl
    · exact tm_str (by decide)
    · exact tm_str (by decide)
    · exact tm_str (by decide)
    · exact tm_str (by decide)
    · exact tm_str (by decide)
    · exact tm_non
    · exact tm_int
    · exact tm_bl
    · exact ⟨by decide, fun _ _ => trivial⟩
    · exact tm_str (by decide)
    · exact tm_str (by decide)
    · exact tm_str (by omega)
    · exact tm_lst
    · exact tm_dK
  have hw : Row1 0 4 (zs.map D.str) := row_names l4 h6
  have ro := one1 ho
  refine i_rdo (eo _) ?_
  refine .done ?_
  walk_at "bbs"
  refine i_revT ?_
  walk_at "bbs"
  refine i_addT hw hw.cut (by omega) ?_
  walk_at "bbs"
  refine i_addT hw.cut hw.cut (by omega) ?_
  walk_at "bbs"
  refine ⟨by show 4 ≤ sizeLine; omega, ?_⟩
  refine .done ?_
  walk_at "bbs"
  refine ⟨by show 1 ≤ sizeLine; omega, ?_⟩
  refine i_addT hw.cut ro (by omega) ?_
  walk_at "bbs"
  refine i_addT (hw.cut.app ro) hw.cut (by omega) ?_
  walk_at "bbs"
  refine ⟨by show 1 ≤ sizeLine; omega, ?_⟩
  refine i_addT hw ro (by omega) ?_
  walk_at "bbs"
  refine ⟨Nat.zero_le _, ?_⟩
  walk_at "bbs"
  refine i_rdo ez ?_
  walk_at "bbs"
  refine ⟨by show 5 ≤ sizeLine; omega, ?_⟩
  refine i_rdoN (addD_lst (by show 4 + 5 ≤ sizeLine; omega)) ?_
  refine .done ?_
  walk_at "bbs"
  refine ⟨by show 5 ≤ sizeLine; omega, ?_⟩
  walk_at "bbs"
  refine i_fz ?_
  walk_at "bbs"
  refine ⟨by rw [List.length_map]; omega, fun i acc M' => acc = (zs.take i).map (fun z => D.tup [.str z, .int 1]) ∧ M' = M, ⟨rfl, rfl⟩, fun _ _ _ _ => trivial, ?_, ?_⟩
  · rintro i d acc _ hx ⟨rfl, rfl⟩
    obtain ⟨y, hy, rfl⟩ := strs_at hx
    walk_at "bbs"
    refine ⟨by show 2 ≤ sizeLine; omega, ?_⟩
    exact ⟨take_map_succ (fun z => D.tup [.str z, .int 1]) hy, rfl⟩
  rintro acc M2 ⟨rfl, rfl⟩
  walk_at "bbs"
  refine i_dictP (kvs := zs.map fun z => (Sum.inr z, .int 1)) ?_ fun p hp => .fixK mset_same ?_
  · show some _ = some _
    rw [List.length_map, List.take_length, List.map_map]
    rfl
  rw [mdel_mset hp]
  refine .done ?_
  walk_at "bbs"
  refine ⟨by show 3 ≤ sizeLine; omega, ?_⟩
  refine i_rdoN (addD_lst (by show 9 + 3 ≤ sizeLine; omega)) ?_
  refine .done ?_
  walk_at "bbs"
  refine c_draw hm (by omega) (by omega) fun r3 a3 b3 => ?_
  have z1 : Tm 1 (.str z) := tm_str (by omega)
  refine ix_all (P := Tm 1) ?_ a3 (by show r3 < 12; omega) fun d hd => .done (q d hd)
  refine all_app (all_app (all_cons ?_ (all_cons ?_ (all_cons tm_lst (all_cons ?_ all_nil)))) (all_cons ?_ (all_cons ?_ (all_cons ?_ (all_cons tm_non (all_cons z1 all_nil)))))) (all_cons ?_ (all_cons ?_ (all_cons tm_dK all_nil)))
  · exact hw.rev.tm (by omega)
  · exact (hw.app hw.cut).tm (by omega)
  · exact (hw.cut.app hw.cut).tm (by omega)
  · exact ((hw.cut.app ro).app hw.cut).tm (by omega)
  · exact (hw.app ro).tm (by omega)
  · exact tm_tup all_nil (by decide)
  · exact tm_tup (all_cons (tm_str (by decide)) (all_cons (tm_str (by decide)) (all_cons (tm_str (by decide)) (all_cons (tm_str (by decide)) (all_cons (tm_str (by decide)) all_nil))))) (by decide)
  · exact hw.cut.tm (by omega)
theorem c_bent_names {a c : Addr} {zs : List Str} (hm : M a = some (.gen c)) (l1 : 1 ≤ zs.length) (l4 : zs.length ≤ 4) (h6 : ∀ z ∈ zs, z.length ≤ 6) (q : ∀ d, Tm 1 d → Q d M) : sp__law_bent_names K [.ref a, namesD zs] M Q E := ⟨_, _, rfl, a, c, zs, rfl, hm, rfl, l1, l4, h6, q⟩
/-- a door, or a made up one -/
theorem or_door {dr : Door} {db : DE} {env : Env} (h : ∀ s n, dr = some (s, n) → s.length ≤ 6) (hb : ∀ P : DKt, (∀ (s : Str) (n : Nat), s.length ≤ 6 → P (.tup [.str s, .int (n : Nat)]) M) → db env M P) (q : ∀ (s : Str) (n : Nat), s.length ≤ 6 → Q (.tup [.str s, .int (n : Nat)]) M) :
    ∃ c, dTruth M (doorD dr) = some c ∧ if c = true then Q (doorD dr) M else db env M Q := by
  cases dr with
  | none => exact ⟨false, rfl, by rw [if_neg Bool.false_ne_true]; exact hb Q q⟩
  | some sn =>
    obtain ⟨s, n⟩ := sn
    exact ⟨true, rfl, by rw [if_pos rfl]; exact q s n (h s n rfl)⟩
theorem door_at {row : List Door} {r : Int} (h0 : 0 ≤ r) (h1 : r < row.length) : ∃ d, d ∈ row ∧ ixD M (.tup (row.map doorD)) (.int r) = some (doorD d) := by
  obtain ⟨n, rfl⟩ := Int.eq_ofNat_of_zero_le h0
  have hn : n < row.length := by omega
  exact ⟨row[n], List.getElem_mem hn, ix_tup (by rw [List.getElem?_map, List.getElem?_eq_getElem hn]; rfl)⟩
theorem lw__law_bent_doors (h : sp__law_bent_doors K ds M Q E) : rd__law_bent_doors K (wd E) (ends Q) (startD ["_law_state", "_law_doors", "_law_marks", "_law_many", "_law_at", "_law_door", "_law_odd", "_law_other", "_law_some"] ds) M := by
  obtain ⟨s, o, g, n, rfl, a, c, row, ss, many, rfl, hm, rfl, rfl, rfl, l1, l4, s1, s6, r6, q⟩ := h
  have hs := sizeLine_eq
  unfold rd__law_bent_doors
  walk_at "bbs"
  rw [List.length_map]
  refine c_draw hm (by omega) (by omega) fun r1 a1 b1 => ?_
  refine .done ?_
  walk_at "bbs"
  refine i_orX ?_
  walk_at "bbs"
  obtain ⟨dr, hdr, edr⟩ := door_at (M := M) a1 b1
  refine i_rdo edr ?_
  refine or_door (fun s n e => r6 s n (e ▸ hdr)) (fun P k => ?_) fun s n hs6 => ?_
  · walk_at "bbs"
    obtain ⟨z, hz, ez⟩ := ix_strs (M := M) (zs := ss) (r := 0) (by omega) (by omega)
    refine i_rdo ez ?_
    walk_at "bbs"
    refine ⟨by show 2 ≤ sizeLine; omega, ?_⟩
    exact k z 0 (s6 z hz)
  walk_at "bbs"
  refine .done ?_
  walk_at "bbs"
  refine ⟨by show 1 ≤ sizeLine; omega, ?_⟩
  walk_at "bbs"
  refine ⟨by show 9 ≤ sizeLine; omega, ?_⟩
  walk_at "bbs"
  refine c_draw hm (by omega) (by omega) fun r2 a2 b2 => ?_
  refine ix_all (P := Tm 1) (all_cons tm_int (all_cons tm_int (all_cons tm_bl (all_cons tm_bl (all_cons tm_non (all_cons (tm_str (by decide)) (all_cons tm_int (all_cons tm_int (all_cons ?_ all_nil))))))))) a2 (by show r2 < 9; omega) fun odd ho => ?_
  · exact tm_tup (all_cons tm_int all_nil) (by decide)
  refine .done ?_
  have hd := tm_str (n := 1) (z := s) (by omega)
  have hn := tm_int (n := 1) (i := (n : Nat))
  have door : Row1 1 2 [.str s, .int (n : Nat)] := two1 hd hn
  walk_at "bbs"
  refine ⟨by show 2 ≤ sizeLine; omega, ?_⟩
  walk_at "bbs"
  refine ⟨by show 2 ≤ sizeLine; omega, ?_⟩
  walk_at "bbs"
  refine ⟨by show 2 ≤ sizeLine; omega, ?_⟩
  walk_at "bbs"
  refine ⟨by show 1 ≤ sizeLine; omega, ?_⟩
  refine i_addT door (one1 tm_int) (by omega) ?_
  walk_at "bbs"
  refine ⟨by show 6 ≤ sizeLine; omega, ?_⟩
  refine .done ?_
  walk_at "bbs"
  refine i_revT ?_
  walk_at "bbs"
  refine ⟨Nat.zero_le _, ?_⟩
  walk_at "bbs"
  refine ⟨by show 1 ≤ sizeLine; omega, ?_⟩
  walk_at "bbs"
  refine ⟨by show 2 ≤ sizeLine; omega, ?_⟩
  walk_at "bbs"
  refine i_newF ?_
  walk_at "bbs"
  refine ⟨by show 2 ≤ sizeLine; omega, ?_⟩
  walk_at "bbs"
  refine ⟨by show 1 ≤ sizeLine; omega, ?_⟩
  walk_at "bbs"
  refine ⟨by show 2 ≤ sizeLine; omega, ?_⟩
  walk_at "bbs"
  refine ⟨by show 8 ≤ sizeLine; omega, ?_⟩
  refine i_rdoN (addD_lst (by show 6 + 8 ≤ sizeLine; omega)) ?_
  refine .done ?_
  have hw : Row1 1 4 (row.map doorD) := row_doors l4 r6
  walk_at "bbs"
  refine c_draw hm (by omega) (by omega) fun r3 a3 b3 => ?_
  refine ix_all (P := Tm 1) ?_ a3 (by show r3 < 14; omega) fun other hoth => ?_
  · have d0 := fun {x y : D} (h : Tm 0 x) (h' : Tm 0 y) => (two1 h h').tm (by omega)
    refine all_app (all_cons (d0 hd.less ho.less) (all_cons (d0 ho.less tm_int) (all_cons (d0 (tm_str (by decide)) tm_int) (all_cons tm_lst (all_cons ?_ (all_cons ?_ all_nil))))))
      (all_cons ?_ (all_cons ?_ (all_cons tm_int (all_cons (tm_str (by decide)) (all_cons tm_non (all_cons (d0 tm_lst tm_int) (all_cons (d0 tm_dK tm_int) (all_cons (d0 hd.less tm_lst) all_nil))))))))
    · exact ((two1 (n := 0) hd.less tm_int).app (one1 tm_int)).tm (by omega)
    · exact (two1 (n := 0) hd.less tm_int).cut.tm (by omega)
    · exact (two1 (n := 0) hd.less tm_int).rev.tm (by omega)
    · exact tm_tup all_nil (by decide)
  have ro := one1 hoth
  walk_at "bbs"
  refine ⟨by show 1 ≤ sizeLine; omega, ?_⟩
  refine i_addT hw.cut ro (by omega) ?_
  walk_at "bbs"
  refine i_addT (hw.cut.app ro) hw.cut (by omega) ?_
  walk_at "bbs"
  refine i_addT hw.cut hw.cut (by omega) ?_
  walk_at "bbs"
  refine ⟨by show 2 ≤ sizeLine; omega, ?_⟩
  refine .done ?_
  walk_at "bbs"
  refine i_addT hw hw.cut (by omega) ?_
  walk_at "bbs"
  refine ⟨Nat.zero_le _, ?_⟩
  walk_at "bbs"
  obtain ⟨dr0, hdr0, edr0⟩ := door_at (M := M) (row := row) (r := 0) (by omega) (by omega)
  refine i_rdo edr0 ?_
  walk_at "bbs"
  refine ⟨by show 5 ≤ sizeLine; omega, ?_⟩
  refine i_rdoN (addD_lst (by show 2 + 5 ≤ sizeLine; omega)) ?_
  refine .done ?_
  walk_at "bbs"
  refine ⟨by show 10 ≤ sizeLine; omega, ?_⟩
  walk_at "bbs"
  refine c_draw hm (by omega) (by omega) fun r4 a4 b4 => ?_
  refine ix_all (P := fun d => ∃ k : Nat, k < 7 ∧ d = .int (k : Nat)) ?_ a4 (by show r4 < 10; omega) fun d hk => ?_
  · exact all_cons ⟨0, by omega, rfl⟩ (all_cons ⟨0, by omega, rfl⟩ (all_cons ⟨0, by omega, rfl⟩ (all_cons ⟨0, by omega, rfl⟩ (all_cons ⟨1, by omega, rfl⟩ (all_cons ⟨2, by omega, rfl⟩ (all_cons ⟨3, by omega, rfl⟩ (all_cons ⟨4, by omega, rfl⟩ (all_cons ⟨5, by omega, rfl⟩ (all_cons ⟨6, by omega, rfl⟩ all_nil)))))))))
  obtain ⟨k, k7, rfl⟩ := hk
  refine ix_all (P := Tm 2) ?_ (by omega) (by show ((k : Nat) : Int) < 7; omega) fun d hd => .done (q d hd)
  refine all_app (all_cons ?_ (all_cons ?_ all_nil)) (all_cons ?_ (all_cons tm_lst (all_cons tm_non (all_cons ?_ (all_cons ?_ all_nil)))))
  · exact ((hw.cut.app ro).app hw.cut).tm (by omega)
  · exact (hw.cut.app hw.cut).tm (by omega)
  · exact (hw.app hw.cut).tm (by omega)
  · exact tm_tup all_nil (by decide)
  · exact tm_door fun z m e => r6 z m (e ▸ hdr0)
theorem c_bent_doors {a c : Addr} {row : List Door} {ss : List Str} {many : Nat} (hm : M a = some (.gen c)) (l1 : 1 ≤ row.length) (l4 : row.length ≤ 4) (s1 : 1 ≤ ss.length) (s6 : ∀ z ∈ ss, z.length ≤ 6) (r6 : ∀ z n, some (z, n) ∈ row → z.length ≤ 6) (q : ∀ d, Tm 2 d → Q d M) :
    sp__law_bent_doors K [.ref a, .tup (row.map doorD), namesD ss, .int (many : Nat)] M Q E := ⟨_, _, _, _, rfl, a, c, row, ss, many, rfl, hm, rfl, rfl, rfl, l1, l4, s1, s6, r6, q⟩
theorem row_rooms {rs : List (List Door)} {n k : Nat} (h : rs.length ≤ k) (h4 : ∀ r ∈ rs, r.length ≤ 4) (hz : ∀ r ∈ rs, ∀ z m, some (z, m) ∈ r → z.length ≤ 6) : Row1 (n + 2) k (rs.map fun r => D.tup (r.map doorD)) := ⟨fun x hx => by
  obtain ⟨r, hr, rfl⟩ := List.mem_map.mp hx
  exact (row_doors (h4 r hr) (hz r hr)).tm (by omega), by rw [List.length_map]; exact h⟩
theorem Pl.Ok.tms {p : Pl} (ok : p.Ok) : Tm 1 (namesD p.letters) ∧ Tm 1 (namesD p.signs) ∧ Row1 2 36 (p.rooms.map fun r => D.tup (r.map doorD)) := by
  have h4 := ok.ls.2.2.2
  have s4 := ok.ss.2.2.2
  refine ⟨(row_names h4 fun z hz => name_len (ok.ls.1 z hz)).tm (by omega), (row_names s4 fun z hz => name_len (ok.ss.1 z hz)).tm (by omega), row_rooms ok.hi (fun r hr => by rw [ok.row r hr]; exact h4) fun r hr z m h => name_len (ok.ss.1 z (ok.door r hr z m h).1)⟩
theorem Pl.Ok.parts {p : Pl} (ok : p.Ok) : Parts (partsD p) (namesD p.letters) (namesD p.signs) (rowsD' p.rooms) := ⟨rfl, ok.tms.1, ok.tms.2.1, ok.tms.2.2.tm (by omega)⟩
theorem room_at {rs : List (List Door)} {r : Int} (h0 : 0 ≤ r) (h1 : r < rs.length) : ∃ row, row ∈ rs ∧ ixD M (rowsD' rs) (.int r) = some (.tup (row.map doorD)) := by
  obtain ⟨n, rfl⟩ := Int.eq_ofNat_of_zero_le h0
  have hn : n < rs.length := by omega
  exact ⟨rs[n], List.getElem_mem hn, ix_tup (by rw [List.getElem?_map, List.getElem?_eq_getElem hn]; rfl)⟩
theorem lw__law_bent (h : sp__law_bent K ds M Q E) : rd__law_bent K (wd E) (ends Q) (startD ["_law_state", "_law_parts_here", "_law_names_here", "_law_marks", "_law_halls", "_law_way", "_law_at", "_law_some", "_law_doors"] ds) M := by
  obtain ⟨s, o, rfl, a, c, p, rfl, hm, ok, rfl, q⟩ := h
  have hs := sizeLine_eq
  have hlo := ok.lo
  have hhi := ok.hi
  obtain ⟨t1, t2, hw⟩ := ok.tms
  unfold rd__law_bent
  walk_at "bbs"
  refine i_gtup rfl ?_
  walk_at "bbs"
  refine .done ?_
  walk_at "bbs"
  refine c_draw hm (by omega) (by omega) fun r1 a1 b1 => ?_
  walk_at "bbs"
  rw [List.length_map]
  refine i_max ?_
  rw [show (if ((p.rooms.length : Nat) : Int) > 1 then ((p.rooms.length : Nat) : Int) else 1) = (p.rooms.length : Nat) by split <;> omega]
  walk_at "bbs"
  refine c_draw hm (by omega) (by omega) fun r2 a2 b2 => ?_
  refine .done ?_
  walk_at "bbs"
  have t3 : Tm 3 (rowsD' p.rooms) := hw.tm (by omega)
  by_cases w0 : r1 = 0
  · rw [decide_eq_true w0]
    walk_at "bbs"
    refine c_bent_names (zs := p.letters) hm ok.ls.2.2.1 ok.ls.2.2.2 (fun z hz => name_len (ok.ls.1 z hz)) fun d hd => ?_
    walk_at "bbs"
    refine ⟨by show 3 ≤ sizeLine; omega, ?_⟩
    exact .done (q _ _ _ _ ⟨rfl, hd, t2, t3⟩)
  rw [decide_eq_false w0]
  walk_at "bbs"
  refine .done ?_
  walk_at "bbs"
  by_cases w1 : r1 = 1
  · rw [decide_eq_true w1]
    walk_at "bbs"
    refine c_bent_names (zs := p.signs) hm (by have := ok.ss.2.2.1; omega) ok.ss.2.2.2 (fun z hz => name_len (ok.ss.1 z hz)) fun d hd => ?_
    walk_at "bbs"
    refine ⟨by show 3 ≤ sizeLine; omega, ?_⟩
    exact .done (q _ _ _ _ ⟨rfl, t1, hd, t3⟩)
  rw [decide_eq_false w1]
  walk_at "bbs"
  refine .done ?_
  walk_at "bbs"
  have rne : (p.rooms.map fun r => D.tup (r.map doorD)) ≠ [] := fun e => by
    have := congrArg List.length e
    rw [List.length_map] at this
    simp at this
    rw [this] at hlo
    simp at hlo
  have cne : cutD (p.rooms.map fun r => D.tup (r.map doorD)) none (some 1) ≠ [] := fun e => by
    rw [show (1 : Int) = ((1 : Nat) : Int) from rfl, cut_to] at e
    cases hr : (p.rooms.map fun r => D.tup (r.map doorD)) with
    | nil => exact rne hr
    | cons x xs => rw [hr] at e; cases e
  by_cases w2 : r1 = 2
  · rw [decide_eq_true w2]
    walk_at "bbs"
    refine ⟨Nat.zero_le _, ?_⟩
    walk_at "bbs"
    refine i_mulR (m := 37) rne (by omega) (by rw [List.length_map]; omega) ?_
    walk_at "bbs"
    refine i_mulR (m := 36) cne (by omega) (Nat.le_trans hw.cut.2 (by omega)) ?_
    walk_at "bbs"
    refine i_mulR (m := 37) cne (by omega) (Nat.le_trans hw.cut.2 (by omega)) ?_
    walk_at "bbs"
    refine i_newF ?_
    walk_at "bbs"
    refine ⟨by show 8 ≤ sizeLine; omega, ?_⟩
    refine .done ?_
    walk_at "bbs"
    obtain ⟨row, hrow, er⟩ := room_at (M := M) (rs := p.rooms) (r := 0) (by omega) (by omega)
    refine i_rdo er ?_
    walk_at "bbs"
    refine ⟨by show 2 ≤ sizeLine; omega, ?_⟩
    refine i_rdoN (addD_lst (by show 8 + 2 ≤ sizeLine; omega)) ?_
    refine .done ?_
    walk_at "bbs"
    refine c_draw hm (by omega) (by omega) fun r3 a3 b3 => ?_
    refine ix_all (P := Tm 3) ?_ a3 (by show r3 < 10; omega) fun d hd => ?_
    · have c1 : Row1 2 1 (cutD (p.rooms.map fun r => D.tup (r.map doorD)) none (some 1)) := ⟨(hw.cut (lo := none) (hi := some 1)).1, by
        rw [show (1 : Int) = ((1 : Nat) : Int) from rfl, cut_to, List.length_take]; omega⟩
      refine all_app (all_cons tm_lst (all_cons (tm_tup all_nil (by decide)) (all_cons tm_non (all_cons (hw.cut.tm (by omega)) (all_cons ?_ (all_cons ?_ (all_cons ?_ (all_cons tm_dK all_nil)))))))) (all_cons ?_ (all_cons (tm_str (by decide)) all_nil))
      · exact rep_tm hw (by omega)
      · exact rep_tm c1 (by omega)
      · exact rep_tm c1 (by omega)
      · exact (row_doors (by rw [ok.row row hrow]; exact ok.ls.2.2.2) fun z m h => name_len (ok.ss.1 z (ok.door row hrow z m h).1)).tm (by omega)
    walk_at "bbs"
    refine ⟨by show 3 ≤ sizeLine; omega, ?_⟩
    exact .done (q _ _ _ _ ⟨rfl, t1, t2, hd⟩)
  rw [decide_eq_false w2]
  walk_at "bbs"
  refine .done ?_
  walk_at "bbs"
  obtain ⟨row, hrow, er⟩ := room_at (M := M) (rs := p.rooms) a2 b2
  refine i_rdo er ?_
  walk_at "bbs"
  rw [List.length_map]
  refine c_bent_doors (ss := p.signs) (many := p.rooms.length) hm (by rw [ok.row row hrow]; exact ok.ls.2.2.1) (by rw [ok.row row hrow]; exact ok.ls.2.2.2) (by have := ok.ss.2.2.1; omega) (fun z hz => name_len (ok.ss.1 z hz)) (fun z m h => name_len (ok.ss.1 z (ok.door row hrow z m h).1)) fun d hd => ?_
  refine .done ?_
  walk_at "bbs"
  refine ⟨by show 1 ≤ sizeLine; omega, ?_⟩
  refine i_addT hw.cut (one1 hd) (by omega) ?_
  walk_at "bbs"
  refine i_addT (hw.cut.app (one1 hd)) hw.cut (by omega) ?_
  walk_at "bbs"
  refine ⟨by show 3 ≤ sizeLine; omega, ?_⟩
  exact .done (q _ _ _ _ ⟨rfl, t1, t2, ((hw.cut.app (one1 hd)).app hw.cut).tm (by omega)⟩)
theorem c_bent {a c : Addr} {p : Pl} (hm : M a = some (.gen c)) (ok : p.Ok) (q : ∀ o' l s r, Parts o' l s r → Q o' M) : sp__law_bent K [.ref a, partsD p] M Q E := ⟨_, _, rfl, a, c, p, rfl, hm, ok, rfl, q⟩
end
end BB

set_option maxHeartbeats 8000000
namespace BB
open L2 PySem PySem.Spec PyProof.Rows
local macro_rules | `(tactic| walk_at "bb") => `(tactic| first
  | (with_reducible refine i_c ?_) | (with_reducible refine i_n ?_) | (with_reducible refine i_op ?_) | (with_reducible refine i_cons ?_) | (with_reducible refine i_nil ?_) | (with_reducible refine i_cb ?_)
  | (with_reducible refine i_seq ?_) | (with_reducible refine i_set ?_) | (with_reducible refine i_ret ?_) | (with_reducible refine i_if ?_) | (with_reducible refine i_drop ?_) | (with_reducible refine i_par ?_) | (with_reducible refine i_setF ?_) | (with_reducible refine i_raise ?_) | (with_reducible refine i_raiseI ?_) | (with_reducible refine i_asg ?_)
  | (with_reducible refine i_test ?_) | (with_reducible refine i_chain ?_) | (with_reducible refine i_tru ?_) | (with_reducible refine i_and ?_) | (with_reducible refine i_or ?_) | (with_reducible refine i_not ?_)
  | (with_reducible refine i_andv ?_) | (with_reducible refine i_orv ?_) | (with_reducible refine i_notv ?_) | (with_reducible refine i_ifx ?_) | (with_reducible refine i_tup ?_) | (with_reducible refine i_lst ?_) | (with_reducible refine i_lstM ?_)
  | (with_reducible refine i_neg ?_) | (with_reducible refine i_call ?_) | (with_reducible refine i_callK ?_) | (with_reducible refine i_meth ?_) | (with_reducible refine i_fld ?_) | (with_reducible refine i_tupIx ?_) | (with_reducible refine i_app ?_)
  | (with_reducible refine i_join ?_) | (with_reducible refine i_sl ?_) | (with_reducible refine i_part ?_) | (with_reducible refine i_nopart ?_) | (with_reducible refine i_next ?_) | (with_reducible refine i_retN ?_)
  | (with_reducible refine i_gname ?_) | (with_reducible refine i_gcons ?_) | (with_reducible refine i_gnil ?_) | (with_reducible refine i_seqI ?_) | (with_reducible refine i_rng1 ?_) | (with_reducible refine i_enum ?_) | (with_reducible refine i_zip2 ?_)
  | (with_reducible refine i_keys ?_) | (with_reducible refine i_updT ?_) | (with_reducible refine i_popI ?_) | (with_reducible refine i_lcM ?_) | (with_reducible refine i_parD ?_) | (with_reducible refine i_tupH ?_) | (with_reducible refine i_dispT ?_) | (with_reducible refine i_dget ?_) | (with_reducible refine i_dget1 ?_) | (with_reducible refine i_dget2 ?_) | (with_reducible refine i_dput ?_) | (with_reducible refine i_while ?_) | (with_reducible refine i_newT ?_) | (with_reducible refine i_newK ?_) | (with_reducible refine i_dispK ?_)
  | (with_reducible refine i_yes ?_) | (with_reducible refine i_for ?_) | (with_reducible refine i_lc ?_)
  | ((with_reducible refine i_var (d := ?bbd) ?bbh ?bbq); (case bbh => rfl)) | ((with_reducible refine i_rdo (d := ?bbd) ?bbh ?bbq); (case bbh => rfl); (try dsimp only)) | ((with_reducible refine i_rd1 (d := ?bbd) ?bbh ?bbq); (case bbh => rfl); (try dsimp only))
  | (with_reducible refine i_itt ?_) | (with_reducible refine i_nf ?_) | (with_reducible refine i_nt ?_) | (with_reducible refine i_itf ?_)
  | ((with_reducible show rdIsi _ _ _); first | refine i_isi rfl kb_int_int ?_ | refine i_isi rfl kb_int_bool ?_ | refine i_isi rfl kb_str_str ?_ | refine i_isi rfl kb_tup_tup ?_)
  | (with_reducible refine ⟨_, rfl, ?_⟩)
  | ((with_reducible show wkD _ _ _); first | refine wk_tup ?_ | refine wk_lst ?_ | refine wk_str ?_)
  | ((with_reducible show rdEq _ _ _ _); refine i_eqI ?_) | ((with_reducible show rdNe _ _ _ _); refine i_neI ?_)
  | ((with_reducible show ite _ _ _); refine i_itt ?_) | ((with_reducible show ite _ _ _); refine i_itf ?_))
local macro_rules | `(tactic| walk_at "bbs") => `(tactic| repeat walk_at "bb")

section
variable {K : PySem.W.Frag} {ds : List D} {M : Mem} {Q : DKt} {E : DX}
theorem c_parts {a c : Addr} {m lm sh : Int} (hm : M a = some (.gen c)) (h1 : 1 ≤ m) (h2 : m ≤ 36) (h3 : 1 ≤ lm) (h4 : lm ≤ 4) (h5 : 0 ≤ sh) (h6 : sh < 1000) (q : ∀ p : Pl, p.Ok → p.rooms.length = m.toNat → Q (partsD p) M) : sp__law_parts K [.ref a, .int m, .int lm, .int sh] M Q E := ⟨_, _, _, _, rfl, a, c, m, lm, sh, rfl, hm, rfl, rfl, rfl, h1, h2, h3, h4, h5, h6, q⟩
theorem c_begun {xs : List Int} (hl : xs.length ≤ 63) (q : ∀ a c, M a = none → M c = none → a ≠ c → Q (.ref a) (mset (mset M c (.own a)) a (.gen c))) : sp__law_begun K [.frz (xs.map .int)] M Q E := ⟨_, rfl, xs, rfl, hl, q⟩
theorem cutS_len {z : Str} {lo hi : Option Int} : (cutS z lo hi).length ≤ z.length := by
  rw [len_cps, len_cps]
  unfold cutS
  show (List.take _ (List.drop _ z.cps.toList)).toArray.toList.length ≤ _
  rw [List.toList_toArray, List.length_take, List.length_drop]
  omega
theorem app_len (x y : Str) : (x ++ y).length = x.length + y.length := by
  rw [len_cps, len_cps, len_cps, app_cps, List.length_append]
theorem i_addS {a b : Str} (h : a.length + b.length ≤ sizeLine) (q : Q (.str (a ++ b)) M) : rdO addD (.str a) (.str b) M Q := ⟨_, if_pos h, q⟩
theorem sl_str {z : Str} (h : z.length ≤ 1000) {lo hi : Option Int} : slD M (.str z) lo hi = some (.str (cutS z lo hi)) := if_pos (by rw [sizeLine_eq]; omega)
theorem i_reprB {b : Bool} (q : Q (.str (PyData.list [.bool b, .bool b]).shown) M) : rdRepr [nrm (.lst [.bl b, .bl b])] M Q := by
  refine ⟨_, .list [.bool b, .bool b], rfl, ?_, rfl, ?_, q⟩
  · show toPy (.lst [.bl b, .bl b]) = _
    rw [toPy, toPys, toPy, toPys, toPys]; rfl
  · cases b <;> exact ⟨by decide +kernel, by decide +kernel, by decide +kernel, by decide +kernel⟩
theorem ne_reprB {b : Bool} (q : Q (.bl false) M) : rdNe (nrm (.str (PyData.list [.bool b, .bool b]).shown)) (nrm (.str (PyData.list [.bool b, .bool b]).shown)) M Q := by
  refine i_neSame (p := .str (PyData.list [.bool b, .bool b]).shown) rfl rfl ?_ q
  cases b <;> decide +kernel
theorem ne_same {b : Bool} (q : Q (.bl false) M) : rdNe (nrm (.bl b)) (nrm (.bl b)) M Q := by
  refine i_neB ?_
  rw [show (!decide (b = b)) = false by simp]
  exact q
theorem ix03 {r : Int} (h0 : 0 ≤ r) (h1 : r < 2) : ∃ sh : Int, 0 ≤ sh ∧ sh < 1000 ∧ ∀ M, ixD M (.lst [.int 0, .int 3]) (.int r) = some (.int sh) := by
  have : r = 0 ∨ r = 1 := by omega
  rcases this with rfl | rfl
  · exact ⟨0, by omega, by omega, fun M => ix_lst (i := 0) rfl⟩
  · exact ⟨3, by omega, by omega, fun M => ix_lst (i := 1) rfl⟩
theorem lw_law (h : sp_law K ds M Q E) : rd_law K (wd E) (ends Q) (startD ["_law_script", "_law_state", "_law_turn", "_law_parts_here", "_law_name_here", "_law_at", "_law_odd", "_law_things", "_law_what", "_law_owed", "_law_k", "_law_bent_here"] ds) M := by
  obtain ⟨d, rfl, xs, rfl, hlen, h0, X, q⟩ := h
  have hs := sizeLine_eq
  unfold rd_law
  walk_at "bbs"
  refine c_begun (K := K) hlen fun a c ha hc hac => ?_
  have hm : (mset (mset M c (.own a)) a (.gen c)) a = some (.gen c) := mset_same
  have ht : Tidy (mset (mset M c (.own a)) a (.gen c)) := tidy0 h0 hac
  obtain ⟨M0, hM0⟩ : ∃ M0, M0 = mset (mset M c (.own a)) a (.gen c) := ⟨_, rfl⟩
  rw [← hM0] at hm ht ⊢
  refine .done ?_
  walk_at "bbs"
  refine ⟨by omega, by omega, ?_⟩
  refine ⟨fun i env M' => M' = M0 ∧ ∃ (x2 x3 x4 x5 x6 x7 x8 x9 x10 x11 : Option D), env = [some (.frz (xs.map .int)), some (.ref a), x2, x3, x4, x5, x6, x7, x8, x9, x10, x11],
    ⟨rfl, none, none, none, none, none, none, none, none, none, none, rfl⟩, fun _ _ _ _ => trivial, ?_, ?_⟩
  · rintro t d env M2 hd ⟨rfl, x2, x3, x4, x5, x6, x7, x8, x9, x10, x11, rfl⟩
    obtain ⟨hi, rfl⟩ := rng_at hd
    walk_at "bbs"
    refine c_draw hm (by omega) (by omega) fun r1 a1 b1 => ?_
    obtain ⟨j, rfl⟩ := Int.eq_ofNat_of_zero_le a1
    walk_at "bbs"
    obtain ⟨n, hn⟩ : ∃ n : Nat, (1 : Int) + j = n := ⟨1 + j, by omega⟩
    rw [hn]
    refine ⟨by show 2 ≤ sizeLine; omega, ?_⟩
    walk_at "bbs"
    refine c_draw hm (by omega) (by omega) fun r2 a2 b2 => ?_
    obtain ⟨sh, s1, s2, e1⟩ := ix03 a2 b2
    refine i_rdo (e1 _) ?_
    walk_at "bbs"
    refine c_parts (K := K) hm (by omega) (by omega) (by omega) (by omega) s1 s2 fun p ok hpl => ?_
    refine .done ?_
    walk_at "bbs"
    refine c_name hm fun z hz => ?_
    have hz6 := name_len hz
    refine .done ?_
    walk_at "bbs"
    refine i_rd1 (if_pos (by omega)) ?_
    walk_at "bbs"
    refine c_draw hm (by omega) (by omega) fun r3 a3 b3 => ?_
    refine .done ?_
    walk_at "bbs"
    refine ⟨by show 6 ≤ sizeLine; omega, ?_⟩
    walk_at "bbs"
    refine c_draw hm (by omega) (by omega) fun r4 a4 b4 => ?_
    refine ix_all (P := fun d => ∃ s : Str, s.length ≤ 1 ∧ d = .str s) ?_ a4 (by show r4 < 6; omega) fun d hd1 => ?_
    · exact all_cons ⟨_, by decide, rfl⟩ (all_cons ⟨_, by decide, rfl⟩ (all_cons ⟨_, by decide, rfl⟩ (all_cons ⟨_, by decide, rfl⟩ (all_cons ⟨_, by decide, rfl⟩ (all_cons ⟨_, by decide, rfl⟩ all_nil)))))
    obtain ⟨o1, ho1, rfl⟩ := hd1
    refine .done ?_
    walk_at "bbs"
    refine c_name hm fun y hy => ?_
    have hy6 := name_len hy
    walk_at "bbs"
    refine ⟨_, sl_str (by omega), ?_⟩
    walk_at "bbs"
    have k1 := cutS_len (z := z) (lo := none) (hi := some r3)
    have k2 := cutS_len (z := z) (lo := some r3) (hi := none)
    refine i_addS (by omega) ?_
    walk_at "bbs"
    refine ⟨_, sl_str (by omega), ?_⟩
    refine i_addS (by rw [app_len]; omega) ?_
    walk_at "bbs"
    refine ⟨by show 3 ≤ sizeLine; omega, ?_⟩
    refine .done ?_
    walk_at "bbs"
    obtain ⟨w, hw, ew⟩ := ix_strs (M := M2) (zs := p.letters) (r := 0) (by omega) (by have := ok.ls.2.2.1; omega)
    have hw6 := name_len (ok.ls.1 w hw)
    refine i_rdo ew ?_
    walk_at "bbs"
    refine ⟨by show 1 ≤ sizeLine; omega, ?_⟩
    walk_at "bbs"
    refine ⟨by show 8 ≤ sizeLine; omega, ?_⟩
    refine i_rdoN (addD_lst (by show 3 + 8 ≤ sizeLine; omega)) ?_
    walk_at "bbs"
    have hcut : (cutS z none (some r3) ++ o1 ++ cutS z (some r3) none).length ≤ 1000 := by rw [app_len, app_len]; omega
    refine ⟨fun i env M' => M' = M2 ∧ ∃ (x8 x9 : Option D), env = [some (.frz (xs.map .int)), some (.ref a), some (.int (0 + (t : Nat))), some (partsD p), some (.str z), some (.int r3), some (.str o1), some (.lst [.str y, .str (cutS z none (some r3) ++ o1 ++ cutS z (some r3) none), namesD p.letters]), x8, x9, x10, x11],
      ⟨rfl, _, _, rfl⟩, fun _ _ _ _ => trivial, ?_, ?_⟩
    · rintro u d env M3 hd2 ⟨rfl, x8, x9, rfl⟩
      have hT : Tm 0 d := by
        have hmem := List.mem_of_getElem? hd2
        refine all_app (all_cons (tm_str (by omega)) (all_cons (tm_str hcut) (all_cons ok.tms.1.less all_nil))) (all_cons (tm_str (by omega)) (all_cons (tm_str (by decide)) (all_cons tm_non (all_cons tm_int (all_cons tm_bl (all_cons tm_lst (all_cons (tm_str (by decide)) (all_cons (tm_str (by decide)) all_nil)))))))) d hmem
      walk_at "bbs"
      refine c_law_is_name hT ?_
      refine .done ?_
      walk_at "bbs"
      refine c_is_name hT ?_
      walk_at "bbs"
      refine ⟨rfl, rfl, c_is_name hT ?_⟩
      refine ⟨by show 2 ≤ sizeLine; omega, ?_⟩
      walk_at "bbs"
      refine i_reprB ?_
      walk_at "bbs"
      refine ⟨by show 2 ≤ sizeLine; omega, ?_⟩
      walk_at "bbs"
      refine i_reprB ?_
      refine ne_reprB ?_
      walk_at "bbs"
      exact .done ⟨rfl, _, _, rfl⟩
    · rintro env M3 ⟨rfl, x8, x9, rfl⟩
      refine .done ?_
      walk_at "bbs"
      refine c_taken ok.parts X ht ?_
      rw [goodB_of ok]
      walk_at "bbs"
      refine .done ?_
      walk_at "bbs"
      refine ⟨by omega, by omega, ?_⟩
      refine ⟨fun i env M' => M' = M3 ∧ ∃ (x10 x11 : Option D), env = [some (.frz (xs.map .int)), some (.ref a), some (.int (0 + (t : Nat))), some (partsD p), some (.str z), some (.int r3), some (.str o1), some (.lst [.str y, .str (cutS z none (some r3) ++ o1 ++ cutS z (some r3) none), namesD p.letters]), x8, x9, x10, x11],
        ⟨rfl, _, _, rfl⟩, fun _ _ _ _ => trivial, ?_, ?_⟩
      · rintro u d env M4 hd2 ⟨rfl, x10, x11, rfl⟩
        obtain ⟨hu, rfl⟩ := rng_at hd2
        walk_at "bbs"
        refine c_bent hm ok fun o l s r hP => ?_
        refine .done ?_
        walk_at "bbs"
        by_cases hk : (0 + (u : Int)) % 3 = 2
        · rw [decide_eq_true hk]
          walk_at "bbs"
          refine c_law_good hP ?_
          by_cases hg : goodB l s r = true
          · rw [hg]
            walk_at "bbs"
            obtain ⟨p2, ok2, e1, e2, e3⟩ := good_of hg
            have eo : o = partsD p2 := by rw [hP.1, e1, e2, e3]; rfl
            rw [eo]
            refine c_bent hm ok2 fun o2 l2 s2 r2 hP2 => ?_
            refine .done ?_
            walk_at "bbs"
            refine c_taken hP2 X ht ?_
            walk_at "bbs"
            refine c_law_good hP2 ?_
            refine ne_same ?_
            walk_at "bbs"
            exact .done ⟨rfl, _, _, rfl⟩
          · rw [Bool.eq_false_iff.mpr hg]
            walk_at "bbs"
            refine .done ?_
            walk_at "bbs"
            refine c_taken hP X ht ?_
            walk_at "bbs"
            refine c_law_good hP ?_
            refine ne_same ?_
            walk_at "bbs"
            exact .done ⟨rfl, _, _, rfl⟩
        · rw [decide_eq_false hk]
          walk_at "bbs"
          refine .done ?_
          walk_at "bbs"
          refine c_taken hP X ht ?_
          walk_at "bbs"
          refine c_law_good hP ?_
          refine ne_same ?_
          walk_at "bbs"
          exact .done ⟨rfl, _, _, rfl⟩
      · rintro env M4 ⟨rfl, x10, x11, rfl⟩
        refine .done ?_
        walk_at "bbs"
        exact ⟨rfl, _, _, _, _, _, _, _, _, _, _, rfl⟩
  · rintro env M2 ⟨rfl, x2, x3, x4, x5, x6, x7, x8, x9, x10, x11, rfl⟩
    refine .done ?_
    walk_at "bbs"
    exact .done (q _)
end
end BB

set_option maxHeartbeats 4000000
namespace BB
open L2 PySem PySem.Spec PyProof.Rows
local macro_rules | `(tactic| walk_at "bb") => `(tactic| first
  | (with_reducible refine i_c ?_) | (with_reducible refine i_n ?_) | (with_reducible refine i_op ?_) | (with_reducible refine i_cons ?_) | (with_reducible refine i_nil ?_) | (with_reducible refine i_cb ?_)
  | (with_reducible refine i_seq ?_) | (with_reducible refine i_set ?_) | (with_reducible refine i_ret ?_) | (with_reducible refine i_if ?_) | (with_reducible refine i_drop ?_) | (with_reducible refine i_par ?_) | (with_reducible refine i_setF ?_) | (with_reducible refine i_raise ?_) | (with_reducible refine i_raiseI ?_) | (with_reducible refine i_asg ?_)
  | (with_reducible refine i_test ?_) | (with_reducible refine i_chain ?_) | (with_reducible refine i_tru ?_) | (with_reducible refine i_and ?_) | (with_reducible refine i_or ?_) | (with_reducible refine i_not ?_)
  | (with_reducible refine i_andv ?_) | (with_reducible refine i_orv ?_) | (with_reducible refine i_notv ?_) | (with_reducible refine i_ifx ?_) | (with_reducible refine i_tup ?_) | (with_reducible refine i_lst ?_) | (with_reducible refine i_lstM ?_)
  | (with_reducible refine i_neg ?_) | (with_reducible refine i_call ?_) | (with_reducible refine i_callK ?_) | (with_reducible refine i_meth ?_) | (with_reducible refine i_fld ?_) | (with_reducible refine i_tupIx ?_) | (with_reducible refine i_app ?_)
  | (with_reducible refine i_join ?_) | (with_reducible refine i_sl ?_) | (with_reducible refine i_part ?_) | (with_reducible refine i_nopart ?_) | (with_reducible refine i_next ?_) | (with_reducible refine i_retN ?_)
  | (with_reducible refine i_gname ?_) | (with_reducible refine i_gcons ?_) | (with_reducible refine i_gnil ?_) | (with_reducible refine i_seqI ?_) | (with_reducible refine i_rng1 ?_) | (with_reducible refine i_enum ?_) | (with_reducible refine i_zip2 ?_)
  | (with_reducible refine i_yes ?_) | (with_reducible refine i_for ?_) | (with_reducible refine i_lc ?_)
  | ((with_reducible refine i_var (d := ?bbd) ?bbh ?bbq); (case bbh => rfl)) | ((with_reducible refine i_rdo (d := ?bbd) ?bbh ?bbq); (case bbh => rfl); (try dsimp only)) | ((with_reducible refine i_rd1 (d := ?bbd) ?bbh ?bbq); (case bbh => rfl); (try dsimp only))
  | (with_reducible refine i_itt ?_) | (with_reducible refine i_nf ?_) | (with_reducible refine i_nt ?_) | (with_reducible refine i_itf ?_)
  | ((with_reducible show rdIsi _ _ _); first | refine i_isi rfl kb_int_int ?_ | refine i_isi rfl kb_int_bool ?_ | refine i_isi rfl kb_str_str ?_ | refine i_isi rfl kb_tup_tup ?_)
  | (with_reducible refine ⟨_, rfl, ?_⟩)
  | ((with_reducible show wkD _ _ _); first | refine wk_tup ?_ | refine wk_lst ?_ | refine wk_str ?_)
  | ((with_reducible show rdEq _ _ _ _); refine i_eqI ?_) | ((with_reducible show rdNe _ _ _ _); refine i_neI ?_)
  | ((with_reducible show ite _ _ _); refine i_itt ?_) | ((with_reducible show ite _ _ _); refine i_itf ?_))
local macro_rules | `(tactic| walk_at "bbs") => `(tactic| repeat walk_at "bb")

section
/-- what the state of the draws keeps -/
def Good (cells : List Int) (p x : Int) : Prop := cells ≠ [] ∧ cells.length ≤ 64 ∧ (∀ z ∈ cells, 0 ≤ z) ∧ 0 ≤ p ∧ 0 ≤ x ∧ x < 2147483647
variable {K : PySem.W.Frag} {F I H : Hp} {M : Mem} {a c : Addr}
def openM (M : Mem) (a c : Addr) (cells : List Int) (p x : Int) : Mem := mset (mset M c (.lst (cells.map .int))) a (.lst [.ref c, .int p, .int x])
theorem openM_a {cells : List Int} {p x : Int} : openM M a c cells p x a = some (.lst [.ref c, .int p, .int x]) := mset_same
theorem openM_c {cells : List Int} {p x : Int} (h : c ≠ a) : openM M a c cells p x c = some (.lst (cells.map .int)) := by unfold openM; rw [mset_ne h, mset_same]
theorem openM_ne {cells : List Int} {p x : Int} {b : Addr} (h1 : b ≠ a) (h2 : b ≠ c) : openM M a c cells p x b = M b := by unfold openM; rw [mset_ne h1, mset_ne h2]
theorem At.explode (A : At K F I M H) (ha : M a = some (.gen c)) : ∃ cells p x, Good cells p x ∧ c ≠ a ∧ M c = some (.own a) ∧ At K F I (openM M a c cells p x) H := by
  obtain ⟨hIa, hca, hMc, cells, p, x, h1, h2, g1, g2, g3, g4, g5, g6⟩ := A.mem _ _ ha
  obtain ⟨hIc, _⟩ := A.mem _ _ hMc
  refine ⟨cells, p, x, ⟨g1, g2, g3, g4, g5, g6⟩, hca, hMc, A.ex, fun b u e => ?_, fun b u e => ?_, A.nt⟩
  · by_cases hb : b = a
    · subst hb
      rw [openM_a] at e
      cases e
      exact ⟨hIa, _, h1, .cons (.ref c) (.cons (.int p) (.cons (.int x) .nil))⟩
    · by_cases hbc : b = c
      · subst hbc
        rw [openM_c hca] at e
        cases e
        exact ⟨hIc, _, h2, Rps.ofInts cells⟩
      · rw [openM_ne hb hbc] at e
        obtain ⟨q1, q2⟩ := A.mem _ _ e
        refine ⟨q1, q2.mono (Ext.refl I) (fun _ _ _ hv => hv) (fun b' hb' => ?_)⟩
        rw [openM_ne (fun z => by subst z; rw [ha] at hb'; cases hb') (fun z => by subst z; rw [hMc] at hb'; cases hb'; exact hb rfl)]
        exact hb'
  · obtain ⟨q1, q2, q3⟩ := A.fr _ _ e
    exact ⟨q1, q2, by rw [openM_ne (fun z => by subst z; rw [ha] at q3; cases q3) (fun z => by subst z; rw [hMc] at q3; cases q3)]; exact q3⟩
theorem At.implode {cells : List Int} {p x : Int} (A : At K F I (openM M a c cells p x) H) (ha : M a = some (.gen c)) (hMc : M c = some (.own a)) (hca : c ≠ a) (g : Good cells p x) : At K F I M H := by
  obtain ⟨hIa, va, h1, r1⟩ := A.mem _ _ openM_a
  obtain ⟨hIc, vc, h2, r2⟩ := A.mem _ _ (openM_c hca)
  have e2 := r2.ints
  obtain ⟨v1, s1, rfl, k1, r1⟩ := r1.cons_inv
  obtain ⟨v2, v3, rfl, k2, k3⟩ := r1.two_inv
  have e3 := k1.ref_inv
  have e4 := k2.int_inv
  have e5 := k3.int_inv
  subst e2 e3 e4 e5
  refine ⟨A.ex, fun b u e => ?_, fun b u e => ?_, A.nt⟩
  · by_cases hb : b = a
    · subst hb
      rw [ha] at e
      cases e
      exact ⟨hIa, hca, hMc, cells, p, x, h1, h2, g⟩
    · by_cases hbc : b = c
      · subst hbc
        rw [hMc] at e
        cases e
        exact ⟨hIc, _, h2, .inr ⟨_, rfl⟩⟩
      · obtain ⟨q1, q2⟩ := A.mem b u (by rw [openM_ne hb hbc]; exact e)
        refine ⟨q1, q2.mono (Ext.refl I) (fun _ _ _ hv => hv) (fun b' hb' => ?_)⟩
        by_cases z1 : b' = a
        · subst z1; rw [openM_a] at hb'; cases hb'
        · by_cases z2 : b' = c
          · subst z2; rw [openM_c hca] at hb'; cases hb'
          · rw [openM_ne z1 z2] at hb'; exact hb'
  · obtain ⟨q1, q2, q3⟩ := A.fr _ _ e
    refine ⟨q1, q2, ?_⟩
    have z1 : b ≠ a := fun z => by subst z; rw [openM_a] at q3; cases q3
    have z2 : b ≠ c := fun z => by subst z; rw [openM_c hca] at q3; cases q3
    rw [openM_ne z1 z2] at q3
    exact q3
end

/-! ### a new list of the store by + -/
def rdAddM : RD2 := fun x y M Q => ∃ xs ys, lstOf M x = some xs ∧ lstOf M y = some ys ∧ xs.length + ys.length ≤ sizeLine ∧ ∀ p, M p = none → Q (.ref p) (mset M p (.lst (xs ++ ys)))
theorem snd_addM {X : Cx} : SndR X (rAddA X.K) rdAddM := by
  intro Δ I M H σ env G x y dx dy rx ry Q Qd k ⟨xs, ys, e1, e2, hz, q⟩
  obtain ⟨p1, v1, rfl, h1, r1⟩ := lst_of G.at_ rx e1
  obtain ⟨p2, v2, rfl, h2, r2⟩ := lst_of G.at_ ry e2
  refine .inr (.inr (.inr ⟨p1, p2, v1, v2, rfl, rfl, h1, h2, by rw [r1.length, r2.length]; exact hz, fun p hp => ?_⟩))
  exact k _ _ _ _ _ (Ext.refl I) (G.newM hp (.lst (v1 ++ v2)) (.lst (xs ++ ys)) ⟨_, upd_same, r1.append r2⟩) (.ref p) (q p (G.at_.freeM hp))
theorem wk_frz {M : Mem} {xs : List D} {R : List D → (Mem → Prop) → Mem → Prop} (q : R xs (fun _ => True) M) : wkD M (.frz xs) R := q
theorem i_gsub {da db : DE} {d : D} {env : Env} {M : Mem} {P : Env → Mem → Prop} (q : da env M fun o M1 => db env M1 fun i M2 => ∃ p xs k j, o = .ref p ∧ i = .int k ∧ M2 p = some (.lst xs) ∧ ixN xs.length k = some j ∧ P env (mset M2 p (.lst (xs.set j d)))) : gdSub da db d env M P := q
/-! ### the draws, their state open -/
def spX_draw : SpD := fun ds M1 Q E => ∃ a c M cells p x m, ds = [.ref a, .int m] ∧ c ≠ a ∧ M1 = openM M a c cells p x ∧ Good cells p x ∧ 0 < m ∧ m < 1073741824 ∧
  ∀ cells' p' x' r, Good cells' p' x' → 0 ≤ r → r < m → Q (.int r) (openM M a c cells' p' x')
def rdX_draw : DS :=
  (dSeq (dSet 2 (dOp (rdO ixD) (dN (dVar 0)) (dC (.int 0))))
  (dSeq (dSet 3 (dOp (rdO modD) (dN (dOp (rdO ixD) (dN (dVar 0)) (dC (.int 1)))) (dN (dCB (rd1 lenD) (dCons (dN (dVar 2)) (dNil))))))
  (dSeq (dSet 4 (dOp (rdO ixD) (dN (dVar 2)) (dVar 3)))
  (dSeq (dIfS (dTest (dOp (rdO (intD fun i j => decide (i ≥ j))) (dN (dVar 4)) (dN (dC (.int 1000000000000000000))))) (dSeq (dAsg (dOp (rdO divD) (dN (dVar 4)) (dN (dVar 1))) (gdSub (dVar 2) (dVar 3)))
  (dRet (dOp (rdO modD) (dN (dVar 4)) (dN (dVar 1))))) dNext)
  (dSeq (dAsg (dOp (rdO addD) (dN (dOp (rdO ixD) (dN (dVar 0)) (dC (.int 1)))) (dN (dC (.int 1)))) (gdSub (dVar 0) (dC (.int 1))))
  (dSeq (dAsg (dOp (rdO modD) (dN (dOp (rdO addD) (dN (dOp (rdO addD) (dN (dOp (rdO mulE) (dN (dOp (rdO ixD) (dN (dVar 0)) (dC (.int 2)))) (dN (dC (.int 48271))))) (dN (dVar 4)))) (dN (dC (.int 12345))))) (dN (dC (.int 2147483647)))) (gdSub (dVar 0) (dC (.int 2))))
  (dRet (dOp (rdO modD) (dN (dOp (rdO divD) (dN (dOp (rdO modD) (dN (dOp (rdO mulE) (dN (dOp (rdO ixD) (dN (dVar 0)) (dC (.int 2)))) (dN (dOp (rdO ixD) (dN (dVar 0)) (dC (.int 2)))))) (dN (dC (.int 2147483629))))) (dN (dC (.int 16))))) (dN (dVar 1))))))))))
section
variable {K : PySem.W.Frag} {ds : List D} {M : Mem} {Q : DKt} {E : DX}
theorem ixN_nat {n j : Nat} (h : j < n) : ixN n (j : Int) = some j := by
  unfold ixN
  rw [if_pos (by omega), if_pos (by omega), Int.toNat_natCast]
theorem openM_re {a c : Addr} {cells : List Int} {p x p' x' : Int} : mset (openM M a c cells p x) a (.lst [.ref c, .int p', .int x']) = openM M a c cells p' x' := by unfold openM; rw [mset_mset]
theorem mulE_int {i j : Int} (h : (-(2 ^ 64) < i ∧ i < 2 ^ 64) ∨ (-(2 ^ 64) < j ∧ j < 2 ^ 64)) : mulE M (.int i) (.int j) = some (.int (i * j)) := if_pos h
theorem lwX_draw (h : spX_draw ds M Q E) : rdX_draw (ends Q) (startD ["_law_state", "_law_many", "_law_cells", "_law_at", "_law_cell"] ds) M := by
  obtain ⟨a, c, M0, cells, p, x, m, rfl, hca, rfl, ⟨g1, g2, g3, g4, g5, g6⟩, h0, h1, q⟩ := h
  have hs := sizeLine_eq
  have hlen : 0 < cells.length := List.length_pos_iff.mpr g1
  unfold rdX_draw
  walk_at "bbs"
  refine i_ixRef openM_a (ix_lst (i := 0) rfl) ?_
  refine .done ?_
  walk_at "bbs"
  refine i_ixRef openM_a (ix_lst (i := 1) rfl) ?_
  walk_at "bbs"
  refine i_rd1 (d := .int cells.length) (by show (seqOf _ _).map _ = _; rw [show nrm (D.ref c) = D.ref c from rfl, seqOf_ref (openM_c hca)]; simp) ?_
  refine i_rdo (modD_int (by omega)) ?_
  refine .done ?_
  obtain ⟨j, hj⟩ : ∃ j : Nat, p % (cells.length : Int) = (j : Int) := ⟨(p % (cells.length : Int)).toNat, by have := Int.emod_nonneg p (show (cells.length : Int) ≠ 0 by omega); omega⟩
  have hjl : j < cells.length := by have := Int.emod_lt_of_pos p (show (0 : Int) < cells.length by omega); omega
  rw [hj]
  walk_at "bbs"
  refine i_ixRef (openM_c hca) (ix_lst (i := j) (d := .int cells[j]) (by simp [hjl])) ?_
  have hcj : 0 ≤ cells[j] := g3 _ (List.getElem_mem hjl)
  refine .done ?_
  walk_at "bbs"
  by_cases hbig : cells[j] ≥ 1000000000000000000
  · rw [decide_eq_true hbig]
    walk_at "bbs"
    refine i_rdo (divD_int ⟨h0, h1⟩) ?_
    refine i_gsub ?_
    walk_at "bbs"
    refine ⟨c, _, (j : Int), j, rfl, rfl, openM_c hca, by rw [List.length_map]; exact ixN_nat hjl, ?_⟩
    refine .done ?_
    walk_at "bbs"
    refine i_rdo (modD_int h0) ?_
    refine .done ?_
    have key := q (cells.set j (cells[j] / m)) p x (cells[j] % m) ⟨fun e => g1 (List.eq_nil_of_length_eq_zero (by have h3 := congrArg List.length e; rw [List.length_set] at h3; exact h3)), by rw [List.length_set]; exact g2, fun z hz => ?_, g4, g5, g6⟩ (Int.emod_nonneg _ (by omega)) (Int.emod_lt_of_pos _ h0)
    · unfold openM at key ⊢
      rw [mset_comm hca.symm, mset_mset, ← List.map_set]
      exact key
    · rcases List.mem_or_eq_of_mem_set hz with hz | hz
      · exact g3 z hz
      · rw [hz]; exact Int.ediv_nonneg hcj (by omega)
  · rw [decide_eq_false hbig]
    walk_at "bbs"
    refine .done ?_
    walk_at "bbs"
    refine i_ixRef openM_a (ix_lst (i := 1) rfl) ?_
    walk_at "bbs"
    refine i_gsub ?_
    walk_at "bbs"
    refine ⟨a, _, 1, 1, rfl, rfl, openM_a, rfl, ?_⟩
    have r1 : mset (openM M0 a c cells p x) a (.lst (List.set [D.ref c, .int p, .int x] 1 (.int (p + 1)))) = openM M0 a c cells (p + 1) x := openM_re
    rw [r1]
    refine .done ?_
    walk_at "bbs"
    refine i_ixRef openM_a (ix_lst (i := 2) rfl) ?_
    walk_at "bbs"
    refine i_rdoN (mulE_int (.inl ⟨by omega, by omega⟩)) ?_
    walk_at "bbs"
    obtain ⟨x2, hx2⟩ : ∃ x2 : Int, x2 = (x * 48271 + cells[j] + 12345) % 2147483647 := ⟨_, rfl⟩
    have k1 : 0 ≤ x2 := by rw [hx2]; exact Int.emod_nonneg _ (by omega)
    have k2 : x2 < 2147483647 := by rw [hx2]; exact Int.emod_lt_of_pos _ (by omega)
    rw [← hx2]
    refine i_gsub ?_
    walk_at "bbs"
    refine ⟨a, _, 2, 2, rfl, rfl, openM_a, rfl, ?_⟩
    have r2 : mset (openM M0 a c cells (p + 1) x) a (.lst (List.set [D.ref c, .int (p + 1), .int x] 2 (.int x2))) = openM M0 a c cells (p + 1) x2 := openM_re
    rw [r2]
    refine .done ?_
    walk_at "bbs"
    refine i_ixRef openM_a (ix_lst (i := 2) rfl) ?_
    walk_at "bbs"
    refine i_ixRef openM_a (ix_lst (i := 2) rfl) ?_
    refine i_rdoN (mulE_int (.inl ⟨by omega, by omega⟩)) ?_
    walk_at "bbs"
    refine i_rdo (modD_int h0) ?_
    exact .done (q cells (p + 1) x2 _ ⟨g1, g2, g3, by omega, k1, k2⟩ (Int.emod_nonneg _ (by omega)) (Int.emod_lt_of_pos _ h0))
/-! the begin -/
def spX_begun : SpD := spN1 fun d M Q E => ∃ xs : List Int, d = .frz (xs.map .int) ∧ xs.length ≤ 63 ∧ ∀ a c cells, M a = none → M c = none → c ≠ a → Good cells 0 1 → Q (.ref a) (openM M a c cells 0 1)
def rdX_begun : DS :=
  (dRet (dLstM (dCons (dOp rdAddM (dN (dLc (dSeqI (dN (dVar 0))) (gdName 1) dYes (dCB (rd1 absD) (dCons (dN (dVar 1)) (dNil))) [1])) (dN (dOp (rdO mulE) (dN (dLst (dCons (dC (.int 1)) (dNil)))) (dN (dCB (rd1 intOfD) (dCons (dN (dOp (rdEq) (dN (dCB (rd1 lenD) (dCons (dN (dVar 0)) (dNil)))) (dN (dC (.int 0))))) (dNil))))))) (dCons (dC (.int 0)) (dCons (dC (.int 1)) (dNil))))))
theorem lwX_begun (h : spX_begun ds M Q E) : rdX_begun (ends Q) (startD ["_law_script", "_law_cell"] ds) M := by
  obtain ⟨d, rfl, xs, rfl, hl, q⟩ := h
  have hs := sizeLine_eq
  unfold rdX_begun
  walk_at "bbs"
  refine wk_frz ?_
  refine ⟨by rw [List.length_map]; omega, fun i acc M' => M' = M ∧ acc = (xs.take i).map (fun z => D.int (if z < 0 then -z else z)), ⟨rfl, rfl⟩, fun _ _ _ _ => trivial, ?_, ?_⟩
  · rintro i d acc M2 hd ⟨rfl, rfl⟩
    rw [List.getElem?_map] at hd
    cases hz : xs[i]? with
    | none => rw [hz] at hd; cases hd
    | some z =>
      rw [hz] at hd
      cases hd
      walk_at "bbs"
      exact ⟨rfl, take_map_succ (fun z => D.int (if z < 0 then -z else z)) hz⟩
  · rintro acc M2 ⟨rfl, rfl⟩
    rw [List.length_map, List.take_length]
    walk_at "bbs"
    refine ⟨by show 1 ≤ sizeLine; omega, ?_⟩
    walk_at "bbs"
    rw [List.length_map]
    obtain ⟨n, hn, hn1⟩ : ∃ n : Nat, (if decide ((xs.length : Int) = 0) = true then (1 : Int) else 0) = (n : Int) ∧ (n = 1 ∧ xs = [] ∨ n = 0 ∧ xs ≠ []) := by
      by_cases h : xs = []
      · exact ⟨1, by rw [h]; rfl, .inl ⟨rfl, h⟩⟩
      · refine ⟨0, ?_, .inr ⟨rfl, h⟩⟩
        have h2 : ¬ (xs.length : Int) = 0 := fun e => h (List.eq_nil_of_length_eq_zero (by omega))
        rw [decide_eq_false h2]
        rfl
    rw [hn]
    have hn2 : n ≤ 1 := by omega
    have hmul : mulD M2 (.lst [.int 1]) (.int (n : Int)) = some (.lst (List.replicate ((n : Nat) : Int).toNat [D.int 1]).flatten) := by
      refine mulD_lst ⟨by omega, by omega, ?_⟩
      rw [Int.toNat_natCast, List.length_singleton, Nat.one_mul]
      exact Nat.le_trans hn2 (by rw [sizeLine_eq]; omega)
    refine i_rdoN hmul ?_
    have hrep : (List.replicate ((n : Nat) : Int).toNat [D.int 1]).flatten = (List.replicate n (1 : Int)).map D.int := by
      rw [Int.toNat_natCast]
      rcases hn1 with ⟨rfl, _⟩ | ⟨rfl, _⟩ <;> rfl
    rw [hrep]
    refine ⟨_, _, rfl, rfl, by rw [List.length_map, List.length_map, List.length_replicate]; omega, fun c hc => ?_⟩
    walk_at "bbs"
    refine ⟨by show 3 ≤ sizeLine; omega, fun a ha => ?_⟩
    have hca : c ≠ a := fun e => by rw [e, mset_same] at ha; cases ha
    have ha0 : M2 a = none := by rw [mset_ne hca.symm] at ha; exact ha
    refine .done ?_
    have key := q a c (xs.map (fun z => if z < 0 then -z else z) ++ List.replicate n 1) ha0 hc hca ⟨?_, ?_, ?_, by omega, by omega, by omega⟩
    · unfold openM at key
      rw [List.map_append, List.map_map] at key
      exact key
    · intro e
      obtain ⟨e1, e2⟩ := List.append_eq_nil_iff.mp e
      rcases hn1 with ⟨rfl, _⟩ | ⟨rfl, h⟩
      · cases e2
      · exact h (List.map_eq_nil_iff.mp e1)
    · rw [List.length_append, List.length_map, List.length_replicate]
      omega
    · intro z hz
      rcases List.mem_append.mp hz with hz | hz
      · obtain ⟨y, _, rfl⟩ := List.mem_map.mp hz
        split <;> omega
      · rw [(List.mem_replicate.mp hz).2]; omega
end
end BB

set_option maxHeartbeats 4000000

namespace BB
open L2 PySem PySem.Spec PyProof.Rows
/-! the text: where each def stands: printed by gen.py -/
def top (i : Nat) : Stmt := PySem.Challenge.pw_barredbox_k01_names_and_plans_known.main.body.getD i (.Pass ⟨0, 0, 0, 0⟩)
def mth (s : Stmt) (j : Nat) : Stmt := match s with
  | .ClassDef _ _ _ body _ _ _ _ _ _ _ => body.getD j (.Pass ⟨0, 0, 0, 0⟩)
  | _ => s
/-- what of the text is leant on -/
structure Fx (K : PySem.W.Frag) (mg : Str → Option Value) : Prop where
  d__law_begun : ∃ fd, FunD K "_law_begun" "_law_begun" (defArgs (top 23)) (defBody (top 23)) (defScope (top 23)) [] [] (He.ga K "_law_begun") fd
  d__law_draw : ∃ fd, FunD K "_law_draw" "_law_draw" (defArgs (top 24)) (defBody (top 24)) (defScope (top 24)) [] [] (He.ga K "_law_draw") fd
  d__law_name : ∃ fd, FunD K "_law_name" "_law_name" (defArgs (top 25)) (defBody (top 25)) (defScope (top 25)) [] [] (He.ga K "_law_name") fd
  d__law_names : ∃ fd, FunD K "_law_names" "_law_names" (defArgs (top 26)) (defBody (top 26)) (defScope (top 26)) [] [] (He.ga K "_law_names") fd
  d__law_parts : ∃ fd, FunD K "_law_parts" "_law_parts" (defArgs (top 27)) (defBody (top 27)) (defScope (top 27)) [] [] (He.ga K "_law_parts") fd
  d__law_is_name : ∃ fd, FunD K "_law_is_name" "_law_is_name" (defArgs (top 28)) (defBody (top 28)) (defScope (top 28)) [] [] (He.ga K "_law_is_name") fd
  d_is_name : ∃ fd, FunD K "is_name" "is_name" (defArgs (top 16)) (defBody (top 16)) (defScope (top 16)) [] [] (He.ga K "is_name") fd
  d_are_names : ∃ fd, FunD K "are_names" "are_names" (defArgs (top 18)) (defBody (top 18)) (defScope (top 18)) [] [] (He.ga K "are_names") fd
  d_is_count : ∃ fd, FunD K "is_count" "is_count" (defArgs (top 17)) (defBody (top 17)) (defScope (top 17)) [] [] (He.ga K "is_count") fd
  d_is_door : ∃ fd, FunD K "is_door" "is_door" (defArgs (top 19)) (defBody (top 19)) (defScope (top 19)) [] [] (He.ga K "is_door") fd
  d_are_rooms : ∃ fd, FunD K "are_rooms" "are_rooms" (defArgs (top 20)) (defBody (top 20)) (defScope (top 20)) [] [] (He.ga K "are_rooms") fd
  d_Plan___init__ : ∃ fd, FunD K "__init__" "Plan.__init__" (defArgs (mth (top 21) 0)) (defBody (mth (top 21) 0)) (defScope (mth (top 21) 0)) [] [] (He.ma K (He.ga K "Plan") "__init__") fd
  d__law_taken : ∃ fd, FunD K "_law_taken" "_law_taken" (defArgs (top 35)) (defBody (top 35)) (defScope (top 35)) [] [] (He.ga K "_law_taken") fd
  d__law_bent_names : ∃ fd, FunD K "_law_bent_names" "_law_bent_names" (defArgs (top 32)) (defBody (top 32)) (defScope (top 32)) [] [] (He.ga K "_law_bent_names") fd
  d__law_bent_doors : ∃ fd, FunD K "_law_bent_doors" "_law_bent_doors" (defArgs (top 33)) (defBody (top 33)) (defScope (top 33)) [] [] (He.ga K "_law_bent_doors") fd
  d__law_bent : ∃ fd, FunD K "_law_bent" "_law_bent" (defArgs (top 34)) (defBody (top 34)) (defScope (top 34)) [] [] (He.ga K "_law_bent") fd
  d__law_are_names : ∃ fd, FunD K "_law_are_names" "_law_are_names" (defArgs (top 29)) (defBody (top 29)) (defScope (top 29)) [] [] (He.ga K "_law_are_names") fd
  d__law_is_door : ∃ fd, FunD K "_law_is_door" "_law_is_door" (defArgs (top 30)) (defBody (top 30)) (defScope (top 30)) [] [] (He.ga K "_law_is_door") fd
  d__law_good : ∃ fd, FunD K "_law_good" "_law_good" (defArgs (top 31)) (defBody (top 31)) (defScope (top 31)) [] [] (He.ga K "_law_good") fd
  d_law : ∃ fd, FunD K "law" "law" (defArgs (top 36)) (defBody (top 36)) (defScope (top 36)) [] [] (He.ga K "law") fd
  b_ValueError : mg "ValueError" = none
  b_abs : mg "abs" = none
  b_all : mg "all" = none
  b_bool : mg "bool" = none
  b_dict : mg "dict" = none
  b_int : mg "int" = none
  b_isinstance : mg "isinstance" = none
  b_len : mg "len" = none
  b_list : mg "list" = none
  b_max : mg "max" = none
  b_range : mg "range" = none
  b_repr : mg "repr" = none
  b_set : mg "set" = none
  b_sorted : mg "sorted" = none
  b_str : mg "str" = none
  b_tuple : mg "tuple" = none
  b_zip : mg "zip" = none
  cl_Plan : Cls K (He.ga K "Plan")
  e_NoPlan : (He.Fa.exc "NoPlan").ok K = true
  exm_NoPlan_BoxError : PySem.W.exmOne K (.ref (He.ga K "NoPlan")) (.ref (He.ga K "BoxError")) = some true
  g_BoxError : mg "BoxError" = some (.ref (He.ga K "BoxError"))
  g_NoDeed : mg "NoDeed" = some (.ref (He.ga K "NoDeed"))
  g_NoName : mg "NoName" = some (.ref (He.ga K "NoName"))
  g_NoPlan : mg "NoPlan" = some (.ref (He.ga K "NoPlan"))
  g_NoRoom : mg "NoRoom" = some (.ref (He.ga K "NoRoom"))
  g_NoText : mg "NoText" = some (.ref (He.ga K "NoText"))
  g_NoWord : mg "NoWord" = some (.ref (He.ga K "NoWord"))
  g_Plan : mg "Plan" = some (.ref (He.ga K "Plan"))
  g__law_are_names : mg "_law_are_names" = some (.ref (He.ga K "_law_are_names"))
  g__law_begun : mg "_law_begun" = some (.ref (He.ga K "_law_begun"))
  g__law_bent : mg "_law_bent" = some (.ref (He.ga K "_law_bent"))
  g__law_bent_doors : mg "_law_bent_doors" = some (.ref (He.ga K "_law_bent_doors"))
  g__law_bent_names : mg "_law_bent_names" = some (.ref (He.ga K "_law_bent_names"))
  g__law_draw : mg "_law_draw" = some (.ref (He.ga K "_law_draw"))
  g__law_good : mg "_law_good" = some (.ref (He.ga K "_law_good"))
  g__law_is_door : mg "_law_is_door" = some (.ref (He.ga K "_law_is_door"))
  g__law_is_name : mg "_law_is_name" = some (.ref (He.ga K "_law_is_name"))
  g__law_name : mg "_law_name" = some (.ref (He.ga K "_law_name"))
  g__law_names : mg "_law_names" = some (.ref (He.ga K "_law_names"))
  g__law_parts : mg "_law_parts" = some (.ref (He.ga K "_law_parts"))
  g__law_taken : mg "_law_taken" = some (.ref (He.ga K "_law_taken"))
  g_are_names : mg "are_names" = some (.ref (He.ga K "are_names"))
  g_are_rooms : mg "are_rooms" = some (.ref (He.ga K "are_rooms"))
  g_is_count : mg "is_count" = some (.ref (He.ga K "is_count"))
  g_is_door : mg "is_door" = some (.ref (He.ga K "is_door"))
  g_is_name : mg "is_name" = some (.ref (He.ga K "is_name"))
  g_law : mg "law" = some (.ref (He.ga K "law"))
  i_LEAST_SIGNS : ∃ t, mg "LEAST_SIGNS" = some (.int 2 t)
  i_MOST_LETTERS : ∃ t, mg "MOST_LETTERS" = some (.int 4 t)
  i_MOST_NAME : ∃ t, mg "MOST_NAME" = some (.int 6 t)
  i_MOST_ROOMS : ∃ t, mg "MOST_ROOMS" = some (.int 36 t)
  i_MOST_SIGNS : ∃ t, mg "MOST_SIGNS" = some (.int 4 t)
  kit_NoPlan_NoDeed : PySem.W.kitOne K (.ref (He.ga K "NoPlan")) (.ref (He.ga K "NoDeed")) = some false
  kit_NoPlan_NoName : PySem.W.kitOne K (.ref (He.ga K "NoPlan")) (.ref (He.ga K "NoName")) = some false
  kit_NoPlan_NoPlan : PySem.W.kitOne K (.ref (He.ga K "NoPlan")) (.ref (He.ga K "NoPlan")) = some true
  kit_NoPlan_NoRoom : PySem.W.kitOne K (.ref (He.ga K "NoPlan")) (.ref (He.ga K "NoRoom")) = some false
  kit_NoPlan_NoText : PySem.W.kitOne K (.ref (He.ga K "NoPlan")) (.ref (He.ga K "NoText")) = some false
  kit_NoPlan_NoWord : PySem.W.kitOne K (.ref (He.ga K "NoPlan")) (.ref (He.ga K "NoWord")) = some false
  kitB_NoPlan_ValueError : PySem.W.kitOne K (.ref (He.ga K "NoPlan")) (.type "ValueError") = some true
  mk_Plan : Mk K (He.ga K "Plan") (He.ma K (He.ga K "Plan") "__init__")
  na_Plan_own_letters : NoAttr K (He.ga K "Plan") "own_letters"
  na_Plan_own_rooms : NoAttr K (He.ga K "Plan") "own_rooms"
  na_Plan_own_signs : NoAttr K (He.ga K "Plan") "own_signs"
  s_SMALL : ∃ t, mg "SMALL" = some (.str "abcdefghijklmnopqrstuvwxyz" t)
  xq_NoPlan : ExcQ K (He.ga K "NoPlan")
theorem sc__law_begun : FnScope ["_law_script", "_law_cell"] ["_law_script"] (defScope (top 23)) := ⟨rfl, rfl, rfl, by decide +kernel, rfl, by decide +kernel, by decide +kernel⟩
theorem sc__law_draw : FnScope ["_law_state", "_law_many", "_law_cells", "_law_at", "_law_cell"] ["_law_state", "_law_many"] (defScope (top 24)) := ⟨rfl, rfl, rfl, by decide +kernel, rfl, by decide +kernel, by decide +kernel⟩
theorem sc__law_name : FnScope ["_law_state", "_law_size", "_law_k"] ["_law_state"] (defScope (top 25)) := ⟨rfl, rfl, rfl, by decide +kernel, rfl, by decide +kernel, by decide +kernel⟩
theorem sc__law_names : FnScope ["_law_state", "_law_many", "_law_some", "_law_name_here", "_law_others", "_law_sign", "_law_one"] ["_law_state", "_law_many"] (defScope (top 26)) := ⟨rfl, rfl, rfl, by decide +kernel, rfl, by decide +kernel, by decide +kernel⟩
theorem sc__law_parts : FnScope ["_law_state", "_law_many", "_law_most_letters", "_law_shut", "_law_names_here", "_law_marks", "_law_halls", "_law_k", "_law_doors", "_law_name_here", "_law_door"] ["_law_state", "_law_many", "_law_most_letters", "_law_shut"] (defScope (top 27)) := ⟨rfl, rfl, rfl, by decide +kernel, rfl, by decide +kernel, by decide +kernel⟩
theorem sc__law_is_name : FnScope ["_law_what", "_law_sign"] ["_law_what"] (defScope (top 28)) := ⟨rfl, rfl, rfl, by decide +kernel, rfl, by decide +kernel, by decide +kernel⟩
theorem sc_is_name : FnScope ["thing", "sign"] ["thing"] (defScope (top 16)) := ⟨rfl, rfl, rfl, by decide +kernel, rfl, by decide +kernel, by decide +kernel⟩
theorem sc_are_names : FnScope ["thing", "least", "most", "one", "other"] ["thing", "least", "most"] (defScope (top 18)) := ⟨rfl, rfl, rfl, by decide +kernel, rfl, by decide +kernel, by decide +kernel⟩
theorem sc_is_count : FnScope ["thing"] ["thing"] (defScope (top 17)) := ⟨rfl, rfl, rfl, by decide +kernel, rfl, by decide +kernel, by decide +kernel⟩
theorem sc_is_door : FnScope ["thing", "signs", "many"] ["thing", "signs", "many"] (defScope (top 19)) := ⟨rfl, rfl, rfl, by decide +kernel, rfl, by decide +kernel, by decide +kernel⟩
theorem sc_are_rooms : FnScope ["thing", "letters", "signs", "doors", "door"] ["thing", "letters", "signs"] (defScope (top 20)) := ⟨rfl, rfl, rfl, by decide +kernel, rfl, by decide +kernel, by decide +kernel⟩
theorem sc_Plan___init__ : FnScope ["self", "letters", "signs", "rooms"] ["self", "letters", "signs", "rooms"] (defScope (mth (top 21) 0)) := ⟨rfl, rfl, rfl, by decide +kernel, rfl, by decide +kernel, by decide +kernel⟩
theorem sc__law_taken : FnScope ["_law_parts_here", "_law_caught", "e", "_law_others"] ["_law_parts_here"] (defScope (top 35)) := ⟨rfl, rfl, rfl, by decide +kernel, rfl, by decide +kernel, by decide +kernel⟩
theorem sc__law_bent_names : FnScope ["_law_state", "_law_names_here", "_law_at", "_law_odd", "_law_some", "_law_one"] ["_law_state", "_law_names_here"] (defScope (top 32)) := ⟨rfl, rfl, rfl, by decide +kernel, rfl, by decide +kernel, by decide +kernel⟩
theorem sc__law_bent_doors : FnScope ["_law_state", "_law_doors", "_law_marks", "_law_many", "_law_at", "_law_door", "_law_odd", "_law_other", "_law_some"] ["_law_state", "_law_doors", "_law_marks", "_law_many"] (defScope (top 33)) := ⟨rfl, rfl, rfl, by decide +kernel, rfl, by decide +kernel, by decide +kernel⟩
theorem sc__law_bent : FnScope ["_law_state", "_law_parts_here", "_law_names_here", "_law_marks", "_law_halls", "_law_way", "_law_at", "_law_some", "_law_doors"] ["_law_state", "_law_parts_here"] (defScope (top 34)) := ⟨rfl, rfl, rfl, by decide +kernel, rfl, by decide +kernel, by decide +kernel⟩
theorem sc__law_are_names : FnScope ["_law_what", "_law_low", "_law_most", "_law_one"] ["_law_what", "_law_low", "_law_most"] (defScope (top 29)) := ⟨rfl, rfl, rfl, by decide +kernel, rfl, by decide +kernel, by decide +kernel⟩
theorem sc__law_is_door : FnScope ["_law_what", "_law_marks", "_law_many"] ["_law_what", "_law_marks", "_law_many"] (defScope (top 30)) := ⟨rfl, rfl, rfl, by decide +kernel, rfl, by decide +kernel, by decide +kernel⟩
theorem sc__law_good : FnScope ["_law_parts_here", "_law_names_here", "_law_marks", "_law_halls", "_law_doors", "_law_door"] ["_law_parts_here"] (defScope (top 31)) := ⟨rfl, rfl, rfl, by decide +kernel, rfl, by decide +kernel, by decide +kernel⟩
theorem sc_law : FnScope ["_law_script", "_law_state", "_law_turn", "_law_parts_here", "_law_name_here", "_law_at", "_law_odd", "_law_things", "_law_what", "_law_owed", "_law_k", "_law_bent_here"] ["_law_script"] (defScope (top 36)) := ⟨rfl, rfl, rfl, by decide +kernel, rfl, by decide +kernel, by decide +kernel⟩
section
variable {base : Heap} {mg : Str → Option Value} {K : PySem.W.Frag} {P : Program} {w : World}
def Ok__law_begun (P : Program) (w : World) (K : PySem.W.Frag) (mg : Str → Option Value) (base : Heap) : Prop := ∃ fd, FnOk P w K mg base (L2.CX P w) 1 (He.ga K "_law_begun") fd ["_law_script"] (liftSp K (sp__law_begun K)) ∧ Binds K fd ["_law_script"] []
def Ok__law_draw (P : Program) (w : World) (K : PySem.W.Frag) (mg : Str → Option Value) (base : Heap) : Prop := ∃ fd, FnOk P w K mg base (L2.CX P w) 1 (He.ga K "_law_draw") fd ["_law_state", "_law_many"] (liftSp K (sp__law_draw K)) ∧ Binds K fd ["_law_state", "_law_many"] []
structure Rw (P : Program) (w : World) (K : PySem.W.Frag) (mg : Str → Option Value) (base : Heap) : Prop where
  _law_begun : Ok__law_begun P w K mg base
  _law_draw : Ok__law_draw P w K mg base
theorem ok__law_begun (Z : Fx K mg) (L : Lw K) (R : Rw P w K mg base) : Ok__law_begun P w K mg base := R._law_begun
theorem ok__law_draw (Z : Fx K mg) (L : Lw K) (R : Rw P w K mg base) : Ok__law_draw P w K mg base := R._law_draw
def Ok__law_name (P : Program) (w : World) (K : PySem.W.Frag) (mg : Str → Option Value) (base : Heap) : Prop := ∃ fd, FnOk P w K mg base (L2.CX P w) 2 (He.ga K "_law_name") fd ["_law_state"] (liftSp K (sp__law_name K)) ∧ Binds K fd ["_law_state"] []
theorem ok__law_name (Z : Fx K mg) (L : Lw K) (R : Rw P w K mg base) : Ok__law_name P w K mg base := by
  obtain ⟨fd, F⟩ := Z.d__law_name
  obtain ⟨fd__law_draw, F__law_draw, B__law_draw⟩ := ok__law_draw (P := P) (w := w) (base := base) Z L R
  have kp__law_draw : PySem.W.keepIn K (.ref (He.ga K "_law_draw")) = true := Z.d__law_draw.choose_spec.kp
  refine ⟨fd, fn_mkD F sc__law_name len1 (fun X Δ M ds Q E cx xo hW h => ?_), F.bindsN fun _ _ _ _ _ _ us hl => match us, hl with | [_], _ => rfl⟩
  obtain ⟨cdv, A, outer, s, H, Ev, eX, hr⟩ := cx
  subst eX
  have hu := hu_of hr
  have hu65 := hu65_of hr
  have hu1 := hu1_of hr
  refine ⟨_, rd__law_name K Δ.Wd, (pdss_cons (pds_if (pdt_cmp (op_eqD hu) snd_eq (pd_nrm (pd_call F__law_draw (hr.mono (by decide)) rfl Z.g__law_draw kp__law_draw B__law_draw xo (pda_cons (pd_var (pv 0)) (pda_cons (pd_int) (pda_nil))))) (pd_nrm (pd_int)) (by rfl)) (pdss_one (pds_ret (pd_ix (pd_nrm (pd_lst (pda_cons (pd_str) (pda_cons (pd_str) (pda_cons (pd_str) (pda_cons (pd_str) (pda_cons (pd_str) (pda_cons (pd_str) (pda_cons (pd_str) (pda_cons (pd_str) (pda_cons (pd_str) (pda_cons (pd_str) (pda_nil))))))))))))) (pd_call F__law_draw (hr.mono (by decide)) rfl Z.g__law_draw kp__law_draw B__law_draw xo (pda_cons (pd_var (pv 0)) (pda_cons (pd_int) (pda_nil))))))) pdss_nil)
  (pdss_cons (pds_set (i := 1) sc__law_name.nd rfl (Or.inl rfl) (pd_ix (pd_nrm (pd_lst (pda_cons (pd_int) (pda_cons (pd_int) (pda_cons (pd_int) (pda_cons (pd_int) (pda_cons (pd_int) (pda_cons (pd_int) (pda_nil))))))))) (pd_call F__law_draw (hr.mono (by decide)) rfl Z.g__law_draw kp__law_draw B__law_draw xo (pda_cons (pd_var (pv 0)) (pda_cons (pd_int) (pda_nil))))))
  (pdss_one (pds_ret (pd_join (pd_str) (pd_nrm (pd_lcX rfl sc__law_name.nd (pdi_rng1 rfl Z.b_range (pda_cons (pd_nrm (pd_var (pv 1))) (pda_nil))) (own := [("_law_k", 2)]) (blkB_ok (by kernel_rfl)) (fun _ _ _ _ _ _ => ⟨_, (pdgw_name (pg_name sc__law_name.nd (i := 2) rfl (Or.inl rfl)) (by decide))⟩) (fun _ _ _ _ _ _ => ⟨_, pdts_nil⟩) (fun _ _ _ _ _ _ => ⟨_, (pd_ix (pd_nrm (pd_str)) (pd_call F__law_draw (hr.mono (by decide)) rfl Z.g__law_draw kp__law_draw B__law_draw xok_blk (pda_cons (pd_var (pv 0)) (pda_cons (pd_int) (pda_nil)))))⟩)))))))), ?_⟩
  rw [hW]
  exact L._law_name h
def Ok__law_names (P : Program) (w : World) (K : PySem.W.Frag) (mg : Str → Option Value) (base : Heap) : Prop := ∃ fd, FnOk P w K mg base (L2.CX P w) 3 (He.ga K "_law_names") fd ["_law_state", "_law_many"] (liftSp K (sp__law_names K)) ∧ Binds K fd ["_law_state", "_law_many"] []
theorem ok__law_names (Z : Fx K mg) (L : Lw K) (R : Rw P w K mg base) : Ok__law_names P w K mg base := by
  obtain ⟨fd, F⟩ := Z.d__law_names
  obtain ⟨fd__law_name, F__law_name, B__law_name⟩ := ok__law_name (P := P) (w := w) (base := base) Z L R
  have kp__law_name : PySem.W.keepIn K (.ref (He.ga K "_law_name")) = true := Z.d__law_name.choose_spec.kp
  obtain ⟨fd__law_draw, F__law_draw, B__law_draw⟩ := ok__law_draw (P := P) (w := w) (base := base) Z L R
  have kp__law_draw : PySem.W.keepIn K (.ref (He.ga K "_law_draw")) = true := Z.d__law_draw.choose_spec.kp
  refine ⟨fd, fn_mkD F sc__law_names len2 (fun X Δ M ds Q E cx xo hW h => ?_), F.bindsN fun _ _ _ _ _ _ us hl => match us, hl with | [_, _], _ => rfl⟩
  obtain ⟨cdv, A, outer, s, H, Ev, eX, hr⟩ := cx
  subst eX
  have hu := hu_of hr
  have hu65 := hu65_of hr
  have hu1 := hu1_of hr
  refine ⟨_, rd__law_names K Δ.Wd, (pdss_cons (pds_set (i := 2) sc__law_names.nd rfl (Or.inr rfl) (pd_lstM (pda_nil)))
  (pdss_cons (pds_while (passes_of rfl) (pdt_cmp op_ltA snd_lt (pd_nrm (pd_callB call_lenA snd_len rfl Z.b_len (by decide +kernel) (pda_cons (pd_nrm (pd_var (pv 2))) (pda_nil)))) (pd_nrm (pd_var (pv 1))) (by rfl)) (pdss_cons (pds_set (i := 3) sc__law_names.nd rfl (Or.inr rfl) (pd_call F__law_name (hr.mono (by decide)) rfl Z.g__law_name kp__law_name B__law_name xo (pda_cons (pd_var (pv 0)) (pda_nil))))
  (pdss_cons (pds_if (pdt_w (pdw_and (pdt_cmp (op_neD hu) snd_ne (pd_nrm (pd_var (pv 2))) (pd_nrm (pd_lst (pda_nil))) (by rfl)) (pdw_and1 (pdt_cmp (op_eqD hu) snd_eq (pd_nrm (pd_call F__law_draw (hr.mono (by decide)) rfl Z.g__law_draw kp__law_draw B__law_draw xo (pda_cons (pd_var (pv 0)) (pda_cons (pd_int) (pda_nil))))) (pd_nrm (pd_int)) (by rfl))))) (pdss_one (pds_set (i := 3) sc__law_names.nd rfl (Or.inr rfl) (pd_op op_addA snd_add (pd_nrm (pd_slice (pd_nrm (pd_ix (pd_nrm (pd_var (pv 2))) (pd_neg (pd_int)))) pdo_none (pdo_some (pd_int)))) (pd_nrm (pd_ix (pd_nrm (pd_str)) (pd_call F__law_draw (hr.mono (by decide)) rfl Z.g__law_draw kp__law_draw B__law_draw xo (pda_cons (pd_var (pv 0)) (pda_cons (pd_int) (pda_nil))))))))) pdss_nil)
  (pdss_cons (pds_set (i := 4) sc__law_names.nd rfl (Or.inl rfl) (pd_op op_addA snd_add (pd_nrm (pd_lst (pda_cons (pd_var (pv 3)) (pda_nil)))) (pd_nrm (pd_lcX rfl sc__law_names.nd (pdi_seq (pd_nrm (pd_str))) (own := [("_law_sign", 5)]) (blkB_ok (by kernel_rfl)) (fun _ _ _ _ _ _ => ⟨_, (pdgw_name (pg_name sc__law_names.nd (i := 5) rfl (Or.inl rfl)) (by decide))⟩) (fun _ _ _ _ _ _ => ⟨_, pdts_nil⟩) (fun _ _ _ _ _ _ => ⟨_, (pd_op op_addA snd_add (pd_nrm (pd_slice (pd_nrm (pd_var (pv 3))) pdo_none (pdo_some (pd_int)))) (pd_nrm (pd_var (pv 5))))⟩)))))
  (pdss_one (pds_expr (pd_app (pd_var (pv 2)) (pd_ix (pd_nrm (pd_lcX rfl sc__law_names.nd (pdi_seq (pd_nrm (pd_var (pv 4)))) (own := [("_law_one", 6)]) (blkB_ok (by kernel_rfl)) (fun _ _ _ _ _ _ => ⟨_, (pdgw_name (pg_name sc__law_names.nd (i := 6) rfl (Or.inl rfl)) (by decide))⟩) (fun _ _ _ _ _ _ => ⟨_, (pdts_one (pdt_cmp op_notInA (snd_in (neg := true)) (pd_nrm (pd_var (pv 6))) (pd_nrm (pd_var (pv 2))) (by rfl)))⟩) (fun _ _ _ _ _ _ => ⟨_, (pd_var (pv 6))⟩))) (pd_int)))))))))
  (pdss_one (pds_ret (pd_callTy call_tuple_of snd_tup rfl Z.b_tuple (by decide +kernel) (pda_cons (pd_nrm (pd_callB cr_sortedS snd_sortS rfl Z.b_sorted (by decide +kernel) (pda_cons (pd_nrm (pd_var (pv 2))) (pda_nil)))) (pda_nil))))))), ?_⟩
  rw [hW]
  exact L._law_names h
def Ok__law_parts (P : Program) (w : World) (K : PySem.W.Frag) (mg : Str → Option Value) (base : Heap) : Prop := ∃ fd, FnOk P w K mg base (L2.CX P w) 4 (He.ga K "_law_parts") fd ["_law_state", "_law_many", "_law_most_letters", "_law_shut"] (liftSp K (sp__law_parts K)) ∧ Binds K fd ["_law_state", "_law_many", "_law_most_letters", "_law_shut"] []
theorem ok__law_parts (Z : Fx K mg) (L : Lw K) (R : Rw P w K mg base) : Ok__law_parts P w K mg base := by
  obtain ⟨fd, F⟩ := Z.d__law_parts
  obtain ⟨fd__law_names, F__law_names, B__law_names⟩ := ok__law_names (P := P) (w := w) (base := base) Z L R
  have kp__law_names : PySem.W.keepIn K (.ref (He.ga K "_law_names")) = true := Z.d__law_names.choose_spec.kp
  obtain ⟨fd__law_draw, F__law_draw, B__law_draw⟩ := ok__law_draw (P := P) (w := w) (base := base) Z L R
  have kp__law_draw : PySem.W.keepIn K (.ref (He.ga K "_law_draw")) = true := Z.d__law_draw.choose_spec.kp
  refine ⟨fd, fn_mkD F sc__law_parts len4 (fun X Δ M ds Q E cx xo hW h => ?_), F.bindsN fun _ _ _ _ _ _ us hl => match us, hl with | [_, _, _, _], _ => rfl⟩
  obtain ⟨cdv, A, outer, s, H, Ev, eX, hr⟩ := cx
  subst eX
  have hu := hu_of hr
  have hu65 := hu65_of hr
  have hu1 := hu1_of hr
  refine ⟨_, rd__law_parts K Δ.Wd, (pdss_cons (pds_set (i := 4) sc__law_parts.nd rfl (Or.inl rfl) (pd_call F__law_names (hr.mono (by decide)) rfl Z.g__law_names kp__law_names B__law_names xo (pda_cons (pd_var (pv 0)) (pda_cons (pd_op op_addA snd_add (pd_nrm (pd_int)) (pd_nrm (pd_call F__law_draw (hr.mono (by decide)) rfl Z.g__law_draw kp__law_draw B__law_draw xo (pda_cons (pd_var (pv 0)) (pda_cons (pd_var (pv 2)) (pda_nil)))))) (pda_nil)))))
  (pdss_cons (pds_par (i := 5) (j := 6) rfl sc__law_parts.nd rfl rfl (by decide) rfl rfl (pd_call F__law_names (hr.mono (by decide)) rfl Z.g__law_names kp__law_names B__law_names xo (pda_cons (pd_var (pv 0)) (pda_cons (pd_op op_addA snd_add (pd_nrm (pd_int)) (pd_nrm (pd_call F__law_draw (hr.mono (by decide)) rfl Z.g__law_draw kp__law_draw B__law_draw xo (pda_cons (pd_var (pv 0)) (pda_cons (pd_int) (pda_nil)))))) (pda_nil)))) (pd_lstM (pda_nil)))
  (pdss_cons (pds_for (passes_of rfl) rfl (pdi_rng1 rfl Z.b_range (pda_cons (pd_nrm (pd_var (pv 1))) (pda_nil))) (pdg_name (pg_name sc__law_parts.nd (i := 7) rfl (Or.inl rfl))) (pdss_cons (pds_set (i := 8) sc__law_parts.nd rfl (Or.inl rfl) (pd_lstM (pda_nil)))
  (pdss_cons (pds_for (passes_of rfl) rfl (pdi_seq (pd_nrm (pd_var (pv 4)))) (pdg_name (pg_name sc__law_parts.nd (i := 9) rfl (Or.inl rfl))) (pdss_cons (pds_set (i := 10) sc__law_parts.nd rfl (Or.inl rfl) (pd_tup (pda_cons (pd_ix (pd_nrm (pd_var (pv 5))) (pd_call F__law_draw (hr.mono (by decide)) rfl Z.g__law_draw kp__law_draw B__law_draw xo (pda_cons (pd_var (pv 0)) (pda_cons (pd_callB call_lenA snd_len rfl Z.b_len (by decide +kernel) (pda_cons (pd_nrm (pd_var (pv 5))) (pda_nil))) (pda_nil))))) (pda_cons (pd_call F__law_draw (hr.mono (by decide)) rfl Z.g__law_draw kp__law_draw B__law_draw xo (pda_cons (pd_var (pv 0)) (pda_cons (pd_var (pv 1)) (pda_nil)))) (pda_nil)))))
  (pdss_cons (pds_if (pdt_w (pdw_and (pdt_cmp op_ltA snd_lt (pd_nrm (pd_op op_addA snd_add (pd_nrm (pd_var (pv 7))) (pd_nrm (pd_int)))) (pd_nrm (pd_var (pv 1))) (by rfl)) (pdw_and1 (pdt_cmp (op_eqD hu) snd_eq (pd_nrm (pd_call F__law_draw (hr.mono (by decide)) rfl Z.g__law_draw kp__law_draw B__law_draw xo (pda_cons (pd_var (pv 0)) (pda_cons (pd_int) (pda_nil))))) (pd_nrm (pd_int)) (by rfl))))) (pdss_one (pds_set (i := 10) sc__law_parts.nd rfl (Or.inl rfl) (pd_tup (pda_cons (pd_ix (pd_nrm (pd_var (pv 10))) (pd_int)) (pda_cons (pd_op op_addA snd_add (pd_nrm (pd_var (pv 7))) (pd_nrm (pd_int))) (pda_nil)))))) pdss_nil)
  (pdss_cons (pds_if (pdt_w (pdw_and (pdt_cmp op_gt snd_int (pd_nrm (pd_var (pv 3))) (pd_nrm (pd_int)) (by rfl)) (pdw_and1 (pdt_cmp (op_eqD hu) snd_eq (pd_nrm (pd_call F__law_draw (hr.mono (by decide)) rfl Z.g__law_draw kp__law_draw B__law_draw xo (pda_cons (pd_var (pv 0)) (pda_cons (pd_var (pv 3)) (pda_nil))))) (pd_nrm (pd_int)) (by rfl))))) (pdss_one (pds_set (i := 10) sc__law_parts.nd rfl (Or.inl rfl) (pd_non))) pdss_nil)
  (pdss_one (pds_expr (pd_app (pd_var (pv 8)) (pd_var (pv 10)))))))))
  (pdss_one (pds_expr (pd_app (pd_var (pv 6)) (pd_callTy call_tuple_of snd_tup rfl Z.b_tuple (by decide +kernel) (pda_cons (pd_nrm (pd_var (pv 8))) (pda_nil)))))))))
  (pdss_one (pds_ret (pd_tup (pda_cons (pd_var (pv 4)) (pda_cons (pd_var (pv 5)) (pda_cons (pd_callTy call_tuple_of snd_tup rfl Z.b_tuple (by decide +kernel) (pda_cons (pd_nrm (pd_var (pv 6))) (pda_nil))) (pda_nil)))))))))), ?_⟩
  rw [hW]
  exact L._law_parts h
def Ok__law_is_name (P : Program) (w : World) (K : PySem.W.Frag) (mg : Str → Option Value) (base : Heap) : Prop := ∃ fd, FnOk P w K mg base (L2.CX P w) 1 (He.ga K "_law_is_name") fd ["_law_what"] (liftSp K (sp__law_is_name K)) ∧ Binds K fd ["_law_what"] []
theorem ok__law_is_name (Z : Fx K mg) (L : Lw K) (R : Rw P w K mg base) : Ok__law_is_name P w K mg base := by
  obtain ⟨fd, F⟩ := Z.d__law_is_name
  refine ⟨fd, fn_mkD F sc__law_is_name len1 (fun X Δ M ds Q E cx xo hW h => ?_), F.bindsN fun _ _ _ _ _ _ us hl => match us, hl with | [_], _ => rfl⟩
  obtain ⟨cdv, A, outer, s, H, Ev, eX, hr⟩ := cx
  subst eX
  have hu := hu_of hr
  have hu65 := hu65_of hr
  have hu1 := hu1_of hr
  refine ⟨_, rd__law_is_name K Δ.Wd, (pdss_cons (pds_if (pdt_w (pdw_or (pdt_not (pdt_tru (pd_nrm (pd_callB call_isi snd_isi rfl Z.b_isinstance (by decide +kernel) (pda_cons (pd_var (pv 0)) (pda_cons (pd_bltn rfl Z.b_str (by decide +kernel)) (pda_nil))))))) (pdw_or1 (pdt_not (pdt_chain op_le snd_int op_le snd_int (pd_nrm (pd_int)) (pd_nrm (pd_callB call_lenA snd_len rfl Z.b_len (by decide +kernel) (pda_cons (pd_nrm (pd_var (pv 0))) (pda_nil)))) (pd_nrm (pd_int))))))) (pdss_one (pds_ret (pd_bl))) pdss_nil)
  (pdss_one (pds_ret (pd_cmp (op_eqE hu) snd_eqE (pd_nrm (pd_lcX rfl sc__law_is_name.nd (pdi_seq (pd_nrm (pd_var (pv 0)))) (own := [("_law_sign", 1)]) (blkB_ok (by kernel_rfl)) (fun _ _ _ _ _ _ => ⟨_, (pdgw_name (pg_name sc__law_is_name.nd (i := 1) rfl (Or.inl rfl)) (by decide))⟩) (fun _ _ _ _ _ _ => ⟨_, (pdts_one (pdt_cmp op_notInA (snd_in (neg := true)) (pd_nrm (pd_var (pv 1))) (pd_nrm (pd_str)) (by rfl)))⟩) (fun _ _ _ _ _ _ => ⟨_, (pd_var (pv 1))⟩))) (pd_nrm (pd_lst (pda_nil))) (by rfl))))), ?_⟩
  rw [hW]
  exact L._law_is_name h
def Ok_is_name (P : Program) (w : World) (K : PySem.W.Frag) (mg : Str → Option Value) (base : Heap) : Prop := ∃ fd, FnOk P w K mg base (L2.CX P w) 1 (He.ga K "is_name") fd ["thing"] (liftSp K (sp_is_name K)) ∧ Binds K fd ["thing"] [] ∧ KBn K fd ["thing"] 0 ["thing"] (perm [0]) (perm [0])
theorem ok_is_name (Z : Fx K mg) (L : Lw K) (R : Rw P w K mg base) : Ok_is_name P w K mg base := by
  obtain ⟨fd, F⟩ := Z.d_is_name
  refine ⟨fd, fn_mkD F sc_is_name len1 (fun X Δ M ds Q E cx xo hW h => ?_), F.bindsN fun _ _ _ _ _ _ us hl => match us, hl with | [_], _ => rfl, kbnP_of F 0 ["thing"] [0] fun _ _ _ _ _ _ us ws h1 h2 => match us, ws, h1, h2 with | [], [_], _, _ => rfl⟩
  obtain ⟨cdv, A, outer, s, H, Ev, eX, hr⟩ := cx
  subst eX
  have hu := hu_of hr
  have hu65 := hu65_of hr
  have hu1 := hu1_of hr
  refine ⟨_, rd_is_name K Δ.Wd, (pdss_one (pds_ret (pd_and (pd_callB call_isi snd_isi rfl Z.b_isinstance (by decide +kernel) (pda_cons (pd_var (pv 0)) (pda_cons (pd_bltn rfl Z.b_str (by decide +kernel)) (pda_nil)))) (pd_and (pd_chain op_le snd_int op_le snd_int (pd_nrm (pd_int)) (pd_nrm (pd_callB call_lenA snd_len rfl Z.b_len (by decide +kernel) (pda_cons (pd_nrm (pd_var (pv 0))) (pda_nil)))) (pd_nrm (pd_globI rfl Z.i_MOST_NAME.choose_spec))) (pd_one (pd_callB (cr_all rfl) snd_all rfl Z.b_all (by decide +kernel) (pda_cons (pd_nrm (pd_lcX rfl sc_is_name.nd (pdi_seq (pd_nrm (pd_var (pv 0)))) (own := [("sign", 1)]) (blkB_ok (by kernel_rfl)) (fun _ _ _ _ _ _ => ⟨_, (pdgw_name (pg_name sc_is_name.nd (i := 1) rfl (Or.inl rfl)) (by decide))⟩) (fun _ _ _ _ _ _ => ⟨_, pdts_nil⟩) (fun _ _ _ _ _ _ => ⟨_, (pd_cmp op_inA (snd_in (neg := false)) (pd_nrm (pd_var (pv 1))) (pd_nrm (pd_globS rfl Z.s_SMALL.choose_spec)) (by rfl))⟩))) (pda_nil)))))))), ?_⟩
  rw [hW]
  exact L.is_name h
def Ok_are_names (P : Program) (w : World) (K : PySem.W.Frag) (mg : Str → Option Value) (base : Heap) : Prop := ∃ fd, FnOk P w K mg base (L2.CX P w) 2 (He.ga K "are_names") fd ["thing", "least", "most"] (liftSp K (sp_are_names K)) ∧ Binds K fd ["thing", "least", "most"] []
theorem ok_are_names (Z : Fx K mg) (L : Lw K) (R : Rw P w K mg base) : Ok_are_names P w K mg base := by
  obtain ⟨fd, F⟩ := Z.d_are_names
  obtain ⟨fd_is_name, F_is_name, B_is_name, kb_is_name_0⟩ := ok_is_name (P := P) (w := w) (base := base) Z L R
  have kp_is_name : PySem.W.keepIn K (.ref (He.ga K "is_name")) = true := Z.d_is_name.choose_spec.kp
  refine ⟨fd, fn_mkD F sc_are_names len3 (fun X Δ M ds Q E cx xo hW h => ?_), F.bindsN fun _ _ _ _ _ _ us hl => match us, hl with | [_, _, _], _ => rfl⟩
  obtain ⟨cdv, A, outer, s, H, Ev, eX, hr⟩ := cx
  subst eX
  have hu := hu_of hr
  have hu65 := hu65_of hr
  have hu1 := hu1_of hr
  refine ⟨_, rd_are_names K Δ.Wd, (pdss_cons (pds_if (pdt_w (pdw_or (pdt_not (pdt_tru (pd_nrm (pd_callB call_isi snd_isi rfl Z.b_isinstance (by decide +kernel) (pda_cons (pd_var (pv 0)) (pda_cons (pd_bltn rfl Z.b_tuple (by decide +kernel)) (pda_nil))))))) (pdw_or (pdt_not (pdt_chain op_le snd_int op_le snd_int (pd_nrm (pd_var (pv 1))) (pd_nrm (pd_callB call_lenA snd_len rfl Z.b_len (by decide +kernel) (pda_cons (pd_nrm (pd_var (pv 0))) (pda_nil)))) (pd_nrm (pd_var (pv 2))))) (pdw_or1 (pdt_not (pdt_tru (pd_nrm (pd_callB (cr_all rfl) snd_all rfl Z.b_all (by decide +kernel) (pda_cons (pd_nrm (pd_lcX rfl sc_are_names.nd (pdi_seq (pd_nrm (pd_var (pv 0)))) (own := [("one", 3)]) (blkB_ok (by kernel_rfl)) (fun _ _ _ _ _ _ => ⟨_, (pdgw_name (pg_name sc_are_names.nd (i := 3) rfl (Or.inl rfl)) (by decide))⟩) (fun _ _ _ _ _ _ => ⟨_, pdts_nil⟩) (fun _ _ _ _ _ _ => ⟨_, (pd_call F_is_name (hr.mono (by decide)) rfl Z.g_is_name kp_is_name B_is_name xok_blk (pda_cons (pd_var (pv 3)) (pda_nil)))⟩))) (pda_nil)))))))))) (pdss_one (pds_ret (pd_bl))) pdss_nil)
  (pdss_one (pds_ret (pd_callB (cr_all rfl) snd_all rfl Z.b_all (by decide +kernel) (pda_cons (pd_nrm (pd_lcX rfl sc_are_names.nd (pdi_zip2 rfl Z.b_zip (pda_cons (pd_nrm (pd_var (pv 0))) (pda_cons (pd_nrm (pd_slice (pd_nrm (pd_var (pv 0))) (pdo_some (pd_int)) pdo_none)) (pda_nil)))) (own := [("one", 3), ("other", 4)]) (blkB_ok (by kernel_rfl)) (fun _ _ _ _ _ _ => ⟨_, (pdgw_tup rfl (pdgws_cons (pdgw_name (pg_name sc_are_names.nd (i := 3) rfl (Or.inl rfl)) (by decide)) (pdgws_cons (pdgw_name (pg_name sc_are_names.nd (i := 4) rfl (Or.inl rfl)) (by decide)) (pdgws_nil))))⟩) (fun _ _ _ _ _ _ => ⟨_, pdts_nil⟩) (fun _ _ _ _ _ _ => ⟨_, (pd_cmp op_ltA snd_lt (pd_nrm (pd_var (pv 3))) (pd_nrm (pd_var (pv 4))) (by rfl))⟩))) (pda_nil)))))), ?_⟩
  rw [hW]
  exact L.are_names h
def Ok_is_count (P : Program) (w : World) (K : PySem.W.Frag) (mg : Str → Option Value) (base : Heap) : Prop := ∃ fd, FnOk P w K mg base (L2.CX P w) 1 (He.ga K "is_count") fd ["thing"] (liftSp K (sp_is_count K)) ∧ Binds K fd ["thing"] []
theorem ok_is_count (Z : Fx K mg) (L : Lw K) (R : Rw P w K mg base) : Ok_is_count P w K mg base := by
  obtain ⟨fd, F⟩ := Z.d_is_count
  refine ⟨fd, fn_mkD F sc_is_count len1 (fun X Δ M ds Q E cx xo hW h => ?_), F.bindsN fun _ _ _ _ _ _ us hl => match us, hl with | [_], _ => rfl⟩
  obtain ⟨cdv, A, outer, s, H, Ev, eX, hr⟩ := cx
  subst eX
  have hu := hu_of hr
  have hu65 := hu65_of hr
  have hu1 := hu1_of hr
  refine ⟨_, rd_is_count K Δ.Wd, (pdss_one (pds_ret (pd_and (pd_callB call_isi snd_isi rfl Z.b_isinstance (by decide +kernel) (pda_cons (pd_var (pv 0)) (pda_cons (pd_bltn rfl Z.b_int (by decide +kernel)) (pda_nil)))) (pd_and (pd_not (pd_nrm (pd_callB call_isi snd_isi rfl Z.b_isinstance (by decide +kernel) (pda_cons (pd_var (pv 0)) (pda_cons (pd_bltn rfl Z.b_bool (by decide +kernel)) (pda_nil)))))) (pd_one (pd_cmp op_ge snd_int (pd_nrm (pd_var (pv 0))) (pd_nrm (pd_int)) (by rfl))))))), ?_⟩
  rw [hW]
  exact L.is_count h
def Ok_is_door (P : Program) (w : World) (K : PySem.W.Frag) (mg : Str → Option Value) (base : Heap) : Prop := ∃ fd, FnOk P w K mg base (L2.CX P w) 2 (He.ga K "is_door") fd ["thing", "signs", "many"] (liftSp K (sp_is_door K)) ∧ Binds K fd ["thing", "signs", "many"] []
theorem ok_is_door (Z : Fx K mg) (L : Lw K) (R : Rw P w K mg base) : Ok_is_door P w K mg base := by
  obtain ⟨fd, F⟩ := Z.d_is_door
  obtain ⟨fd_is_count, F_is_count, B_is_count⟩ := ok_is_count (P := P) (w := w) (base := base) Z L R
  have kp_is_count : PySem.W.keepIn K (.ref (He.ga K "is_count")) = true := Z.d_is_count.choose_spec.kp
  refine ⟨fd, fn_mkD F sc_is_door len3 (fun X Δ M ds Q E cx xo hW h => ?_), F.bindsN fun _ _ _ _ _ _ us hl => match us, hl with | [_, _, _], _ => rfl⟩
  obtain ⟨cdv, A, outer, s, H, Ev, eX, hr⟩ := cx
  subst eX
  have hu := hu_of hr
  have hu65 := hu65_of hr
  have hu1 := hu1_of hr
  refine ⟨_, rd_is_door K Δ.Wd, (pdss_cons (pds_if (pdt_cmp op_isN snd_is (pd_nrm (pd_var (pv 0))) (pd_nrm (pd_non)) (by rfl)) (pdss_one (pds_ret (pd_bl))) pdss_nil)
  (pdss_cons (pds_if (pdt_w (pdw_or (pdt_not (pdt_tru (pd_nrm (pd_callB call_isi snd_isi rfl Z.b_isinstance (by decide +kernel) (pda_cons (pd_var (pv 0)) (pda_cons (pd_bltn rfl Z.b_tuple (by decide +kernel)) (pda_nil))))))) (pdw_or (pdt_cmp (op_neD hu) snd_ne (pd_nrm (pd_callB call_lenA snd_len rfl Z.b_len (by decide +kernel) (pda_cons (pd_nrm (pd_var (pv 0))) (pda_nil)))) (pd_nrm (pd_int)) (by rfl)) (pdw_or (pdt_not (pdt_tru (pd_nrm (pd_callB call_isi snd_isi rfl Z.b_isinstance (by decide +kernel) (pda_cons (pd_ix (pd_nrm (pd_var (pv 0))) (pd_int)) (pda_cons (pd_bltn rfl Z.b_str (by decide +kernel)) (pda_nil))))))) (pdw_or1 (pdt_cmp op_notInA (snd_in (neg := true)) (pd_nrm (pd_ix (pd_nrm (pd_var (pv 0))) (pd_int))) (pd_nrm (pd_var (pv 1))) (by rfl))))))) (pdss_one (pds_ret (pd_bl))) pdss_nil)
  (pdss_one (pds_ret (pd_and (pd_call F_is_count (hr.mono (by decide)) rfl Z.g_is_count kp_is_count B_is_count xo (pda_cons (pd_ix (pd_nrm (pd_var (pv 0))) (pd_int)) (pda_nil))) (pd_one (pd_cmp op_ltA snd_lt (pd_nrm (pd_ix (pd_nrm (pd_var (pv 0))) (pd_int))) (pd_nrm (pd_var (pv 2))) (by rfl)))))))), ?_⟩
  rw [hW]
  exact L.is_door h
def Ok_are_rooms (P : Program) (w : World) (K : PySem.W.Frag) (mg : Str → Option Value) (base : Heap) : Prop := ∃ fd, FnOk P w K mg base (L2.CX P w) 3 (He.ga K "are_rooms") fd ["thing", "letters", "signs"] (liftSp K (sp_are_rooms K)) ∧ Binds K fd ["thing", "letters", "signs"] []
theorem ok_are_rooms (Z : Fx K mg) (L : Lw K) (R : Rw P w K mg base) : Ok_are_rooms P w K mg base := by
  obtain ⟨fd, F⟩ := Z.d_are_rooms
  obtain ⟨fd_is_door, F_is_door, B_is_door⟩ := ok_is_door (P := P) (w := w) (base := base) Z L R
  have kp_is_door : PySem.W.keepIn K (.ref (He.ga K "is_door")) = true := Z.d_is_door.choose_spec.kp
  refine ⟨fd, fn_mkD F sc_are_rooms len3 (fun X Δ M ds Q E cx xo hW h => ?_), F.bindsN fun _ _ _ _ _ _ us hl => match us, hl with | [_, _, _], _ => rfl⟩
  obtain ⟨cdv, A, outer, s, H, Ev, eX, hr⟩ := cx
  subst eX
  have hu := hu_of hr
  have hu65 := hu65_of hr
  have hu1 := hu1_of hr
  refine ⟨_, rd_are_rooms K Δ.Wd, (pdss_cons (pds_if (pdt_w (pdw_or (pdt_not (pdt_tru (pd_nrm (pd_callB call_isi snd_isi rfl Z.b_isinstance (by decide +kernel) (pda_cons (pd_var (pv 0)) (pda_cons (pd_bltn rfl Z.b_tuple (by decide +kernel)) (pda_nil))))))) (pdw_or1 (pdt_not (pdt_chain op_le snd_int op_le snd_int (pd_nrm (pd_int)) (pd_nrm (pd_callB call_lenA snd_len rfl Z.b_len (by decide +kernel) (pda_cons (pd_nrm (pd_var (pv 0))) (pda_nil)))) (pd_nrm (pd_globI rfl Z.i_MOST_ROOMS.choose_spec))))))) (pdss_one (pds_ret (pd_bl))) pdss_nil)
  (pdss_cons (pds_for (passes_of rfl) rfl (pdi_seq (pd_nrm (pd_var (pv 0)))) (pdg_name (pg_name sc_are_rooms.nd (i := 3) rfl (Or.inl rfl))) (pdss_cons (pds_if (pdt_w (pdw_or (pdt_not (pdt_tru (pd_nrm (pd_callB call_isi snd_isi rfl Z.b_isinstance (by decide +kernel) (pda_cons (pd_var (pv 3)) (pda_cons (pd_bltn rfl Z.b_tuple (by decide +kernel)) (pda_nil))))))) (pdw_or1 (pdt_cmp (op_neD hu) snd_ne (pd_nrm (pd_callB call_lenA snd_len rfl Z.b_len (by decide +kernel) (pda_cons (pd_nrm (pd_var (pv 3))) (pda_nil)))) (pd_nrm (pd_callB call_lenA snd_len rfl Z.b_len (by decide +kernel) (pda_cons (pd_nrm (pd_var (pv 1))) (pda_nil)))) (by rfl))))) (pdss_one (pds_ret (pd_bl))) pdss_nil)
  (pdss_one (pds_if (pdt_not (pdt_tru (pd_nrm (pd_callB (cr_all rfl) snd_all rfl Z.b_all (by decide +kernel) (pda_cons (pd_nrm (pd_lcX rfl sc_are_rooms.nd (pdi_seq (pd_nrm (pd_var (pv 3)))) (own := [("door", 4)]) (blkB_ok (by kernel_rfl)) (fun _ _ _ _ _ _ => ⟨_, (pdgw_name (pg_name sc_are_rooms.nd (i := 4) rfl (Or.inl rfl)) (by decide))⟩) (fun _ _ _ _ _ _ => ⟨_, pdts_nil⟩) (fun _ _ _ _ _ _ => ⟨_, (pd_call F_is_door (hr.mono (by decide)) rfl Z.g_is_door kp_is_door B_is_door xok_blk (pda_cons (pd_var (pv 4)) (pda_cons (pd_var (pv 2)) (pda_cons (pd_callB call_lenA snd_len rfl Z.b_len (by decide +kernel) (pda_cons (pd_nrm (pd_var (pv 0))) (pda_nil))) (pda_nil)))))⟩))) (pda_nil)))))) (pdss_one (pds_ret (pd_bl))) pdss_nil))))
  (pdss_one (pds_ret (pd_bl))))), ?_⟩
  rw [hW]
  exact L.are_rooms h
def Ok_Plan___init__ (P : Program) (w : World) (K : PySem.W.Frag) (mg : Str → Option Value) (base : Heap) : Prop := ∃ fd, FnOk P w K mg base (L2.CX P w) 4 (He.ma K (He.ga K "Plan") "__init__") fd ["self", "letters", "signs", "rooms"] (liftSp K (sp_Plan___init__ K)) ∧ Binds K fd ["self", "letters", "signs", "rooms"] [] ∧ KBn K fd ["self", "letters", "signs", "rooms"] 1 ["rooms", "signs", "letters"] (perm [0, 3, 2, 1]) (perm [0, 3, 2, 1])
theorem ok_Plan___init__ (Z : Fx K mg) (L : Lw K) (R : Rw P w K mg base) : Ok_Plan___init__ P w K mg base := by
  obtain ⟨fd, F⟩ := Z.d_Plan___init__
  obtain ⟨fd_are_names, F_are_names, B_are_names⟩ := ok_are_names (P := P) (w := w) (base := base) Z L R
  have kp_are_names : PySem.W.keepIn K (.ref (He.ga K "are_names")) = true := Z.d_are_names.choose_spec.kp
  obtain ⟨fd_are_rooms, F_are_rooms, B_are_rooms⟩ := ok_are_rooms (P := P) (w := w) (base := base) Z L R
  have kp_are_rooms : PySem.W.keepIn K (.ref (He.ga K "are_rooms")) = true := Z.d_are_rooms.choose_spec.kp
  refine ⟨fd, fn_mkD F sc_Plan___init__ len4 (fun X Δ M ds Q E cx xo hW h => ?_), F.bindsN fun _ _ _ _ _ _ us hl => match us, hl with | [_, _, _, _], _ => rfl, kbnP_of F 1 ["rooms", "signs", "letters"] [0, 3, 2, 1] fun _ _ _ _ _ _ us ws h1 h2 => match us, ws, h1, h2 with | [_], [_, _, _], _, _ => rfl⟩
  obtain ⟨cdv, A, outer, s, H, Ev, eX, hr⟩ := cx
  subst eX
  have hu := hu_of hr
  have hu65 := hu65_of hr
  have hu1 := hu1_of hr
  refine ⟨_, rd_Plan___init__ K Δ.Wd, (pdss_cons (pds_if (pdt_w (pdw_or (pdt_not (pdt_tru (pd_nrm (pd_call F_are_names (hr.mono (by decide)) rfl Z.g_are_names kp_are_names B_are_names xo (pda_cons (pd_var (pv 1)) (pda_cons (pd_int) (pda_cons (pd_globI rfl Z.i_MOST_LETTERS.choose_spec) (pda_nil)))))))) (pdw_or1 (pdt_not (pdt_tru (pd_nrm (pd_call F_are_names (hr.mono (by decide)) rfl Z.g_are_names kp_are_names B_are_names xo (pda_cons (pd_var (pv 2)) (pda_cons (pd_globI rfl Z.i_LEAST_SIGNS.choose_spec) (pda_cons (pd_globI rfl Z.i_MOST_SIGNS.choose_spec) (pda_nil))))))))))) (pdss_one (pds_raise PySem.F.excBase_ValueError (He.exc_ok Z.e_NoPlan).1 Z.g_NoPlan (He.exc_ok Z.e_NoPlan).2.1 (raises_fa Z.e_NoPlan) rfl rfl xo)) pdss_nil)
  (pdss_cons (pds_if (pdt_not (pdt_tru (pd_nrm (pd_call F_are_rooms (hr.mono (by decide)) rfl Z.g_are_rooms kp_are_rooms B_are_rooms xo (pda_cons (pd_var (pv 3)) (pda_cons (pd_var (pv 1)) (pda_cons (pd_var (pv 2)) (pda_nil)))))))) (pdss_one (pds_raise PySem.F.excBase_ValueError (He.exc_ok Z.e_NoPlan).1 Z.g_NoPlan (He.exc_ok Z.e_NoPlan).2.1 (raises_fa Z.e_NoPlan) rfl rfl xo)) pdss_nil)
  (pdss_cons (pds_fld (pd_var (pv 0)) (pd_var (pv 1)) Z.cl_Plan Z.na_Plan_own_letters)
  (pdss_cons (pds_fld (pd_var (pv 0)) (pd_var (pv 2)) Z.cl_Plan Z.na_Plan_own_signs)
  (pdss_one (pds_fld (pd_var (pv 0)) (pd_var (pv 3)) Z.cl_Plan Z.na_Plan_own_rooms)))))), ?_⟩
  rw [hW]
  exact L.Plan___init__ h
def Ok__law_taken (P : Program) (w : World) (K : PySem.W.Frag) (mg : Str → Option Value) (base : Heap) : Prop := ∃ fd, FnOk P w K mg base (L2.CX P w) 6 (He.ga K "_law_taken") fd ["_law_parts_here"] (liftSp K (sp__law_taken K)) ∧ Binds K fd ["_law_parts_here"] []
theorem ok__law_taken (Z : Fx K mg) (L : Lw K) (R : Rw P w K mg base) : Ok__law_taken P w K mg base := by
  obtain ⟨fd, F⟩ := Z.d__law_taken
  obtain ⟨fd_Plan___init__, F_Plan___init__, B_Plan___init__, kb_Plan___init___0⟩ := ok_Plan___init__ (P := P) (w := w) (base := base) Z L R
  refine ⟨fd, fn_mkD F sc__law_taken len1 (fun X Δ M ds Q E cx xo hW h => ?_), F.bindsN fun _ _ _ _ _ _ us hl => match us, hl with | [_], _ => rfl⟩
  obtain ⟨cdv, A, outer, s, H, Ev, eX, hr⟩ := cx
  subst eX
  have hu := hu_of hr
  have hu65 := hu65_of hr
  have hu1 := hu1_of hr
  refine ⟨_, rd__law_taken K Δ.Wd, (pdss_cons (pds_set (i := 1) sc__law_taken.nd rfl (Or.inl rfl) (pd_non))
  (pdss_cons (pds_tryKeepX (i := 2) rfl rfl rfl sc__law_taken.nd rfl rfl ⟨rfl, by decide, .inl Z.g_BoxError⟩ xo (fun _ _ Wd _ _ x0' xo' po => ⟨_, (pdss_one (pds_expr (pd_makeK0 (ks := ["rooms", "signs", "letters"]) Z.mk_Plan F_Plan___init__ (hr.mono (by decide)) rfl Z.g_Plan kb_Plan___init___0 perm_rps xo' (pdk_cons (pd_ix (pd_nrm (pd_var (pv 0))) (pd_int)) (pdk_cons (pd_ix (pd_nrm (pd_var (pv 0))) (pd_int)) (pdk_cons (pd_ix (pd_nrm (pd_var (pv 0))) (pd_int)) (pdk_nil)))))))⟩) (fun a oe cls d pn I0 fs hz hf er => ⟨_, (pdss_one (pds_set (i := 1) sc__law_taken.nd rfl (Or.inl rfl) (pd_var (pv 2))))⟩))
  (pdss_cons (pds_if (pdt_cmp op_isN snd_is (pd_nrm (pd_var (pv 1))) (pd_nrm (pd_non)) (by rfl)) (pdss_one (pds_ret (pd_bl))) pdss_nil)
  (pdss_cons (pds_set (i := 3) sc__law_taken.nd rfl (Or.inl rfl) (pd_callB call_isiET snd_isiXT rfl Z.b_isinstance (by decide +kernel) (pda_cons (pd_var (pv 1)) (pda_cons (pd_tupH (pda_cons (pd_globR rfl Z.g_NoDeed) (pda_cons (pd_globR rfl Z.g_NoName) (pda_cons (pd_globR rfl Z.g_NoRoom) (pda_cons (pd_globR rfl Z.g_NoText) (pda_cons (pd_globR rfl Z.g_NoWord) (pda_nil))))))) (pda_nil)))))
  (pdss_one (pds_ret (pd_ifExp (pdt_w (pdw_and (pdt_tru (pd_nrm (pd_callB call_isiX snd_isiX rfl Z.b_isinstance (by decide +kernel) (pda_cons (pd_var (pv 1)) (pda_cons (pd_globR rfl Z.g_NoPlan) (pda_nil)))))) (pdw_and (pdt_tru (pd_nrm (pd_callB call_isiX snd_isiY rfl Z.b_isinstance (by decide +kernel) (pda_cons (pd_var (pv 1)) (pda_cons (pd_bltn rfl Z.b_ValueError (by decide +kernel)) (pda_nil)))))) (pdw_and1 (pdt_not (pdt_tru (pd_nrm (pd_var (pv 3))))))))) (pd_bl) (pd_non)))))))), ?_⟩
  rw [hW]
  exact L._law_taken h
def Ok__law_bent_names (P : Program) (w : World) (K : PySem.W.Frag) (mg : Str → Option Value) (base : Heap) : Prop := ∃ fd, FnOk P w K mg base (L2.CX P w) 2 (He.ga K "_law_bent_names") fd ["_law_state", "_law_names_here"] (liftSp K (sp__law_bent_names K)) ∧ Binds K fd ["_law_state", "_law_names_here"] []
theorem ok__law_bent_names (Z : Fx K mg) (L : Lw K) (R : Rw P w K mg base) : Ok__law_bent_names P w K mg base := by
  obtain ⟨fd, F⟩ := Z.d__law_bent_names
  obtain ⟨fd__law_draw, F__law_draw, B__law_draw⟩ := ok__law_draw (P := P) (w := w) (base := base) Z L R
  have kp__law_draw : PySem.W.keepIn K (.ref (He.ga K "_law_draw")) = true := Z.d__law_draw.choose_spec.kp
  refine ⟨fd, fn_mkD F sc__law_bent_names len2 (fun X Δ M ds Q E cx xo hW h => ?_), F.bindsN fun _ _ _ _ _ _ us hl => match us, hl with | [_, _], _ => rfl⟩
  obtain ⟨cdv, A, outer, s, H, Ev, eX, hr⟩ := cx
  subst eX
  have hu := hu_of hr
  have hu65 := hu65_of hr
  have hu1 := hu1_of hr
  refine ⟨_, rd__law_bent_names K Δ.Wd, (pdss_cons (pds_set (i := 2) sc__law_bent_names.nd rfl (Or.inl rfl) (pd_call F__law_draw (hr.mono (by decide)) rfl Z.g__law_draw kp__law_draw B__law_draw xo (pda_cons (pd_var (pv 0)) (pda_cons (pd_callB (call_max2 rfl) snd_max rfl Z.b_max (by decide +kernel) (pda_cons (pd_nrm (pd_int)) (pda_cons (pd_nrm (pd_callB call_lenA snd_len rfl Z.b_len (by decide +kernel) (pda_cons (pd_nrm (pd_var (pv 1))) (pda_nil)))) (pda_nil)))) (pda_nil)))))
  (pdss_cons (pds_set (i := 3) sc__law_bent_names.nd rfl (Or.inl rfl) (pd_lst (pda_cons (pd_str) (pda_cons (pd_str) (pda_cons (pd_str) (pda_cons (pd_str) (pda_cons (pd_str) (pda_cons (pd_non) (pda_cons (pd_int) (pda_cons (pd_bl) (pda_cons (pd_tup (pda_cons (pd_str) (pda_nil))) (pda_cons (pd_str) (pda_cons (pd_str) (pda_cons (pd_ix (pd_nrm (pd_var (pv 1))) (pd_int)) (pda_cons (pd_lst (pda_cons (pd_str) (pda_nil))) (pda_cons (pd_newF) (pda_nil)))))))))))))))))
  (pdss_cons (pds_set (i := 3) sc__law_bent_names.nd rfl (Or.inl rfl) (pd_ix (pd_nrm (pd_var (pv 3))) (pd_call F__law_draw (hr.mono (by decide)) rfl Z.g__law_draw kp__law_draw B__law_draw xo (pda_cons (pd_var (pv 0)) (pda_cons (pd_int) (pda_nil))))))
  (pdss_cons (pds_set (i := 4) sc__law_bent_names.nd rfl (Or.inl rfl) (pd_lst (pda_cons (pd_revT (pd_nrm (pd_var (pv 1)))) (pda_cons (pd_op op_addA snd_add (pd_nrm (pd_var (pv 1))) (pd_nrm (pd_slice (pd_nrm (pd_var (pv 1))) pdo_none (pdo_some (pd_int))))) (pda_cons (pd_callTy call_list_of snd_list rfl Z.b_list (by decide +kernel) (pda_cons (pd_nrm (pd_var (pv 1))) (pda_nil))) (pda_cons (pd_op op_addA snd_add (pd_nrm (pd_slice (pd_nrm (pd_var (pv 1))) pdo_none (pdo_some (pd_var (pv 2))))) (pd_nrm (pd_slice (pd_nrm (pd_var (pv 1))) (pdo_some (pd_op op_addA snd_add (pd_nrm (pd_var (pv 2))) (pd_nrm (pd_int)))) pdo_none))) (pda_nil)))))))
  (pdss_cons (pds_set (i := 4) sc__law_bent_names.nd rfl (Or.inl rfl) (pd_op op_addA snd_add (pd_nrm (pd_var (pv 4))) (pd_nrm (pd_lst (pda_cons (pd_op op_addA snd_add (pd_nrm (pd_op op_addA snd_add (pd_nrm (pd_slice (pd_nrm (pd_var (pv 1))) pdo_none (pdo_some (pd_var (pv 2))))) (pd_nrm (pd_tup (pda_cons (pd_var (pv 3)) (pda_nil)))))) (pd_nrm (pd_slice (pd_nrm (pd_var (pv 1))) (pdo_some (pd_op op_addA snd_add (pd_nrm (pd_var (pv 2))) (pd_nrm (pd_int)))) pdo_none))) (pda_cons (pd_op op_addA snd_add (pd_nrm (pd_var (pv 1))) (pd_nrm (pd_tup (pda_cons (pd_var (pv 3)) (pda_nil))))) (pda_cons (pd_tup (pda_nil)) (pda_cons (pd_non) (pda_cons (pd_ix (pd_nrm (pd_var (pv 1))) (pd_int)) (pda_nil))))))))))
  (pdss_cons (pds_set (i := 4) sc__law_bent_names.nd rfl (Or.inl rfl) (pd_op op_addA snd_add (pd_nrm (pd_var (pv 4))) (pd_nrm (pd_lst (pda_cons (pd_tup (pda_cons (pd_str) (pda_cons (pd_str) (pda_cons (pd_str) (pda_cons (pd_str) (pda_cons (pd_str) (pda_nil))))))) (pda_cons (pd_slice (pd_nrm (pd_var (pv 1))) pdo_none (pdo_some (pd_int))) (pda_cons (pd_fz (pd_callTy (call_dictP rfl) snd_dictP rfl Z.b_dict (by decide +kernel) (pda_cons (pd_nrm (pd_lcX rfl sc__law_bent_names.nd (pdi_seq (pd_nrm (pd_var (pv 1)))) (own := [("_law_one", 5)]) (blkB_ok (by kernel_rfl)) (fun _ _ _ _ _ _ => ⟨_, (pdgw_name (pg_name sc__law_bent_names.nd (i := 5) rfl (Or.inl rfl)) (by decide))⟩) (fun _ _ _ _ _ _ => ⟨_, pdts_nil⟩) (fun _ _ _ _ _ _ => ⟨_, (pd_tup (pda_cons (pd_var (pv 5)) (pda_cons (pd_int) (pda_nil))))⟩))) (pda_nil)))) (pda_nil))))))))
  (pdss_one (pds_ret (pd_ix (pd_nrm (pd_var (pv 4))) (pd_call F__law_draw (hr.mono (by decide)) rfl Z.g__law_draw kp__law_draw B__law_draw xo (pda_cons (pd_var (pv 0)) (pda_cons (pd_int) (pda_nil))))))))))))), ?_⟩
  rw [hW]
  exact L._law_bent_names h
def Ok__law_bent_doors (P : Program) (w : World) (K : PySem.W.Frag) (mg : Str → Option Value) (base : Heap) : Prop := ∃ fd, FnOk P w K mg base (L2.CX P w) 2 (He.ga K "_law_bent_doors") fd ["_law_state", "_law_doors", "_law_marks", "_law_many"] (liftSp K (sp__law_bent_doors K)) ∧ Binds K fd ["_law_state", "_law_doors", "_law_marks", "_law_many"] []
theorem ok__law_bent_doors (Z : Fx K mg) (L : Lw K) (R : Rw P w K mg base) : Ok__law_bent_doors P w K mg base := by
  obtain ⟨fd, F⟩ := Z.d__law_bent_doors
  obtain ⟨fd__law_draw, F__law_draw, B__law_draw⟩ := ok__law_draw (P := P) (w := w) (base := base) Z L R
  have kp__law_draw : PySem.W.keepIn K (.ref (He.ga K "_law_draw")) = true := Z.d__law_draw.choose_spec.kp
  refine ⟨fd, fn_mkD F sc__law_bent_doors len4 (fun X Δ M ds Q E cx xo hW h => ?_), F.bindsN fun _ _ _ _ _ _ us hl => match us, hl with | [_, _, _, _], _ => rfl⟩
  obtain ⟨cdv, A, outer, s, H, Ev, eX, hr⟩ := cx
  subst eX
  have hu := hu_of hr
  have hu65 := hu65_of hr
  have hu1 := hu1_of hr
  refine ⟨_, rd__law_bent_doors K Δ.Wd, (pdss_cons (pds_set (i := 4) sc__law_bent_doors.nd rfl (Or.inl rfl) (pd_call F__law_draw (hr.mono (by decide)) rfl Z.g__law_draw kp__law_draw B__law_draw xo (pda_cons (pd_var (pv 0)) (pda_cons (pd_callB call_lenA snd_len rfl Z.b_len (by decide +kernel) (pda_cons (pd_nrm (pd_var (pv 1))) (pda_nil))) (pda_nil)))))
  (pdss_cons (pds_set (i := 5) sc__law_bent_doors.nd rfl (Or.inl rfl) (pd_orX (pd_ix (pd_nrm (pd_var (pv 1))) (pd_var (pv 4))) (pd_one (pd_tup (pda_cons (pd_ix (pd_nrm (pd_var (pv 2))) (pd_int)) (pda_cons (pd_int) (pda_nil)))))))
  (pdss_cons (pds_set (i := 6) sc__law_bent_doors.nd rfl (Or.inl rfl) (pd_ix (pd_nrm (pd_lst (pda_cons (pd_var (pv 3)) (pda_cons (pd_neg (pd_int)) (pda_cons (pd_bl) (pda_cons (pd_bl) (pda_cons (pd_non) (pda_cons (pd_str) (pda_cons (pd_op op_pow snd_pow (pd_nrm (pd_int)) (pd_nrm (pd_int))) (pda_cons (pd_op op_sub snd_sub (pd_nrm (pd_var (pv 3))) (pd_nrm (pd_int))) (pda_cons (pd_tup (pda_cons (pd_int) (pda_nil))) (pda_nil)))))))))))) (pd_call F__law_draw (hr.mono (by decide)) rfl Z.g__law_draw kp__law_draw B__law_draw xo (pda_cons (pd_var (pv 0)) (pda_cons (pd_int) (pda_nil))))))
  (pdss_cons (pds_set (i := 7) sc__law_bent_doors.nd rfl (Or.inl rfl) (pd_lst (pda_cons (pd_tup (pda_cons (pd_ix (pd_nrm (pd_var (pv 5))) (pd_int)) (pda_cons (pd_var (pv 6)) (pda_nil)))) (pda_cons (pd_tup (pda_cons (pd_var (pv 6)) (pda_cons (pd_ix (pd_nrm (pd_var (pv 5))) (pd_int)) (pda_nil)))) (pda_cons (pd_tup (pda_cons (pd_str) (pda_cons (pd_ix (pd_nrm (pd_var (pv 5))) (pd_int)) (pda_nil)))) (pda_cons (pd_callTy call_list_of snd_list rfl Z.b_list (by decide +kernel) (pda_cons (pd_nrm (pd_var (pv 5))) (pda_nil))) (pda_cons (pd_op op_addA snd_add (pd_nrm (pd_var (pv 5))) (pd_nrm (pd_tup (pda_cons (pd_int) (pda_nil))))) (pda_cons (pd_slice (pd_nrm (pd_var (pv 5))) pdo_none (pdo_some (pd_int))) (pda_nil)))))))))
  (pdss_cons (pds_set (i := 7) sc__law_bent_doors.nd rfl (Or.inl rfl) (pd_op op_addA snd_add (pd_nrm (pd_var (pv 7))) (pd_nrm (pd_lst (pda_cons (pd_revT (pd_nrm (pd_var (pv 5)))) (pda_cons (pd_tup (pda_nil)) (pda_cons (pd_int) (pda_cons (pd_str) (pda_cons (pd_non) (pda_cons (pd_tup (pda_cons (pd_lst (pda_cons (pd_str) (pda_nil))) (pda_cons (pd_ix (pd_nrm (pd_var (pv 5))) (pd_int)) (pda_nil)))) (pda_cons (pd_tup (pda_cons (pd_newF) (pda_cons (pd_ix (pd_nrm (pd_var (pv 5))) (pd_int)) (pda_nil)))) (pda_cons (pd_tup (pda_cons (pd_ix (pd_nrm (pd_var (pv 5))) (pd_int)) (pda_cons (pd_lst (pda_cons (pd_str) (pda_nil))) (pda_nil)))) (pda_nil)))))))))))))
  (pdss_cons (pds_set (i := 8) sc__law_bent_doors.nd rfl (Or.inl rfl) (pd_lst (pda_cons (pd_op op_addA snd_add (pd_nrm (pd_op op_addA snd_add (pd_nrm (pd_slice (pd_nrm (pd_var (pv 1))) pdo_none (pdo_some (pd_var (pv 4))))) (pd_nrm (pd_tup (pda_cons (pd_ix (pd_nrm (pd_var (pv 7))) (pd_call F__law_draw (hr.mono (by decide)) rfl Z.g__law_draw kp__law_draw B__law_draw xo (pda_cons (pd_var (pv 0)) (pda_cons (pd_int) (pda_nil))))) (pda_nil)))))) (pd_nrm (pd_slice (pd_nrm (pd_var (pv 1))) (pdo_some (pd_op op_addA snd_add (pd_nrm (pd_var (pv 4))) (pd_nrm (pd_int)))) pdo_none))) (pda_cons (pd_op op_addA snd_add (pd_nrm (pd_slice (pd_nrm (pd_var (pv 1))) pdo_none (pdo_some (pd_var (pv 4))))) (pd_nrm (pd_slice (pd_nrm (pd_var (pv 1))) (pdo_some (pd_op op_addA snd_add (pd_nrm (pd_var (pv 4))) (pd_nrm (pd_int)))) pdo_none))) (pda_nil)))))
  (pdss_cons (pds_set (i := 8) sc__law_bent_doors.nd rfl (Or.inl rfl) (pd_op op_addA snd_add (pd_nrm (pd_var (pv 8))) (pd_nrm (pd_lst (pda_cons (pd_op op_addA snd_add (pd_nrm (pd_var (pv 1))) (pd_nrm (pd_slice (pd_nrm (pd_var (pv 1))) pdo_none (pdo_some (pd_int))))) (pda_cons (pd_callTy call_list_of snd_list rfl Z.b_list (by decide +kernel) (pda_cons (pd_nrm (pd_var (pv 1))) (pda_nil))) (pda_cons (pd_non) (pda_cons (pd_tup (pda_nil)) (pda_cons (pd_ix (pd_nrm (pd_var (pv 1))) (pd_int)) (pda_nil))))))))))
  (pdss_one (pds_ret (pd_ix (pd_nrm (pd_var (pv 8))) (pd_ix (pd_nrm (pd_lst (pda_cons (pd_int) (pda_cons (pd_int) (pda_cons (pd_int) (pda_cons (pd_int) (pda_cons (pd_int) (pda_cons (pd_int) (pda_cons (pd_int) (pda_cons (pd_int) (pda_cons (pd_int) (pda_cons (pd_int) (pda_nil))))))))))))) (pd_call F__law_draw (hr.mono (by decide)) rfl Z.g__law_draw kp__law_draw B__law_draw xo (pda_cons (pd_var (pv 0)) (pda_cons (pd_int) (pda_nil))))))))))))))), ?_⟩
  rw [hW]
  exact L._law_bent_doors h
def Ok__law_bent (P : Program) (w : World) (K : PySem.W.Frag) (mg : Str → Option Value) (base : Heap) : Prop := ∃ fd, FnOk P w K mg base (L2.CX P w) 3 (He.ga K "_law_bent") fd ["_law_state", "_law_parts_here"] (liftSp K (sp__law_bent K)) ∧ Binds K fd ["_law_state", "_law_parts_here"] []
theorem ok__law_bent (Z : Fx K mg) (L : Lw K) (R : Rw P w K mg base) : Ok__law_bent P w K mg base := by
  obtain ⟨fd, F⟩ := Z.d__law_bent
  obtain ⟨fd__law_draw, F__law_draw, B__law_draw⟩ := ok__law_draw (P := P) (w := w) (base := base) Z L R
  have kp__law_draw : PySem.W.keepIn K (.ref (He.ga K "_law_draw")) = true := Z.d__law_draw.choose_spec.kp
  obtain ⟨fd__law_bent_names, F__law_bent_names, B__law_bent_names⟩ := ok__law_bent_names (P := P) (w := w) (base := base) Z L R
  have kp__law_bent_names : PySem.W.keepIn K (.ref (He.ga K "_law_bent_names")) = true := Z.d__law_bent_names.choose_spec.kp
  obtain ⟨fd__law_bent_doors, F__law_bent_doors, B__law_bent_doors⟩ := ok__law_bent_doors (P := P) (w := w) (base := base) Z L R
  have kp__law_bent_doors : PySem.W.keepIn K (.ref (He.ga K "_law_bent_doors")) = true := Z.d__law_bent_doors.choose_spec.kp
  refine ⟨fd, fn_mkD F sc__law_bent len2 (fun X Δ M ds Q E cx xo hW h => ?_), F.bindsN fun _ _ _ _ _ _ us hl => match us, hl with | [_, _], _ => rfl⟩
  obtain ⟨cdv, A, outer, s, H, Ev, eX, hr⟩ := cx
  subst eX
  have hu := hu_of hr
  have hu65 := hu65_of hr
  have hu1 := hu1_of hr
  refine ⟨_, rd__law_bent K Δ.Wd, (pdss_cons (pds_asg (pd_nrm (pd_var (pv 1))) (pdg_tup rfl (pdgs_cons (pdg_name (pg_name sc__law_bent.nd (i := 2) rfl (Or.inl rfl))) (pdgs_cons (pdg_name (pg_name sc__law_bent.nd (i := 3) rfl (Or.inl rfl))) (pdgs_cons (pdg_name (pg_name sc__law_bent.nd (i := 4) rfl (Or.inl rfl))) (pdgs_nil))))))
  (pdss_cons (pds_par (i := 5) (j := 6) rfl sc__law_bent.nd rfl rfl (by decide) rfl rfl (pd_call F__law_draw (hr.mono (by decide)) rfl Z.g__law_draw kp__law_draw B__law_draw xo (pda_cons (pd_var (pv 0)) (pda_cons (pd_int) (pda_nil)))) (pd_call F__law_draw (hr.mono (by decide)) rfl Z.g__law_draw kp__law_draw B__law_draw xo (pda_cons (pd_var (pv 0)) (pda_cons (pd_callB (call_max2 rfl) snd_max rfl Z.b_max (by decide +kernel) (pda_cons (pd_nrm (pd_int)) (pda_cons (pd_nrm (pd_callB call_lenA snd_len rfl Z.b_len (by decide +kernel) (pda_cons (pd_nrm (pd_var (pv 4))) (pda_nil)))) (pda_nil)))) (pda_nil)))))
  (pdss_cons (pds_if (pdt_cmp (op_eqD hu) snd_eq (pd_nrm (pd_var (pv 5))) (pd_nrm (pd_int)) (by rfl)) (pdss_one (pds_ret (pd_tup (pda_cons (pd_call F__law_bent_names (hr.mono (by decide)) rfl Z.g__law_bent_names kp__law_bent_names B__law_bent_names xo (pda_cons (pd_var (pv 0)) (pda_cons (pd_var (pv 2)) (pda_nil)))) (pda_cons (pd_var (pv 3)) (pda_cons (pd_var (pv 4)) (pda_nil))))))) pdss_nil)
  (pdss_cons (pds_if (pdt_cmp (op_eqD hu) snd_eq (pd_nrm (pd_var (pv 5))) (pd_nrm (pd_int)) (by rfl)) (pdss_one (pds_ret (pd_tup (pda_cons (pd_var (pv 2)) (pda_cons (pd_call F__law_bent_names (hr.mono (by decide)) rfl Z.g__law_bent_names kp__law_bent_names B__law_bent_names xo (pda_cons (pd_var (pv 0)) (pda_cons (pd_var (pv 3)) (pda_nil)))) (pda_cons (pd_var (pv 4)) (pda_nil))))))) pdss_nil)
  (pdss_cons (pds_if (pdt_cmp (op_eqD hu) snd_eq (pd_nrm (pd_var (pv 5))) (pd_nrm (pd_int)) (by rfl)) (pdss_cons (pds_set (i := 7) sc__law_bent.nd rfl (Or.inl rfl) (pd_lst (pda_cons (pd_callTy call_list_of snd_list rfl Z.b_list (by decide +kernel) (pda_cons (pd_nrm (pd_var (pv 4))) (pda_nil))) (pda_cons (pd_tup (pda_nil)) (pda_cons (pd_non) (pda_cons (pd_slice (pd_nrm (pd_var (pv 4))) pdo_none (pdo_some (pd_neg (pd_int)))) (pda_cons (pd_op op_mulB snd_mulE (pd_nrm (pd_var (pv 4))) (pd_nrm (pd_int))) (pda_cons (pd_op op_mulB snd_mulE (pd_nrm (pd_slice (pd_nrm (pd_var (pv 4))) pdo_none (pdo_some (pd_int)))) (pd_nrm (pd_int))) (pda_cons (pd_op op_mulB snd_mulE (pd_nrm (pd_slice (pd_nrm (pd_var (pv 4))) pdo_none (pdo_some (pd_int)))) (pd_nrm (pd_int))) (pda_cons (pd_newF) (pda_nil)))))))))))
  (pdss_cons (pds_set (i := 7) sc__law_bent.nd rfl (Or.inl rfl) (pd_op op_addA snd_add (pd_nrm (pd_var (pv 7))) (pd_nrm (pd_lst (pda_cons (pd_ix (pd_nrm (pd_var (pv 4))) (pd_int)) (pda_cons (pd_str) (pda_nil)))))))
  (pdss_one (pds_ret (pd_tup (pda_cons (pd_var (pv 2)) (pda_cons (pd_var (pv 3)) (pda_cons (pd_ix (pd_nrm (pd_var (pv 7))) (pd_call F__law_draw (hr.mono (by decide)) rfl Z.g__law_draw kp__law_draw B__law_draw xo (pda_cons (pd_var (pv 0)) (pda_cons (pd_int) (pda_nil))))) (pda_nil))))))))) pdss_nil)
  (pdss_cons (pds_set (i := 8) sc__law_bent.nd rfl (Or.inl rfl) (pd_call F__law_bent_doors (hr.mono (by decide)) rfl Z.g__law_bent_doors kp__law_bent_doors B__law_bent_doors xo (pda_cons (pd_var (pv 0)) (pda_cons (pd_ix (pd_nrm (pd_var (pv 4))) (pd_var (pv 6))) (pda_cons (pd_var (pv 3)) (pda_cons (pd_callB call_lenA snd_len rfl Z.b_len (by decide +kernel) (pda_cons (pd_nrm (pd_var (pv 4))) (pda_nil))) (pda_nil)))))))
  (pdss_one (pds_ret (pd_tup (pda_cons (pd_var (pv 2)) (pda_cons (pd_var (pv 3)) (pda_cons (pd_op op_addA snd_add (pd_nrm (pd_op op_addA snd_add (pd_nrm (pd_slice (pd_nrm (pd_var (pv 4))) pdo_none (pdo_some (pd_var (pv 6))))) (pd_nrm (pd_tup (pda_cons (pd_var (pv 8)) (pda_nil)))))) (pd_nrm (pd_slice (pd_nrm (pd_var (pv 4))) (pdo_some (pd_op op_addA snd_add (pd_nrm (pd_var (pv 6))) (pd_nrm (pd_int)))) pdo_none))) (pda_nil))))))))))))), ?_⟩
  rw [hW]
  exact L._law_bent h
def Ok__law_are_names (P : Program) (w : World) (K : PySem.W.Frag) (mg : Str → Option Value) (base : Heap) : Prop := ∃ fd, FnOk P w K mg base (L2.CX P w) 2 (He.ga K "_law_are_names") fd ["_law_what", "_law_low", "_law_most"] (liftSp K (sp__law_are_names K)) ∧ Binds K fd ["_law_what", "_law_low", "_law_most"] []
theorem ok__law_are_names (Z : Fx K mg) (L : Lw K) (R : Rw P w K mg base) : Ok__law_are_names P w K mg base := by
  obtain ⟨fd, F⟩ := Z.d__law_are_names
  obtain ⟨fd__law_is_name, F__law_is_name, B__law_is_name⟩ := ok__law_is_name (P := P) (w := w) (base := base) Z L R
  have kp__law_is_name : PySem.W.keepIn K (.ref (He.ga K "_law_is_name")) = true := Z.d__law_is_name.choose_spec.kp
  refine ⟨fd, fn_mkD F sc__law_are_names len3 (fun X Δ M ds Q E cx xo hW h => ?_), F.bindsN fun _ _ _ _ _ _ us hl => match us, hl with | [_, _, _], _ => rfl⟩
  obtain ⟨cdv, A, outer, s, H, Ev, eX, hr⟩ := cx
  subst eX
  have hu := hu_of hr
  have hu65 := hu65_of hr
  have hu1 := hu1_of hr
  refine ⟨_, rd__law_are_names K Δ.Wd, (pdss_cons (pds_if (pdt_w (pdw_or (pdt_not (pdt_tru (pd_nrm (pd_callB call_isi snd_isi rfl Z.b_isinstance (by decide +kernel) (pda_cons (pd_var (pv 0)) (pda_cons (pd_bltn rfl Z.b_tuple (by decide +kernel)) (pda_nil))))))) (pdw_or1 (pdt_not (pdt_chain op_le snd_int op_le snd_int (pd_nrm (pd_var (pv 1))) (pd_nrm (pd_callB call_lenA snd_len rfl Z.b_len (by decide +kernel) (pda_cons (pd_nrm (pd_var (pv 0))) (pda_nil)))) (pd_nrm (pd_var (pv 2)))))))) (pdss_one (pds_ret (pd_bl))) pdss_nil)
  (pdss_cons (pds_if (pdt_cmp (op_neE hu) snd_eqE (pd_nrm (pd_lcX rfl sc__law_are_names.nd (pdi_seq (pd_nrm (pd_var (pv 0)))) (own := [("_law_one", 3)]) (blkB_ok (by kernel_rfl)) (fun _ _ _ _ _ _ => ⟨_, (pdgw_name (pg_name sc__law_are_names.nd (i := 3) rfl (Or.inl rfl)) (by decide))⟩) (fun _ _ _ _ _ _ => ⟨_, (pdts_one (pdt_not (pdt_tru (pd_nrm (pd_call F__law_is_name (hr.mono (by decide)) rfl Z.g__law_is_name kp__law_is_name B__law_is_name xok_blk (pda_cons (pd_var (pv 3)) (pda_nil)))))))⟩) (fun _ _ _ _ _ _ => ⟨_, (pd_var (pv 3))⟩))) (pd_nrm (pd_lst (pda_nil))) (by rfl)) (pdss_one (pds_ret (pd_bl))) pdss_nil)
  (pdss_one (pds_ret (pd_and (pd_cmp (op_eqD hu) snd_eq (pd_nrm (pd_callTy call_list_of snd_list rfl Z.b_list (by decide +kernel) (pda_cons (pd_nrm (pd_var (pv 0))) (pda_nil)))) (pd_nrm (pd_callB call_sortTu snd_sortTu rfl Z.b_sorted (by decide +kernel) (pda_cons (pd_nrm (pd_var (pv 0))) (pda_nil)))) (by rfl)) (pd_one (pd_cmp (op_eqD hu) snd_eq (pd_nrm (pd_lenSet rfl rfl Z.b_len (by decide +kernel) rfl Z.b_set (by decide +kernel) (pd_nrm (pd_var (pv 0))))) (pd_nrm (pd_callB call_lenA snd_len rfl Z.b_len (by decide +kernel) (pda_cons (pd_nrm (pd_var (pv 0))) (pda_nil)))) (by rfl)))))))), ?_⟩
  rw [hW]
  exact L._law_are_names h
def Ok__law_is_door (P : Program) (w : World) (K : PySem.W.Frag) (mg : Str → Option Value) (base : Heap) : Prop := ∃ fd, FnOk P w K mg base (L2.CX P w) 1 (He.ga K "_law_is_door") fd ["_law_what", "_law_marks", "_law_many"] (liftSp K (sp__law_is_door K)) ∧ Binds K fd ["_law_what", "_law_marks", "_law_many"] []
theorem ok__law_is_door (Z : Fx K mg) (L : Lw K) (R : Rw P w K mg base) : Ok__law_is_door P w K mg base := by
  obtain ⟨fd, F⟩ := Z.d__law_is_door
  refine ⟨fd, fn_mkD F sc__law_is_door len3 (fun X Δ M ds Q E cx xo hW h => ?_), F.bindsN fun _ _ _ _ _ _ us hl => match us, hl with | [_, _, _], _ => rfl⟩
  obtain ⟨cdv, A, outer, s, H, Ev, eX, hr⟩ := cx
  subst eX
  have hu := hu_of hr
  have hu65 := hu65_of hr
  have hu1 := hu1_of hr
  refine ⟨_, rd__law_is_door K Δ.Wd, (pdss_cons (pds_if (pdt_cmp op_isN snd_is (pd_nrm (pd_var (pv 0))) (pd_nrm (pd_non)) (by rfl)) (pdss_one (pds_ret (pd_bl))) pdss_nil)
  (pdss_cons (pds_if (pdt_w (pdw_or (pdt_not (pdt_tru (pd_nrm (pd_callB call_isi snd_isi rfl Z.b_isinstance (by decide +kernel) (pda_cons (pd_var (pv 0)) (pda_cons (pd_bltn rfl Z.b_tuple (by decide +kernel)) (pda_nil))))))) (pdw_or (pdt_cmp (op_neD hu) snd_ne (pd_nrm (pd_callB call_lenA snd_len rfl Z.b_len (by decide +kernel) (pda_cons (pd_nrm (pd_var (pv 0))) (pda_nil)))) (pd_nrm (pd_int)) (by rfl)) (pdw_or (pdt_not (pdt_tru (pd_nrm (pd_callB call_isi snd_isi rfl Z.b_isinstance (by decide +kernel) (pda_cons (pd_ix (pd_nrm (pd_var (pv 0))) (pd_int)) (pda_cons (pd_bltn rfl Z.b_str (by decide +kernel)) (pda_nil))))))) (pdw_or1 (pdt_cmp op_notInA (snd_in (neg := true)) (pd_nrm (pd_ix (pd_nrm (pd_var (pv 0))) (pd_int))) (pd_nrm (pd_var (pv 1))) (by rfl))))))) (pdss_one (pds_ret (pd_bl))) pdss_nil)
  (pdss_one (pds_ret (pd_and (pd_callB call_isi snd_isi rfl Z.b_isinstance (by decide +kernel) (pda_cons (pd_ix (pd_nrm (pd_var (pv 0))) (pd_int)) (pda_cons (pd_bltn rfl Z.b_int (by decide +kernel)) (pda_nil)))) (pd_and (pd_not (pd_nrm (pd_callB call_isi snd_isi rfl Z.b_isinstance (by decide +kernel) (pda_cons (pd_ix (pd_nrm (pd_var (pv 0))) (pd_int)) (pda_cons (pd_bltn rfl Z.b_bool (by decide +kernel)) (pda_nil)))))) (pd_one (pd_chain op_le snd_int op_ltA snd_lt (pd_nrm (pd_int)) (pd_nrm (pd_ix (pd_nrm (pd_var (pv 0))) (pd_int))) (pd_nrm (pd_var (pv 2))))))))))), ?_⟩
  rw [hW]
  exact L._law_is_door h
def Ok__law_good (P : Program) (w : World) (K : PySem.W.Frag) (mg : Str → Option Value) (base : Heap) : Prop := ∃ fd, FnOk P w K mg base (L2.CX P w) 3 (He.ga K "_law_good") fd ["_law_parts_here"] (liftSp K (sp__law_good K)) ∧ Binds K fd ["_law_parts_here"] []
theorem ok__law_good (Z : Fx K mg) (L : Lw K) (R : Rw P w K mg base) : Ok__law_good P w K mg base := by
  obtain ⟨fd, F⟩ := Z.d__law_good
  obtain ⟨fd__law_are_names, F__law_are_names, B__law_are_names⟩ := ok__law_are_names (P := P) (w := w) (base := base) Z L R
  have kp__law_are_names : PySem.W.keepIn K (.ref (He.ga K "_law_are_names")) = true := Z.d__law_are_names.choose_spec.kp
  obtain ⟨fd__law_is_door, F__law_is_door, B__law_is_door⟩ := ok__law_is_door (P := P) (w := w) (base := base) Z L R
  have kp__law_is_door : PySem.W.keepIn K (.ref (He.ga K "_law_is_door")) = true := Z.d__law_is_door.choose_spec.kp
  refine ⟨fd, fn_mkD F sc__law_good len1 (fun X Δ M ds Q E cx xo hW h => ?_), F.bindsN fun _ _ _ _ _ _ us hl => match us, hl with | [_], _ => rfl⟩
  obtain ⟨cdv, A, outer, s, H, Ev, eX, hr⟩ := cx
  subst eX
  have hu := hu_of hr
  have hu65 := hu65_of hr
  have hu1 := hu1_of hr
  refine ⟨_, rd__law_good K Δ.Wd, (pdss_cons (pds_asg (pd_nrm (pd_var (pv 0))) (pdg_tup rfl (pdgs_cons (pdg_name (pg_name sc__law_good.nd (i := 1) rfl (Or.inl rfl))) (pdgs_cons (pdg_name (pg_name sc__law_good.nd (i := 2) rfl (Or.inr rfl))) (pdgs_cons (pdg_name (pg_name sc__law_good.nd (i := 3) rfl (Or.inr rfl))) (pdgs_nil))))))
  (pdss_cons (pds_if (pdt_w (pdw_or (pdt_not (pdt_tru (pd_nrm (pd_call F__law_are_names (hr.mono (by decide)) rfl Z.g__law_are_names kp__law_are_names B__law_are_names xo (pda_cons (pd_var (pv 1)) (pda_cons (pd_int) (pda_cons (pd_int) (pda_nil)))))))) (pdw_or1 (pdt_not (pdt_tru (pd_nrm (pd_call F__law_are_names (hr.mono (by decide)) rfl Z.g__law_are_names kp__law_are_names B__law_are_names xo (pda_cons (pd_var (pv 2)) (pda_cons (pd_int) (pda_cons (pd_int) (pda_nil))))))))))) (pdss_one (pds_ret (pd_bl))) pdss_nil)
  (pdss_cons (pds_if (pdt_w (pdw_or (pdt_not (pdt_tru (pd_nrm (pd_callB call_isi snd_isi rfl Z.b_isinstance (by decide +kernel) (pda_cons (pd_var (pv 3)) (pda_cons (pd_bltn rfl Z.b_tuple (by decide +kernel)) (pda_nil))))))) (pdw_or1 (pdt_not (pdt_chain op_le snd_int op_le snd_int (pd_nrm (pd_int)) (pd_nrm (pd_callB call_lenA snd_len rfl Z.b_len (by decide +kernel) (pda_cons (pd_nrm (pd_var (pv 3))) (pda_nil)))) (pd_nrm (pd_int))))))) (pdss_one (pds_ret (pd_bl))) pdss_nil)
  (pdss_cons (pds_for (passes_of rfl) rfl (pdi_seq (pd_nrm (pd_var (pv 3)))) (pdg_name (pg_name sc__law_good.nd (i := 4) rfl (Or.inl rfl))) (pdss_cons (pds_if (pdt_w (pdw_or (pdt_not (pdt_tru (pd_nrm (pd_callB call_isi snd_isi rfl Z.b_isinstance (by decide +kernel) (pda_cons (pd_var (pv 4)) (pda_cons (pd_bltn rfl Z.b_tuple (by decide +kernel)) (pda_nil))))))) (pdw_or1 (pdt_cmp (op_neD hu) snd_ne (pd_nrm (pd_callB call_lenA snd_len rfl Z.b_len (by decide +kernel) (pda_cons (pd_nrm (pd_var (pv 4))) (pda_nil)))) (pd_nrm (pd_callB call_lenA snd_len rfl Z.b_len (by decide +kernel) (pda_cons (pd_nrm (pd_var (pv 1))) (pda_nil)))) (by rfl))))) (pdss_one (pds_ret (pd_bl))) pdss_nil)
  (pdss_one (pds_if (pdt_cmp (op_neE hu) snd_eqE (pd_nrm (pd_lcX rfl sc__law_good.nd (pdi_seq (pd_nrm (pd_var (pv 4)))) (own := [("_law_door", 5)]) (blkB_ok (by kernel_rfl)) (fun _ _ _ _ _ _ => ⟨_, (pdgw_name (pg_name sc__law_good.nd (i := 5) rfl (Or.inl rfl)) (by decide))⟩) (fun _ _ _ _ _ _ => ⟨_, (pdts_one (pdt_not (pdt_tru (pd_nrm (pd_call F__law_is_door (hr.mono (by decide)) rfl Z.g__law_is_door kp__law_is_door B__law_is_door xok_blk (pda_cons (pd_var (pv 5)) (pda_cons (pd_var (pv 2)) (pda_cons (pd_callB call_lenA snd_len rfl Z.b_len (by decide +kernel) (pda_cons (pd_nrm (pd_var (pv 3))) (pda_nil))) (pda_nil)))))))))⟩) (fun _ _ _ _ _ _ => ⟨_, (pd_var (pv 5))⟩))) (pd_nrm (pd_lst (pda_nil))) (by rfl)) (pdss_one (pds_ret (pd_bl))) pdss_nil))))
  (pdss_one (pds_ret (pd_bl))))))), ?_⟩
  rw [hW]
  exact L._law_good h
theorem okl_law (Z : Fx K mg) (L : Lw K) (R : Rw P w K mg base) {fd : FuncData} (F : FunD K "law" "law" (defArgs (top 36)) (defBody (top 36)) (defScope (top 36)) [] [] (He.ga K "law") fd) : OkG P w K mg base 7 (He.ga K "law") fd ["_law_script"] (sp_law K) := by
  obtain ⟨fd__law_begun, F__law_begun, B__law_begun⟩ := ok__law_begun (P := P) (w := w) (base := base) Z L R
  have kp__law_begun : PySem.W.keepIn K (.ref (He.ga K "_law_begun")) = true := Z.d__law_begun.choose_spec.kp
  obtain ⟨fd__law_parts, F__law_parts, B__law_parts⟩ := ok__law_parts (P := P) (w := w) (base := base) Z L R
  have kp__law_parts : PySem.W.keepIn K (.ref (He.ga K "_law_parts")) = true := Z.d__law_parts.choose_spec.kp
  obtain ⟨fd__law_draw, F__law_draw, B__law_draw⟩ := ok__law_draw (P := P) (w := w) (base := base) Z L R
  have kp__law_draw : PySem.W.keepIn K (.ref (He.ga K "_law_draw")) = true := Z.d__law_draw.choose_spec.kp
  obtain ⟨fd__law_name, F__law_name, B__law_name⟩ := ok__law_name (P := P) (w := w) (base := base) Z L R
  have kp__law_name : PySem.W.keepIn K (.ref (He.ga K "_law_name")) = true := Z.d__law_name.choose_spec.kp
  obtain ⟨fd__law_is_name, F__law_is_name, B__law_is_name⟩ := ok__law_is_name (P := P) (w := w) (base := base) Z L R
  have kp__law_is_name : PySem.W.keepIn K (.ref (He.ga K "_law_is_name")) = true := Z.d__law_is_name.choose_spec.kp
  obtain ⟨fd_is_name, F_is_name, B_is_name, kb_is_name_0⟩ := ok_is_name (P := P) (w := w) (base := base) Z L R
  have kp_is_name : PySem.W.keepIn K (.ref (He.ga K "is_name")) = true := Z.d_is_name.choose_spec.kp
  obtain ⟨fd__law_taken, F__law_taken, B__law_taken⟩ := ok__law_taken (P := P) (w := w) (base := base) Z L R
  have kp__law_taken : PySem.W.keepIn K (.ref (He.ga K "_law_taken")) = true := Z.d__law_taken.choose_spec.kp
  obtain ⟨fd__law_bent, F__law_bent, B__law_bent⟩ := ok__law_bent (P := P) (w := w) (base := base) Z L R
  have kp__law_bent : PySem.W.keepIn K (.ref (He.ga K "_law_bent")) = true := Z.d__law_bent.choose_spec.kp
  obtain ⟨fd__law_good, F__law_good, B__law_good⟩ := ok__law_good (P := P) (w := w) (base := base) Z L R
  have kp__law_good : PySem.W.keepIn K (.ref (He.ga K "_law_good")) = true := Z.d__law_good.choose_spec.kp
  refine okG_mk F sc_law len1 (fun X Δ M ds Q E cx hq xo hW h => ?_)
  obtain ⟨cdv, A, outer, s, H, Ev, eX, hr⟩ := cx
  subst eX
  have hu := hu_of hr
  have hu65 := hu65_of hr
  have hu1 := hu1_of hr
  refine ⟨_, rd_law K Δ.Wd, (pdss_cons (pds_set (i := 1) sc_law.nd rfl (Or.inl rfl) (pd_call F__law_begun (hr.mono (by decide)) rfl Z.g__law_begun kp__law_begun B__law_begun xo (pda_cons (pd_var (pv 0)) (pda_nil))))
  (pdss_cons (pds_for (passes_of rfl) rfl (pdi_rng1 rfl Z.b_range (pda_cons (pd_nrm (pd_int)) (pda_nil))) (pdg_name (pg_name sc_law.nd (i := 2) rfl (Or.inl rfl))) (pdss_cons (pds_set (i := 3) sc_law.nd rfl (Or.inl rfl) (pd_call F__law_parts (hr.mono (by decide)) rfl Z.g__law_parts kp__law_parts B__law_parts xo (pda_cons (pd_var (pv 1)) (pda_cons (pd_op op_addA snd_add (pd_nrm (pd_int)) (pd_nrm (pd_call F__law_draw (hr.mono (by decide)) rfl Z.g__law_draw kp__law_draw B__law_draw xo (pda_cons (pd_var (pv 1)) (pda_cons (pd_int) (pda_nil)))))) (pda_cons (pd_int) (pda_cons (pd_ix (pd_nrm (pd_lst (pda_cons (pd_int) (pda_cons (pd_int) (pda_nil))))) (pd_call F__law_draw (hr.mono (by decide)) rfl Z.g__law_draw kp__law_draw B__law_draw xo (pda_cons (pd_var (pv 1)) (pda_cons (pd_int) (pda_nil))))) (pda_nil)))))))
  (pdss_cons (pds_set (i := 4) sc_law.nd rfl (Or.inl rfl) (pd_call F__law_name (hr.mono (by decide)) rfl Z.g__law_name kp__law_name B__law_name xo (pda_cons (pd_var (pv 1)) (pda_nil))))
  (pdss_cons (pds_set (i := 5) sc_law.nd rfl (Or.inl rfl) (pd_call F__law_draw (hr.mono (by decide)) rfl Z.g__law_draw kp__law_draw B__law_draw xo (pda_cons (pd_var (pv 1)) (pda_cons (pd_op op_addA snd_add (pd_nrm (pd_callB call_lenA snd_len rfl Z.b_len (by decide +kernel) (pda_cons (pd_nrm (pd_var (pv 4))) (pda_nil)))) (pd_nrm (pd_int))) (pda_nil)))))
  (pdss_cons (pds_set (i := 6) sc_law.nd rfl (Or.inl rfl) (pd_ix (pd_nrm (pd_lst (pda_cons (pd_str) (pda_cons (pd_str) (pda_cons (pd_str) (pda_cons (pd_str) (pda_cons (pd_str) (pda_cons (pd_str) (pda_nil))))))))) (pd_call F__law_draw (hr.mono (by decide)) rfl Z.g__law_draw kp__law_draw B__law_draw xo (pda_cons (pd_var (pv 1)) (pda_cons (pd_int) (pda_nil))))))
  (pdss_cons (pds_set (i := 7) sc_law.nd rfl (Or.inl rfl) (pd_lst (pda_cons (pd_call F__law_name (hr.mono (by decide)) rfl Z.g__law_name kp__law_name B__law_name xo (pda_cons (pd_var (pv 1)) (pda_nil))) (pda_cons (pd_op op_addA snd_add (pd_nrm (pd_op op_addA snd_add (pd_nrm (pd_slice (pd_nrm (pd_var (pv 4))) pdo_none (pdo_some (pd_var (pv 5))))) (pd_nrm (pd_var (pv 6))))) (pd_nrm (pd_slice (pd_nrm (pd_var (pv 4))) (pdo_some (pd_var (pv 5))) pdo_none))) (pda_cons (pd_ix (pd_nrm (pd_var (pv 3))) (pd_int)) (pda_nil))))))
  (pdss_cons (pds_for (passes_of rfl) rfl (pdi_seq (pd_nrm (pd_op op_addA snd_add (pd_nrm (pd_var (pv 7))) (pd_nrm (pd_lst (pda_cons (pd_ix (pd_nrm (pd_ix (pd_nrm (pd_var (pv 3))) (pd_int))) (pd_int)) (pda_cons (pd_str) (pda_cons (pd_non) (pda_cons (pd_int) (pda_cons (pd_bl) (pda_cons (pd_lst (pda_cons (pd_str) (pda_nil))) (pda_cons (pd_str) (pda_cons (pd_str) (pda_nil)))))))))))))) (pdg_name (pg_name sc_law.nd (i := 8) rfl (Or.inl rfl))) (pdss_cons (pds_set (i := 9) sc_law.nd rfl (Or.inl rfl) (pd_call F__law_is_name (hr.mono (by decide)) rfl Z.g__law_is_name kp__law_is_name B__law_is_name xo (pda_cons (pd_var (pv 8)) (pda_nil))))
  (pdss_one (pds_if (pdt_cmp (op_neD hu) snd_ne (pd_nrm (pd_callB (call_repr hq hu) snd_repr rfl Z.b_repr (by decide +kernel) (pda_cons (pd_nrm (pd_lst (pda_cons (pd_call F_is_name (hr.mono (by decide)) rfl Z.g_is_name kp_is_name B_is_name xo (pda_cons (pd_var (pv 8)) (pda_nil))) (pda_cons (pd_callK0 (ks := ["thing"]) F_is_name (hr.mono (by decide)) rfl Z.g_is_name kp_is_name kb_is_name_0 perm_rps xo (pdk_cons (pd_var (pv 8)) (pdk_nil))) (pda_nil))))) (pda_nil)))) (pd_nrm (pd_callB (call_repr hq hu) snd_repr rfl Z.b_repr (by decide +kernel) (pda_cons (pd_nrm (pd_lst (pda_cons (pd_var (pv 9)) (pda_cons (pd_var (pv 9)) (pda_nil))))) (pda_nil)))) (by rfl)) (pdss_one (pds_ret (pd_bl))) pdss_nil))))
  (pdss_cons (pds_if (pdt_cmp op_notBlN snd_notBl (pd_nrm (pd_call F__law_taken (hr.mono (by decide)) rfl Z.g__law_taken kp__law_taken B__law_taken xo (pda_cons (pd_var (pv 3)) (pda_nil)))) (pd_nrm (pd_bl)) (by rfl)) (pdss_one (pds_ret (pd_bl))) pdss_nil)
  (pdss_one (pds_for (passes_of rfl) rfl (pdi_rng1 rfl Z.b_range (pda_cons (pd_nrm (pd_int)) (pda_nil))) (pdg_name (pg_name sc_law.nd (i := 10) rfl (Or.inl rfl))) (pdss_cons (pds_set (i := 11) sc_law.nd rfl (Or.inl rfl) (pd_call F__law_bent (hr.mono (by decide)) rfl Z.g__law_bent kp__law_bent B__law_bent xo (pda_cons (pd_var (pv 1)) (pda_cons (pd_var (pv 3)) (pda_nil)))))
  (pdss_cons (pds_if (pdt_w (pdw_and (pdt_cmp (op_eqD hu) snd_eq (pd_nrm (pd_op op_mod snd_mod (pd_nrm (pd_var (pv 10))) (pd_nrm (pd_int)))) (pd_nrm (pd_int)) (by rfl)) (pdw_and1 (pdt_tru (pd_nrm (pd_call F__law_good (hr.mono (by decide)) rfl Z.g__law_good kp__law_good B__law_good xo (pda_cons (pd_var (pv 11)) (pda_nil)))))))) (pdss_one (pds_set (i := 11) sc_law.nd rfl (Or.inl rfl) (pd_call F__law_bent (hr.mono (by decide)) rfl Z.g__law_bent kp__law_bent B__law_bent xo (pda_cons (pd_var (pv 1)) (pda_cons (pd_var (pv 11)) (pda_nil)))))) pdss_nil)
  (pdss_one (pds_if (pdt_cmp (op_neD hu) snd_ne (pd_nrm (pd_call F__law_taken (hr.mono (by decide)) rfl Z.g__law_taken kp__law_taken B__law_taken xo (pda_cons (pd_var (pv 11)) (pda_nil)))) (pd_nrm (pd_call F__law_good (hr.mono (by decide)) rfl Z.g__law_good kp__law_good B__law_good xo (pda_cons (pd_var (pv 11)) (pda_nil)))) (by rfl)) (pdss_one (pds_ret (pd_bl))) pdss_nil))))))))))))))
  (pdss_one (pds_ret (pd_bl))))), ?_⟩
  rw [hW]
  exact L.law h
end
end BB

set_option maxHeartbeats 4000000
namespace BB
open L2 PySem PySem.Spec PyProof.Rows
theorem lwAll (K : PySem.W.Frag) : Lw K where
  _law_name := lw__law_name
  _law_names := lw__law_names
  _law_parts := lw__law_parts
  _law_is_name := lw__law_is_name
  is_name := lw_is_name
  are_names := lw_are_names
  is_count := lw_is_count
  is_door := lw_is_door
  are_rooms := lw_are_rooms
  Plan___init__ := lw_Plan___init__
  _law_taken := lw__law_taken
  _law_bent_names := lw__law_bent_names
  _law_bent_doors := lw__law_bent_doors
  _law_bent := lw__law_bent
  _law_are_names := lw__law_are_names
  _law_is_door := lw__law_is_door
  _law_good := lw__law_good
  law := lw_law
section
variable {base : Heap} {mg : Str → Option Value} {K : PySem.W.Frag} {P : Program} {w : World}
theorem lenX : ∀ ds M Q E, spX_draw ds M Q E → ds.length = 2 := by
  rintro _ _ _ _ ⟨_, _, _, _, _, _, _, rfl, _⟩
  rfl
theorem ok_draw (Z : Fx K mg) : Ok__law_draw P w K mg base := by
  obtain ⟨fd, F⟩ := Z.d__law_draw
  have F1 : FnOk P w K mg base (L2.CX P w) 1 (He.ga K "_law_draw") fd ["_law_state", "_law_many"] (liftSp K spX_draw) := by
    refine fn_mkD F sc__law_draw lenX (fun X Δ M ds Q E cx xo hW h => ?_)
    obtain ⟨cdv, A, outer, s, H, Ev, eX, hr⟩ := cx
    subst eX
    have hu := hu_of hr
    exact ⟨_, rdX_draw, (pdss_cons (pds_set (i := 2) sc__law_draw.nd rfl (Or.inl rfl) (pd_ix (pd_nrm (pd_var (pv 0))) (pd_int)))
  (pdss_cons (pds_set (i := 3) sc__law_draw.nd rfl (Or.inl rfl) (pd_op op_mod snd_mod (pd_nrm (pd_ix (pd_nrm (pd_var (pv 0))) (pd_int))) (pd_nrm (pd_callB call_lenA snd_len rfl Z.b_len (by decide +kernel) (pda_cons (pd_nrm (pd_var (pv 2))) (pda_nil))))))
  (pdss_cons (pds_set (i := 4) sc__law_draw.nd rfl (Or.inl rfl) (pd_ix (pd_nrm (pd_var (pv 2))) (pd_var (pv 3))))
  (pdss_cons (pds_if (pdt_cmp op_ge snd_int (pd_nrm (pd_var (pv 4))) (pd_nrm (pd_int)) (by rfl)) (pdss_cons (pds_asg (pd_op op_fdiv snd_div (pd_nrm (pd_var (pv 4))) (pd_nrm (pd_var (pv 1)))) (pdg_sub (pd_var (pv 2)) (pd_var (pv 3))))
  (pdss_one (pds_ret (pd_op op_mod snd_mod (pd_nrm (pd_var (pv 4))) (pd_nrm (pd_var (pv 1))))))) pdss_nil)
  (pdss_cons (pds_asg (pd_op op_addA snd_add (pd_nrm (pd_ix (pd_nrm (pd_var (pv 0))) (pd_int))) (pd_nrm (pd_int))) (pdg_sub (pd_var (pv 0)) (pd_int)))
  (pdss_cons (pds_asg (pd_op op_mod snd_mod (pd_nrm (pd_op op_addA snd_add (pd_nrm (pd_op op_addA snd_add (pd_nrm (pd_op op_mulB snd_mulE (pd_nrm (pd_ix (pd_nrm (pd_var (pv 0))) (pd_int))) (pd_nrm (pd_int)))) (pd_nrm (pd_var (pv 4))))) (pd_nrm (pd_int)))) (pd_nrm (pd_int))) (pdg_sub (pd_var (pv 0)) (pd_int)))
  (pdss_one (pds_ret (pd_op op_mod snd_mod (pd_nrm (pd_op op_fdiv snd_div (pd_nrm (pd_op op_mod snd_mod (pd_nrm (pd_op op_mulB snd_mulE (pd_nrm (pd_ix (pd_nrm (pd_var (pv 0))) (pd_int))) (pd_nrm (pd_ix (pd_nrm (pd_var (pv 0))) (pd_int))))) (pd_nrm (pd_int)))) (pd_nrm (pd_int)))) (pd_nrm (pd_var (pv 1)))))))))))), lwX_draw h⟩
  refine ⟨fd, F1.imp (fun vs H Q E h => ?_), F.bindsN fun _ _ _ _ _ _ us hl => match us, hl with | [_, _], _ => rfl⟩
  obtain ⟨F0, I, M, ds, Qd, Ed, A, r, ⟨s, n, rfl, a, c, m, rfl, hm, rfl, h0, h1, q⟩, hn, hx⟩ := h
  obtain ⟨cells, p, x, g, hca, hMc, A1⟩ := A.explode hm
  refine ⟨F0, I, _, [.ref a, .int m], fun d M' => ∃ cells' p' x' r, Good cells' p' x' ∧ 0 ≤ r ∧ r < m ∧ d = .int r ∧ M' = openM M a c cells' p' x', fun _ _ _ => False, A1, r,
    ⟨a, c, M, cells, p, x, m, rfl, hca, rfl, g, h0, h1, fun cells' p' x' r g' k1 k2 => ⟨cells', p', x', r, g', k1, k2, rfl, rfl⟩⟩, ?_, fun _ _ _ _ _ _ _ _ _ w => w.elim⟩
  rintro d M' I' H' v x2 A2 rv ⟨cells', p', x', r', g', k1, k2, rfl, rfl⟩
  exact hn _ M I' H' v x2 (A2.implode hm hMc hca g') rv (q r' k1 k2)
theorem opened {M : Mem} {a c : Addr} {cells : List Int} {p x : Int} (hca : c ≠ a) : openM M a c cells p x = openM (mset (mset M c (.own a)) a (.gen c)) a c cells p x := by
  unfold openM
  funext b
  by_cases h1 : b = a
  · rw [h1, mset_same, mset_same]
  · rw [mset_ne h1, mset_ne h1]
    by_cases h2 : b = c
    · rw [h2, mset_same, mset_same]
    · rw [mset_ne h2, mset_ne h2, mset_ne h1, mset_ne h2]
theorem ok_begun (Z : Fx K mg) : Ok__law_begun P w K mg base := by
  obtain ⟨fd, F⟩ := Z.d__law_begun
  have F1 : FnOk P w K mg base (L2.CX P w) 1 (He.ga K "_law_begun") fd ["_law_script"] (liftSp K spX_begun) := by
    refine fn_mkD F sc__law_begun len1 (fun X Δ M ds Q E cx xo hW h => ?_)
    obtain ⟨cdv, A, outer, s, H, Ev, eX, hr⟩ := cx
    subst eX
    have hu := hu_of hr
    exact ⟨_, rdX_begun, (pdss_one (pds_ret (pd_lstM (pda_cons (pd_op op_addA snd_addM (pd_nrm (pd_lcX rfl sc__law_begun.nd (pdi_seq (pd_nrm (pd_var (pv 0)))) (own := [("_law_cell", 1)]) (blkB_ok (by kernel_rfl)) (fun _ _ _ _ _ _ => ⟨_, (pdgw_name (pg_name sc__law_begun.nd (i := 1) rfl (Or.inl rfl)) (by decide))⟩) (fun _ _ _ _ _ _ => ⟨_, pdts_nil⟩) (fun _ _ _ _ _ _ => ⟨_, (pd_callB call_abs snd_abs rfl Z.b_abs (by decide +kernel) (pda_cons (pd_nrm (pd_var (pv 1))) (pda_nil)))⟩))) (pd_nrm (pd_op op_mulB snd_mulE (pd_nrm (pd_lst (pda_cons (pd_int) (pda_nil)))) (pd_nrm (pd_callTy call_int1 snd_intOf rfl Z.b_int (by decide +kernel) (pda_cons (pd_nrm (pd_cmp (op_eqD hu) snd_eq (pd_nrm (pd_callB call_lenA snd_len rfl Z.b_len (by decide +kernel) (pda_cons (pd_nrm (pd_var (pv 0))) (pda_nil)))) (pd_nrm (pd_int)) (by rfl))) (pda_nil))))))) (pda_cons (pd_int) (pda_cons (pd_int) (pda_nil))))))), lwX_begun h⟩
  refine ⟨fd, F1.imp (fun vs H Q E h => ?_), F.bindsN fun _ _ _ _ _ _ us hl => match us, hl with | [_], _ => rfl⟩
  obtain ⟨F0, I, M, ds, Qd, Ed, A, r, ⟨s, rfl, xs, rfl, hl, q⟩, hn, hx⟩ := h
  refine ⟨F0, I, M, _, fun d M' => ∃ a c cells, M a = none ∧ M c = none ∧ c ≠ a ∧ Good cells 0 1 ∧ d = .ref a ∧ M' = openM M a c cells 0 1, fun _ _ _ => False, A, r,
    ⟨_, rfl, xs, rfl, hl, fun a c cells k1 k2 k3 k4 => ⟨a, c, cells, k1, k2, k3, k4, rfl, rfl⟩⟩, ?_, fun _ _ _ _ _ _ _ _ _ w => w.elim⟩
  rintro d M' I' H' v x2 A2 rv ⟨a, c, cells, k1, k2, k3, k4, rfl, rfl⟩
  rw [opened k3] at A2
  exact hn _ _ I' H' v x2 (A2.implode mset_same (by rw [mset_ne k3, mset_same]) k3 k4) rv (q a c k1 k2 k3.symm)
theorem rwAll (Z : Fx K mg) : Rw P w K mg base := ⟨ok_begun Z, ok_draw Z⟩
theorem fn_quiet {k : Nat} {f : Addr} {fd : FuncData} {ps : List Str} {sp : Sp} (F : FnOk P w K mg base (L2.CX P w) k f fd ps sp) : FnOk P w K mg base CX0 k f fd ps (fun vs H Q _ => sp vs H Q fun _ _ _ => False) :=
  ⟨fun vs H Q E h => F.len _ _ _ _ h, fun A outer s H args us vs Q E hr he hb hv h => codeAny_mono (F.run A outer s H args us vs Q (fun _ _ _ => False) hr he hb hv h) fun r s' hq => by
    cases r with
    | error e =>
      obtain ⟨_, _, _, _, _, _, _, _, _, _, _, _, z⟩ := hq
      exact z.elim
    | ok fl =>
      cases fl with
      | ret u => exact hq
      | next => exact hq
      | brk => exact hq
      | cont => exact hq⟩
theorem law_start (Z : Fx K mg) (H : Hp) (a : Addr) (ns : List Int) (hl : ns.length ≤ 63) (hS : SqL K H a (ns.map V.int)) : liftSp K (sp_law K) [.ref a] H (fun v _ => v = .bl true) (fun _ _ _ => False) :=
  ⟨fun _ => none, H, fun _ => none, [.frz (ns.map .int)], fun d _ => d = .bl true, fun _ _ _ => False, ⟨fun _ _ e => e, (by intro _ _ e; cases e), (by intro _ _ e; cases e), (by intro _ _ e; cases e)⟩, .cons (.frz hS (Rps.ofInts ns)) .nil,
    ⟨_, rfl, ns, rfl, hl, fun _ => rfl, ⟨Z.xq_NoPlan, Z.exm_NoPlan_BoxError, Z.kitB_NoPlan_ValueError, (fun d hd => by simp only [List.mem_cons, List.not_mem_nil, or_false] at hd; rcases hd with rfl | rfl | rfl | rfl | rfl <;> first | exact Z.kit_NoPlan_NoDeed | exact Z.kit_NoPlan_NoName | exact Z.kit_NoPlan_NoRoom | exact Z.kit_NoPlan_NoText | exact Z.kit_NoPlan_NoWord), Z.kit_NoPlan_NoPlan⟩, fun _ => rfl⟩, (by intro d M' I' H' v x A r q; subst q; exact r.bl_inv), fun _ _ _ _ _ _ _ _ _ w => w⟩
end
end BB

set_option maxHeartbeats 0
namespace BBH
open L2 PySem PySem.Spec PyProof.Rows BB
def dd_0 : He.DefD := ⟨("_law_begun", none), "_law_begun", "_law_begun", defArgs (top 23), defBody (top 23), defScope (top 23), [], []⟩
def dd_1 : He.DefD := ⟨("_law_draw", none), "_law_draw", "_law_draw", defArgs (top 24), defBody (top 24), defScope (top 24), [], []⟩
def dd_2 : He.DefD := ⟨("_law_name", none), "_law_name", "_law_name", defArgs (top 25), defBody (top 25), defScope (top 25), [], []⟩
def dd_3 : He.DefD := ⟨("_law_names", none), "_law_names", "_law_names", defArgs (top 26), defBody (top 26), defScope (top 26), [], []⟩
def dd_4 : He.DefD := ⟨("_law_parts", none), "_law_parts", "_law_parts", defArgs (top 27), defBody (top 27), defScope (top 27), [], []⟩
def dd_5 : He.DefD := ⟨("_law_is_name", none), "_law_is_name", "_law_is_name", defArgs (top 28), defBody (top 28), defScope (top 28), [], []⟩
def dd_6 : He.DefD := ⟨("is_name", none), "is_name", "is_name", defArgs (top 16), defBody (top 16), defScope (top 16), [], []⟩
def dd_7 : He.DefD := ⟨("are_names", none), "are_names", "are_names", defArgs (top 18), defBody (top 18), defScope (top 18), [], []⟩
def dd_8 : He.DefD := ⟨("is_count", none), "is_count", "is_count", defArgs (top 17), defBody (top 17), defScope (top 17), [], []⟩
def dd_9 : He.DefD := ⟨("is_door", none), "is_door", "is_door", defArgs (top 19), defBody (top 19), defScope (top 19), [], []⟩
def dd_10 : He.DefD := ⟨("are_rooms", none), "are_rooms", "are_rooms", defArgs (top 20), defBody (top 20), defScope (top 20), [], []⟩
def dd_11 : He.DefD := ⟨("Plan", some "__init__"), "__init__", "Plan.__init__", defArgs (mth (top 21) 0), defBody (mth (top 21) 0), defScope (mth (top 21) 0), [], []⟩
def dd_12 : He.DefD := ⟨("_law_taken", none), "_law_taken", "_law_taken", defArgs (top 35), defBody (top 35), defScope (top 35), [], []⟩
def dd_13 : He.DefD := ⟨("_law_bent_names", none), "_law_bent_names", "_law_bent_names", defArgs (top 32), defBody (top 32), defScope (top 32), [], []⟩
def dd_14 : He.DefD := ⟨("_law_bent_doors", none), "_law_bent_doors", "_law_bent_doors", defArgs (top 33), defBody (top 33), defScope (top 33), [], []⟩
def dd_15 : He.DefD := ⟨("_law_bent", none), "_law_bent", "_law_bent", defArgs (top 34), defBody (top 34), defScope (top 34), [], []⟩
def dd_16 : He.DefD := ⟨("_law_are_names", none), "_law_are_names", "_law_are_names", defArgs (top 29), defBody (top 29), defScope (top 29), [], []⟩
def dd_17 : He.DefD := ⟨("_law_is_door", none), "_law_is_door", "_law_is_door", defArgs (top 30), defBody (top 30), defScope (top 30), [], []⟩
def dd_18 : He.DefD := ⟨("_law_good", none), "_law_good", "_law_good", defArgs (top 31), defBody (top 31), defScope (top 31), [], []⟩
def dd_19 : He.DefD := ⟨("law", none), "law", "law", defArgs (top 36), defBody (top 36), defScope (top 36), [], []⟩
def fn : List He.DefD := ([dd_0, dd_1, dd_2, dd_3, dd_4, dd_5, dd_6, dd_7, dd_8, dd_9, dd_10, dd_11, dd_12, dd_13, dd_14, dd_15, dd_16, dd_17, dd_18, dd_19] : List He.DefD)
def fa : List He.Fa := ([.free "ValueError", .free "abs", .free "all", .free "bool", .free "dict", .free "int", .free "isinstance", .free "len", .free "list", .free "max", .free "range", .free "repr", .free "set", .free "sorted", .free "str", .free "tuple", .free "zip", .cls "Plan", .exc "NoPlan", .exm "NoPlan" "BoxError" true, .glo "BoxError", .glo "NoDeed", .glo "NoName", .glo "NoPlan", .glo "NoRoom", .glo "NoText", .glo "NoWord", .glo "Plan", .glo "_law_are_names", .glo "_law_begun"] : List He.Fa) ++ ([.glo "_law_bent", .glo "_law_bent_doors", .glo "_law_bent_names", .glo "_law_draw", .glo "_law_good", .glo "_law_is_door", .glo "_law_is_name", .glo "_law_name", .glo "_law_names", .glo "_law_parts", .glo "_law_taken", .glo "are_names", .glo "are_rooms", .glo "is_count", .glo "is_door", .glo "is_name", .glo "law", .int "LEAST_SIGNS" 2, .int "MOST_LETTERS" 4, .int "MOST_NAME" 6, .int "MOST_ROOMS" 36, .int "MOST_SIGNS" 4, .mkr "Plan", .noat "Plan" "own_letters", .noat "Plan" "own_rooms", .noat "Plan" "own_signs", .str "SMALL" "abcdefghijklmnopqrstuvwxyz"] : List He.Fa)
def bf : List Bf := ([.kit "NoPlan" "NoDeed" false, .kit "NoPlan" "NoName" false, .kit "NoPlan" "NoPlan" true, .kit "NoPlan" "NoRoom" false, .kit "NoPlan" "NoText" false, .kit "NoPlan" "NoWord" false, .kitB "NoPlan" "ValueError" true, .xf "NoPlan", .isi "NoPlan"] : List Bf)
def loose : List PySem.Str := (["_wall", "BoxError", "NoPlan", "NoWord", "NoRoom", "NoName", "NoDeed", "NoText", "MOST_NAME", "MOST_LETTERS", "LEAST_SIGNS", "MOST_SIGNS", "MOST_ROOMS", "SMALL", "is_name", "is_count", "are_names", "is_door", "are_rooms", "Plan", "_law_begun", "_law_draw", "_law_name", "_law_names", "_law_parts", "_law_is_name", "_law_are_names", "_law_is_door", "_law_good", "_law_bent_names"] : List PySem.Str) ++ (["_law_bent_doors", "_law_bent", "_law_taken"] : List PySem.Str)
abbrev R : PySem.W.OpenRow := PySem.W.OpenLaw.row PySem.Challenge.rw_barredbox_k01_names_and_plans_known
abbrev hk : PySem.W.Hook := He.hookX 6 fa fn [] [] (exB bf)
def ob (s : PySem.W.SharedT) : He.AlX := He.obsX 6 fa fn [] [] (exB bf) (HandSHeadRun.getT s)
theorem ob_eq (s : PySem.W.SharedT) : ob s = hk.obs s.abs := He.obsX_eq (HandSHeadRun.getT_eq s)
theorem run (w : World) : HandSHeadRun.RunEq R (PySem.W.view R.prog [36]) hk ob 9000 loose w := by
  intro os
  kernel_rfl
theorem fx {K : PySem.W.Frag} {h : Heap} {mg : Str → Option Value} {w : World} (X : K.In h) (G : h.Ns mainGlobals mg) (c : He.SaysX fa fn [] [] (exB bf) w h K) : Fx K mg where
  d__law_begun := c.t.d.def_ 0 (d := dd_0) rfl
  d__law_draw := c.t.d.def_ 1 (d := dd_1) rfl
  d__law_name := c.t.d.def_ 2 (d := dd_2) rfl
  d__law_names := c.t.d.def_ 3 (d := dd_3) rfl
  d__law_parts := c.t.d.def_ 4 (d := dd_4) rfl
  d__law_is_name := c.t.d.def_ 5 (d := dd_5) rfl
  d_is_name := c.t.d.def_ 6 (d := dd_6) rfl
  d_are_names := c.t.d.def_ 7 (d := dd_7) rfl
  d_is_count := c.t.d.def_ 8 (d := dd_8) rfl
  d_is_door := c.t.d.def_ 9 (d := dd_9) rfl
  d_are_rooms := c.t.d.def_ 10 (d := dd_10) rfl
  d_Plan___init__ := c.t.d.def_ 11 (d := dd_11) rfl
  d__law_taken := c.t.d.def_ 12 (d := dd_12) rfl
  d__law_bent_names := c.t.d.def_ 13 (d := dd_13) rfl
  d__law_bent_doors := c.t.d.def_ 14 (d := dd_14) rfl
  d__law_bent := c.t.d.def_ 15 (d := dd_15) rfl
  d__law_are_names := c.t.d.def_ 16 (d := dd_16) rfl
  d__law_is_door := c.t.d.def_ 17 (d := dd_17) rfl
  d__law_good := c.t.d.def_ 18 (d := dd_18) rfl
  d_law := c.t.d.def_ 19 (d := dd_19) rfl
  b_ValueError := He.free_ok X G (c.t.d.fact 0 (f := .free "ValueError") rfl)
  b_abs := He.free_ok X G (c.t.d.fact 1 (f := .free "abs") rfl)
  b_all := He.free_ok X G (c.t.d.fact 2 (f := .free "all") rfl)
  b_bool := He.free_ok X G (c.t.d.fact 3 (f := .free "bool") rfl)
  b_dict := He.free_ok X G (c.t.d.fact 4 (f := .free "dict") rfl)
  b_int := He.free_ok X G (c.t.d.fact 5 (f := .free "int") rfl)
  b_isinstance := He.free_ok X G (c.t.d.fact 6 (f := .free "isinstance") rfl)
  b_len := He.free_ok X G (c.t.d.fact 7 (f := .free "len") rfl)
  b_list := He.free_ok X G (c.t.d.fact 8 (f := .free "list") rfl)
  b_max := He.free_ok X G (c.t.d.fact 9 (f := .free "max") rfl)
  b_range := He.free_ok X G (c.t.d.fact 10 (f := .free "range") rfl)
  b_repr := He.free_ok X G (c.t.d.fact 11 (f := .free "repr") rfl)
  b_set := He.free_ok X G (c.t.d.fact 12 (f := .free "set") rfl)
  b_sorted := He.free_ok X G (c.t.d.fact 13 (f := .free "sorted") rfl)
  b_str := He.free_ok X G (c.t.d.fact 14 (f := .free "str") rfl)
  b_tuple := He.free_ok X G (c.t.d.fact 15 (f := .free "tuple") rfl)
  b_zip := He.free_ok X G (c.t.d.fact 16 (f := .free "zip") rfl)
  cl_Plan := He.cls_ok (c.t.d.fact 17 (f := .cls "Plan") rfl)
  e_NoPlan :=  (c.t.d.fact 18 (f := .exc "NoPlan") rfl)
  exm_NoPlan_BoxError := He.exm_ok (c.t.d.fact 19 (f := .exm "NoPlan" "BoxError" true) rfl)
  g_BoxError := He.glo_ok X G (c.t.d.fact 20 (f := .glo "BoxError") rfl)
  g_NoDeed := He.glo_ok X G (c.t.d.fact 21 (f := .glo "NoDeed") rfl)
  g_NoName := He.glo_ok X G (c.t.d.fact 22 (f := .glo "NoName") rfl)
  g_NoPlan := He.glo_ok X G (c.t.d.fact 23 (f := .glo "NoPlan") rfl)
  g_NoRoom := He.glo_ok X G (c.t.d.fact 24 (f := .glo "NoRoom") rfl)
  g_NoText := He.glo_ok X G (c.t.d.fact 25 (f := .glo "NoText") rfl)
  g_NoWord := He.glo_ok X G (c.t.d.fact 26 (f := .glo "NoWord") rfl)
  g_Plan := He.glo_ok X G (c.t.d.fact 27 (f := .glo "Plan") rfl)
  g__law_are_names := He.glo_ok X G (c.t.d.fact 28 (f := .glo "_law_are_names") rfl)
  g__law_begun := He.glo_ok X G (c.t.d.fact 29 (f := .glo "_law_begun") rfl)
  g__law_bent := He.glo_ok X G (c.t.d.fact 30 (f := .glo "_law_bent") rfl)
  g__law_bent_doors := He.glo_ok X G (c.t.d.fact 31 (f := .glo "_law_bent_doors") rfl)
  g__law_bent_names := He.glo_ok X G (c.t.d.fact 32 (f := .glo "_law_bent_names") rfl)
  g__law_draw := He.glo_ok X G (c.t.d.fact 33 (f := .glo "_law_draw") rfl)
  g__law_good := He.glo_ok X G (c.t.d.fact 34 (f := .glo "_law_good") rfl)
  g__law_is_door := He.glo_ok X G (c.t.d.fact 35 (f := .glo "_law_is_door") rfl)
  g__law_is_name := He.glo_ok X G (c.t.d.fact 36 (f := .glo "_law_is_name") rfl)
  g__law_name := He.glo_ok X G (c.t.d.fact 37 (f := .glo "_law_name") rfl)
  g__law_names := He.glo_ok X G (c.t.d.fact 38 (f := .glo "_law_names") rfl)
  g__law_parts := He.glo_ok X G (c.t.d.fact 39 (f := .glo "_law_parts") rfl)
  g__law_taken := He.glo_ok X G (c.t.d.fact 40 (f := .glo "_law_taken") rfl)
  g_are_names := He.glo_ok X G (c.t.d.fact 41 (f := .glo "are_names") rfl)
  g_are_rooms := He.glo_ok X G (c.t.d.fact 42 (f := .glo "are_rooms") rfl)
  g_is_count := He.glo_ok X G (c.t.d.fact 43 (f := .glo "is_count") rfl)
  g_is_door := He.glo_ok X G (c.t.d.fact 44 (f := .glo "is_door") rfl)
  g_is_name := He.glo_ok X G (c.t.d.fact 45 (f := .glo "is_name") rfl)
  g_law := He.glo_ok X G (c.t.d.fact 46 (f := .glo "law") rfl)
  i_LEAST_SIGNS := He.int_ok X G (c.t.d.fact 47 (f := .int "LEAST_SIGNS" 2) rfl)
  i_MOST_LETTERS := He.int_ok X G (c.t.d.fact 48 (f := .int "MOST_LETTERS" 4) rfl)
  i_MOST_NAME := He.int_ok X G (c.t.d.fact 49 (f := .int "MOST_NAME" 6) rfl)
  i_MOST_ROOMS := He.int_ok X G (c.t.d.fact 50 (f := .int "MOST_ROOMS" 36) rfl)
  i_MOST_SIGNS := He.int_ok X G (c.t.d.fact 51 (f := .int "MOST_SIGNS" 4) rfl)
  kit_NoPlan_NoDeed := kit_ok (exB_ok c.more 0 (f := .kit "NoPlan" "NoDeed" false) rfl)
  kit_NoPlan_NoName := kit_ok (exB_ok c.more 1 (f := .kit "NoPlan" "NoName" false) rfl)
  kit_NoPlan_NoPlan := kit_ok (exB_ok c.more 2 (f := .kit "NoPlan" "NoPlan" true) rfl)
  kit_NoPlan_NoRoom := kit_ok (exB_ok c.more 3 (f := .kit "NoPlan" "NoRoom" false) rfl)
  kit_NoPlan_NoText := kit_ok (exB_ok c.more 4 (f := .kit "NoPlan" "NoText" false) rfl)
  kit_NoPlan_NoWord := kit_ok (exB_ok c.more 5 (f := .kit "NoPlan" "NoWord" false) rfl)
  kitB_NoPlan_ValueError := kitB_ok (exB_ok c.more 6 (f := .kitB "NoPlan" "ValueError" true) rfl)
  mk_Plan := He.mkr_ok (c.t.d.fact 52 (f := .mkr "Plan") rfl)
  na_Plan_own_letters := He.noat_ok (c.t.d.fact 53 (f := .noat "Plan" "own_letters") rfl)
  na_Plan_own_rooms := He.noat_ok (c.t.d.fact 54 (f := .noat "Plan" "own_rooms") rfl)
  na_Plan_own_signs := He.noat_ok (c.t.d.fact 55 (f := .noat "Plan" "own_signs") rfl)
  s_SMALL := He.str_ok X G (c.t.d.fact 56 (f := .str "SMALL" "abcdefghijklmnopqrstuvwxyz") rfl)
  xq_NoPlan := excQ_ok (exB_ok c.more 7 (f := .xf "NoPlan") rfl) (exB_ok c.more 8 (f := .isi "NoPlan") rfl)
end BBH
open PySem PySem.W PySem.Calls PyProof.Rows BB
theorem PySem.Challenge.cw_barredbox_k01_names_and_plans_known_holds : PySem.Challenge.rw_barredbox_k01_names_and_plans_known.Holds := by
  w_on; o_law
  refine HandSHeadRun.head_any (r := OpenLaw.row PySem.Challenge.rw_barredbox_k01_names_and_plans_known) (q := view (OpenLaw.row PySem.Challenge.rw_barredbox_k01_names_and_plans_known).prog [36]) (H := BBH.hk) (ob := BBH.ob) (M := 9000) (loose := BBH.loose) (d := HandSHeadRun.topDef (OpenLaw.row PySem.Challenge.rw_barredbox_k01_names_and_plans_known).prog 36) (kwd := []) BBH.ob_eq
    (by kernel_rfl) (fun s => by kernel_rfl) BBH.run (by kernel_rfl) (by kernel_rfl) (by kernel_rfl) (by rfl) (by first | assumption | decide +kernel) (by decide +kernel) ⟨rfl, rfl, rfl, rfl, rfl, by decide +kernel⟩ ?hw ?hc
  case hw => w_witness2
  case hc =>
    refine BB.walk_ofG (l := PySem.Challenge.rw_barredbox_k01_names_and_plans_known) (n := 63) (x := "_law_script") (CX := L2.CX0) rfl (by decide) (by kernel_rfl) ?F (fun _ _ _ _ z => z)
    intro w mg fa h Y G hmg0
    obtain ⟨K, KX, c⟩ := Y
    have hmg : mg ("law" : PySem.Str) = some (.ref fa) := by
      have e : (HandSHeadRun.topDef (OpenLaw.row PySem.Challenge.rw_barredbox_k01_names_and_plans_known).prog 36).name = ("law" : PySem.Str) := by kernel_rfl
      rw [← e]
      exact hmg0
    have Z := BBH.fx KX G c
    obtain ⟨fd, F⟩ := Z.d_law
    have e := hmg.symm.trans Z.g_law
    cases e
    have b := L2.FunD.bindsA (ps := ["_law_script"]) F fun _ _ _ _ _ _ us hl => match us, hl with | [_], _ => rfl
    exact ⟨K, fd, fun vs H Q _ => liftSp K (sp_law K) vs H Q fun _ _ _ => False, KX, fun s v => b s [v] rfl, fun H a ns hl _ hS => law_start Z H a ns hl hS, fun base _ _ => fnAt_quiet (okl_law Z (lwAll K) (rwAll Z) F callerA ⟨rfl, by decide, by decide⟩ rfl)⟩

