import PyProof.Rows.All
import Wide.All
import OpenK.AllK
import Wide.FinOn
import HandS.ForMost
import HandS.ForExc
import HandS.Flow
import HandS.TupAny
import HandS.Defaults
import HandS.IsInst
import HandS.Deep
import HandS.Zip
import HandS.Walk
import HandS.TupMul
import HandS.Style
import HandS.Strs
import HandS.CallSlots
import HandS.ExcInit
import HandS.ExcField
import KE.GoesNew
import HandS.TryOnly
import HandS.Head0
import HandS.Head1
import HandS.Head2
import HandS.HeadEnd
import HandS.HeadHook1
import HandS.HeadHook2
import HandS.HeadHook3
import HandS.HeadHook4
import HandS.OwnEq
import PySem.Challenge.RW_barredbox_k02_plans_told
set_option Elab.async false
set_option linter.all false
set_option maxRecDepth 100000
set_option maxHeartbeats 2000000
/-! Plain data over the tracked heap: values as data, a store of what may change, what is read off at each construct. -/
namespace BB
open L2 PySem PySem.Spec PyProof.Rows

/-- plain data; ref: an address as it is (a def, a class, an object of the store) -/
inductive D where
  | non | bl (b : Bool) | int (i : Int) | str (x : Str)
  | tup (xs : List D) | lst (xs : List D) | frz (xs : List D)
  /-- a tuple that tuple(..) laid: its object has no dict of its own -/
  | ntup (xs : List D)
  | dK (kvs : List (Key × D)) | dT (kvs : List (List Key × D))
  | ins (C : Addr) (fs : List (Str × D))
  | ref (a : Addr) | ty (n : String)
  deriving Inhabited

/-- what stands in the store -/
inductive MO where
  | lst (xs : List D)
  | dK (kvs : List (Key × D))
  | dT (kvs : List (List Key × D))
  | ins (C : Addr) (fs : List (Str × D))
  | own (x : Addr)
  /-- the state of the draws: a list of a list (at c) and two ints -/
  | gen (c : Addr)
abbrev Mem := Addr → Option MO
def mset (M : Mem) (a : Addr) (o : MO) : Mem := fun b => if b = a then some o else M b
def mdel (M : Mem) (a : Addr) : Mem := fun b => if b = a then none else M b
theorem mset_same {M : Mem} {a : Addr} {o : MO} : mset M a o a = some o := if_pos rfl
theorem mset_ne {M : Mem} {a b : Addr} {o : MO} (h : b ≠ a) : mset M a o b = M b := if_neg h
theorem mdel_same {M : Mem} {a : Addr} : mdel M a a = none := if_pos rfl
theorem mdel_ne {M : Mem} {a b : Addr} (h : b ≠ a) : mdel M a b = M b := if_neg h
theorem mset_mset {M : Mem} {a : Addr} {o u : MO} : mset (mset M a o) a u = mset M a u := by
  funext b; unfold mset; split <;> rfl
theorem mdel_mset {M : Mem} {a : Addr} {o : MO} (h : M a = none) : mdel (mset M a o) a = M := by
  funext b
  by_cases e : b = a
  · subst e; simp [mset, mdel, h]
  · simp [mset, mdel, e]
theorem mdel_mset_ne {M : Mem} {a b : Addr} {o : MO} (h : a ≠ b) : mdel (mset M a o) b = mset (mdel M b) a o := by
  funext c
  by_cases e : c = b
  · subst e; simp [mset, mdel, h.symm]
  · simp [mset, mdel, e]
theorem mset_comm {M : Mem} {a b : Addr} {o u : MO} (h : a ≠ b) : mset (mset M a o) b u = mset (mset M b u) a o := by
  funext c
  by_cases e : c = b
  · subst e; simp [mset, h.symm]
  · simp [mset, e]
theorem mem_ne {M : Mem} {a b : Addr} {o : MO} (h : M a = some o) (h' : M b = none) : a ≠ b := by
  rintro rfl
  rw [h] at h'
  cases h'
theorem mem_ne2 {M : Mem} {a b : Addr} {o u : MO} (h : M a = some o) (h' : M b = some u) (d : o ≠ u) : a ≠ b := by
  rintro rfl
  exact d (Option.some.inj (h.symm.trans h'))

/-- a dict's object without its lock -/
def strip : HO → HO
  | .frz _ (.dK k) => .dK k
  | .frz _ (.dT k) => .dT k
  | o => o
theorem strip_lst {o : HO} {xs} (h : strip o = .lst xs) : o = .lst xs := by
  unfold strip at h; split at h <;> first | exact h | cases h
theorem strip_tup {o : HO} {xs} (h : strip o = .tup xs) : o = .tup xs := by
  unfold strip at h; split at h <;> first | exact h | cases h
theorem strip_ins {o : HO} {C dx fs} (h : strip o = .ins C dx fs) : o = .ins C dx fs := by
  unfold strip at h; split at h <;> first | exact h | cases h
theorem strip_own {o : HO} {x} (h : strip o = .own x) : o = .own x := by
  unfold strip at h; split at h <;> first | exact h | cases h
theorem strip_frzL {o : HO} {ob xs} (h : strip o = .frz ob (.lst xs)) : o = .frz ob (.lst xs) := by
  unfold strip at h; split at h <;> first | exact h | cases h
theorem strip_frzT {o : HO} {ob xs} (h : strip o = .frz ob (.tup xs)) : o = .frz ob (.tup xs) := by
  unfold strip at h; split at h <;> first | exact h | cases h

/-- the fixed part grows -/
def Ext (I I' : Hp) : Prop := ∀ a o, I a = some o → ∃ o', I' a = some o' ∧ strip o' = strip o
theorem Ext.refl (I : Hp) : Ext I I := fun a o h => ⟨o, h, rfl⟩
theorem Ext.trans {I J L : Hp} (x : Ext I J) (y : Ext J L) : Ext I L := fun a o h => by
  obtain ⟨o1, h1, e1⟩ := x a o h
  obtain ⟨o2, h2, e2⟩ := y a o1 h1
  exact ⟨o2, h2, e2.trans e1⟩
theorem Ext.new {I : Hp} {p : Addr} {o : HO} (h : I p = none) : Ext I (upd I p o) := fun a u e => ⟨u, by rw [upd_ne (ne_of_none e h)]; exact e, rfl⟩
theorem Ext.tup {I J : Hp} (x : Ext I J) {a : Addr} {xs} (h : I a = some (.tup xs)) : J a = some (.tup xs) := by
  obtain ⟨o, h1, e⟩ := x a _ h
  rw [h1, strip_tup e]
theorem Ext.lst {I J : Hp} (x : Ext I J) {a : Addr} {xs} (h : I a = some (.lst xs)) : J a = some (.lst xs) := by
  obtain ⟨o, h1, e⟩ := x a _ h
  rw [h1, strip_lst e]
theorem Ext.ins {I J : Hp} (x : Ext I J) {a : Addr} {C dx fs} (h : I a = some (.ins C dx fs)) : J a = some (.ins C dx fs) := by
  obtain ⟨o, h1, e⟩ := x a _ h
  rw [h1, strip_ins e]
theorem strip_xd {o : HO} {fs} (h : strip o = .xd fs) : o = .xd fs := by
  unfold strip at h; split at h <;> first | exact h | cases h
theorem Ext.xd {I J : Hp} (x : Ext I J) {a : Addr} {fs} (h : I a = some (.xd fs)) : J a = some (.xd fs) := by
  obtain ⟨o, h1, e⟩ := x a _ h
  rw [h1, strip_xd e]
theorem Ext.frzT {I J : Hp} (x : Ext I J) {a : Addr} {ob xs} (h : I a = some (.frz ob (.tup xs))) : J a = some (.frz ob (.tup xs)) := by
  obtain ⟨o, h1, e⟩ := x a _ h
  rw [h1, strip_frzT e]
theorem Ext.own {I J : Hp} (x : Ext I J) {a : Addr} {y} (h : I a = some (.own y)) : J a = some (.own y) := by
  obtain ⟨o, h1, e⟩ := x a _ h
  rw [h1, strip_own e]
theorem Ext.sqT {I J : Hp} (x : Ext I J) {K : PySem.W.Frag} {a : Addr} {xs} (h : SqT K I a xs) : SqT K J a xs := by
  rcases h with (h | fz) | h
  · exact .inl (.inl (x.tup h))
  · obtain ⟨o, h⟩ := fz
    obtain ⟨u, h1, e⟩ := x a _ h
    refine .inl (.inr ⟨o, ?_⟩)
    rw [h1, strip_frzT e]
  · exact .inr h
theorem Ext.sqL {I J : Hp} (x : Ext I J) {K : PySem.W.Frag} {a : Addr} {xs} (h : SqL K I a xs) : SqL K J a xs := by
  rcases h with (h | fz) | h
  · exact .inl (.inl (x.lst h))
  · obtain ⟨o, h⟩ := fz
    obtain ⟨u, h1, e⟩ := x a _ h
    refine .inl (.inr ⟨o, ?_⟩)
    rw [h1, strip_frzL e]
  · exact .inr h

/-! ### what a value tells -/
mutual
inductive Rp (K : PySem.W.Frag) (I : Hp) : V → D → Prop
  | non : Rp K I .non .non
  | bl (b) : Rp K I (.bl b) (.bl b)
  | int (i) : Rp K I (.int i) (.int i)
  | str (x) : Rp K I (.str x) (.str x)
  | ty (n) : Rp K I (.ty n) (.ty n)
  | ref (a) : Rp K I (.ref a) (.ref a)
  | tup {a vs ds} : SqT K I a vs → Rps K I vs ds → Rp K I (.ref a) (.tup ds)
  | ntup {a ob vs ds} : I a = some (.frz ob (.tup vs)) → ob.cls = .type "tuple" → ob.dict = none → Rps K I vs ds → Rp K I (.ref a) (.ntup ds)
  | lst {a vs ds} : I a = some (.lst vs) → Rps K I vs ds → Rp K I (.ref a) (.lst ds)
  | frz {a vs ds} : SqL K I a vs → Rps K I vs ds → Rp K I (.ref a) (.frz ds)
  | dK {a o kvs ds} : I a = some o → strip o = .dK kvs → RpK K I kvs ds → Rp K I (.ref a) (.dK ds)
  | dT {a o kvs ds} : I a = some o → strip o = .dT kvs → RpT K I kvs ds → Rp K I (.ref a) (.dT ds)
  | ins {a C dx fvs fs} : I a = some (.ins C dx fvs) → I dx = some (.own a) → RpF K I fvs fs → Rp K I (.ref a) (.ins C fs)
inductive Rps (K : PySem.W.Frag) (I : Hp) : List V → List D → Prop
  | nil : Rps K I [] []
  | cons {v vs d ds} : Rp K I v d → Rps K I vs ds → Rps K I (v :: vs) (d :: ds)
inductive RpK (K : PySem.W.Frag) (I : Hp) : List (Key × V) → List (Key × D) → Prop
  | nil : RpK K I [] []
  | cons {k v vs d ds} : Rp K I v d → RpK K I vs ds → RpK K I ((k, v) :: vs) ((k, d) :: ds)
inductive RpT (K : PySem.W.Frag) (I : Hp) : List (List Key × V) → List (List Key × D) → Prop
  | nil : RpT K I [] []
  | cons {k v vs d ds} : Rp K I v d → RpT K I vs ds → RpT K I ((k, v) :: vs) ((k, d) :: ds)
inductive RpF (K : PySem.W.Frag) (I : Hp) : List (Str × V) → List (Str × D) → Prop
  | nil : RpF K I [] []
  | cons {k v vs d ds} : Rp K I v d → RpF K I vs ds → RpF K I ((k, v) :: vs) ((k, d) :: ds)
end

section
variable {K : PySem.W.Frag} {I J : Hp}
mutual
theorem Rp.ext (x : Ext I J) : ∀ {v d}, Rp K I v d → Rp K J v d
  | _, _, .non => .non
  | _, _, .bl b => .bl b
  | _, _, .int i => .int i
  | _, _, .str i => .str i
  | _, _, .ty i => .ty i
  | _, _, .ref i => .ref i
  | _, _, .tup h r => .tup (x.sqT h) (Rps.ext x r)
  | _, _, .ntup h c d r => .ntup (x.frzT h) c d (Rps.ext x r)
  | _, _, .lst h r => .lst (x.lst h) (Rps.ext x r)
  | _, _, .frz h r => .frz (x.sqL h) (Rps.ext x r)
  | _, _, .dK h e r => let ⟨_, h1, e1⟩ := x _ _ h; .dK h1 (e1.trans e) (RpK.ext x r)
  | _, _, .dT h e r => let ⟨_, h1, e1⟩ := x _ _ h; .dT h1 (e1.trans e) (RpT.ext x r)
  | _, _, .ins h e r => .ins (x.ins h) (x.own e) (RpF.ext x r)
theorem Rps.ext (x : Ext I J) : ∀ {v d}, Rps K I v d → Rps K J v d
  | _, _, .nil => .nil
  | _, _, .cons a b => .cons (Rp.ext x a) (Rps.ext x b)
theorem RpK.ext (x : Ext I J) : ∀ {v d}, RpK K I v d → RpK K J v d
  | _, _, .nil => .nil
  | _, _, .cons a b => .cons (Rp.ext x a) (RpK.ext x b)
theorem RpT.ext (x : Ext I J) : ∀ {v d}, RpT K I v d → RpT K J v d
  | _, _, .nil => .nil
  | _, _, .cons a b => .cons (Rp.ext x a) (RpT.ext x b)
theorem RpF.ext (x : Ext I J) : ∀ {v d}, RpF K I v d → RpF K J v d
  | _, _, .nil => .nil
  | _, _, .cons a b => .cons (Rp.ext x a) (RpF.ext x b)
end

theorem Rp.tup_inv {v : V} {ds : List D} (h : Rp K I v (.tup ds)) : ∃ a vs, v = .ref a ∧ SqT K I a vs ∧ Rps K I vs ds := by cases h with | tup a b => exact ⟨_, _, rfl, a, b⟩
theorem Rp.ntup_inv {v : V} {ds : List D} (h : Rp K I v (.ntup ds)) : ∃ a ob vs, v = .ref a ∧ I a = some (.frz ob (.tup vs)) ∧ ob.cls = .type "tuple" ∧ ob.dict = none ∧ Rps K I vs ds := by cases h with | ntup a b c d => exact ⟨_, _, _, rfl, a, b, c, d⟩
/-- a tuple, whoever laid it -/
def nrm : D → D
  | .ntup xs => .tup xs
  | d => d
theorem Rp.nrm {v : V} {d : D} (h : Rp K I v d) : Rp K I v (nrm d) := by
  cases d with
  | ntup xs => obtain ⟨a, ob, vs, rfl, h1, _, _, r⟩ := h.ntup_inv; exact .tup (.inl (.inr ⟨ob, h1⟩)) r
  | _ => exact h
theorem Rp.lst_inv {v : V} {ds : List D} (h : Rp K I v (.lst ds)) : ∃ a vs, v = .ref a ∧ I a = some (.lst vs) ∧ Rps K I vs ds := by cases h with | lst a b => exact ⟨_, _, rfl, a, b⟩
theorem Rp.frz_inv {v : V} {ds : List D} (h : Rp K I v (.frz ds)) : ∃ a vs, v = .ref a ∧ SqL K I a vs ∧ Rps K I vs ds := by cases h with | frz a b => exact ⟨_, _, rfl, a, b⟩
theorem Rp.ins_inv {v : V} {C fs} (h : Rp K I v (.ins C fs)) : ∃ a dx fvs, v = .ref a ∧ I a = some (.ins C dx fvs) ∧ I dx = some (.own a) ∧ RpF K I fvs fs := by cases h with | ins a b c => exact ⟨_, _, _, rfl, a, b, c⟩
theorem Rp.non_inv {v : V} (h : Rp K I v .non) : v = .non := by cases h; rfl
theorem Rp.bl_inv {v : V} {b} (h : Rp K I v (.bl b)) : v = .bl b := by cases h; rfl
theorem Rp.int_inv {v : V} {b} (h : Rp K I v (.int b)) : v = .int b := by cases h; rfl
theorem Rp.str_inv {v : V} {b} (h : Rp K I v (.str b)) : v = .str b := by cases h; rfl
theorem Rp.ty_inv {v : V} {b} (h : Rp K I v (.ty b)) : v = .ty b := by cases h; rfl
theorem Rp.ref_inv {v : V} {b} (h : Rp K I v (.ref b)) : v = .ref b := by cases h; rfl
theorem Rps.length : ∀ {vs : List V} {ds : List D}, Rps K I vs ds → vs.length = ds.length
  | _, _, .nil => rfl
  | _, _, .cons _ r => congrArg (· + 1) (Rps.length r)
theorem Rps.nil_inv {vs : List V} (h : Rps K I vs []) : vs = [] := by cases h; rfl
theorem Rps.cons_inv {vs : List V} {d ds} (h : Rps K I vs (d :: ds)) : ∃ v r, vs = v :: r ∧ Rp K I v d ∧ Rps K I r ds := by cases h with | cons a b => exact ⟨_, _, rfl, a, b⟩
theorem Rps.one_inv {vs : List V} {d} (h : Rps K I vs [d]) : ∃ v, vs = [v] ∧ Rp K I v d := by
  obtain ⟨v, r, rfl, a, b⟩ := h.cons_inv
  exact ⟨v, by rw [b.nil_inv], a⟩
theorem Rps.two_inv {vs : List V} {d e} (h : Rps K I vs [d, e]) : ∃ v u, vs = [v, u] ∧ Rp K I v d ∧ Rp K I u e := by
  obtain ⟨v, r, rfl, a, b⟩ := h.cons_inv
  obtain ⟨u, rfl, c⟩ := b.one_inv
  exact ⟨v, u, rfl, a, c⟩
theorem Rps.append : ∀ {vs us : List V} {ds es : List D}, Rps K I vs ds → Rps K I us es → Rps K I (vs ++ us) (ds ++ es)
  | _, _, _, _, .nil, s => s
  | _, _, _, _, .cons a r, s => .cons a (Rps.append r s)
theorem Rps.get : ∀ {vs : List V} {ds : List D} {i : Nat} {d : D}, Rps K I vs ds → ds[i]? = some d → ∃ v, vs[i]? = some v ∧ Rp K I v d
  | _, _, _, _, .nil, e => absurd e (by simp)
  | _, _, 0, _, .cons a _, e => by simp at e; subst e; exact ⟨_, rfl, a⟩
  | _, _, i + 1, d, .cons _ r, e => by
    obtain ⟨v, h1, h2⟩ := Rps.get (i := i) (d := d) r (by simpa using e)
    exact ⟨v, by simpa using h1, h2⟩
theorem Rps.get' : ∀ {vs : List V} {ds : List D} {i : Nat} {v : V}, Rps K I vs ds → vs[i]? = some v → ∃ d, ds[i]? = some d ∧ Rp K I v d
  | _, _, _, _, .nil, e => absurd e (by simp)
  | _, _, 0, _, .cons a _, e => by simp at e; subst e; exact ⟨_, rfl, a⟩
  | _, _, i + 1, d, .cons _ r, e => by
    obtain ⟨v, h1, h2⟩ := Rps.get' (i := i) (v := d) r (by simpa using e)
    exact ⟨v, by simpa using h1, h2⟩
theorem Rps.set : ∀ {vs : List V} {ds : List D} (i : Nat) {v d}, Rp K I v d → Rps K I vs ds → Rps K I (vs.set i v) (ds.set i d)
  | _, _, _, _, _, _, .nil => .nil
  | _, _, 0, _, _, h, .cons _ r => .cons h r
  | _, _, i + 1, _, _, h, .cons a r => .cons a (Rps.set i h r)
theorem Rps.take : ∀ {vs : List V} {ds : List D} (n : Nat), Rps K I vs ds → Rps K I (vs.take n) (ds.take n)
  | _, _, 0, _ => .nil
  | _, _, _ + 1, .nil => .nil
  | _, _, n + 1, .cons a r => .cons a (Rps.take n r)
theorem Rps.drop : ∀ {vs : List V} {ds : List D} (n : Nat), Rps K I vs ds → Rps K I (vs.drop n) (ds.drop n)
  | _, _, 0, r => r
  | _, _, _ + 1, .nil => .nil
  | _, _, n + 1, .cons _ r => Rps.drop n r
theorem RpF.look : ∀ {vs : List (Str × V)} {ds : List (Str × D)} {f : Str} {d : D}, RpF K I vs ds → ds.lookup f = some d → ∃ v, vs.lookup f = some v ∧ Rp K I v d
  | _, _, _, _, .nil, e => by cases e
  | (k, v) :: vs, _, f, d, .cons a r, e => by
    by_cases h : (f == k) = true
    · simp only [List.lookup, h, Option.some.injEq] at e ⊢
      subst e
      exact ⟨_, rfl, a⟩
    · have h' : (f == k) = false := by simpa using h
      simp only [List.lookup, h'] at e ⊢
      exact RpF.look r e
theorem RpF.none : ∀ {vs : List (Str × V)} {ds : List (Str × D)} {f : Str}, RpF K I vs ds → ds.lookup f = none → vs.lookup f = none
  | _, _, _, .nil, e => rfl
  | (k, v) :: vs, _, f, .cons a r, e => by
    by_cases h : (f == k) = true
    · simp only [List.lookup, h] at e
      cases e
    · have h' : (f == k) = false := by simpa using h
      simp only [List.lookup, h'] at e ⊢
      exact RpF.none r e
theorem RpF.length : ∀ {vs : List (Str × V)} {ds : List (Str × D)}, RpF K I vs ds → vs.length = ds.length
  | _, _, .nil => rfl
  | _, _, .cons _ r => congrArg (· + 1) (RpF.length r)
/-- a field put -/
def putD (f : Str) (d : D) : List (Str × D) → List (Str × D)
  | [] => [(f, d)]
  | (g, e) :: r => if g = f then (g, d) :: r else (g, e) :: putD f d r
theorem RpF.put {f : Str} {v : V} {d : D} (h : Rp K I v d) : ∀ {vs : List (Str × V)} {ds : List (Str × D)}, RpF K I vs ds → RpF K I (putF f v vs) (putD f d ds)
  | _, _, .nil => .cons h .nil
  | (k, u) :: vs, _, .cons a r => by
    show RpF K I (if k = f then _ else _) (if k = f then _ else _)
    by_cases e : k = f
    · rw [if_pos e, if_pos e]
      exact .cons h r
    · rw [if_neg e, if_neg e]
      exact .cons a (RpF.put h r)
end
end BB

set_option maxHeartbeats 2000000
namespace BB
open L2 PySem PySem.Spec PyProof.Rows

/-! ### the store over the tracked heap -/
def MRep (K : PySem.W.Frag) (I : Hp) (M : Mem) (H : Hp) (a : Addr) : MO → Prop
  | .lst ds => ∃ vs, H a = some (.lst vs) ∧ Rps K I vs ds
  | .dK kvs => ∃ kv, H a = some (.dK kv) ∧ RpK K I kv kvs
  | .dT kvs => ∃ kv, H a = some (.dT kv) ∧ RpT K I kv kvs
  | .ins C fs => ∃ dx fvs, H a = some (.ins C dx fvs) ∧ H dx = some (.own a) ∧ M dx = some (.own a) ∧ RpF K I fvs fs
  | .own x => ∃ o, H a = some o ∧ (o = .own x ∨ ∃ xs, o = .lst xs)
  | .gen c => c ≠ a ∧ M c = some (.own a) ∧ ∃ (cells : List Int) (p x : Int), H a = some (.lst [.ref c, .int p, .int x]) ∧ H c = some (.lst (cells.map V.int)) ∧ cells ≠ [] ∧ cells.length ≤ 64 ∧
      (∀ z ∈ cells, 0 ≤ z) ∧ 0 ≤ p ∧ 0 ≤ x ∧ x < 2147483647

/-- F: what others hold and is left alone here; I: what is fixed; M: the store -/
structure At (K : PySem.W.Frag) (F I : Hp) (M : Mem) (H : Hp) : Prop where
  ex : ∀ a o, I a = some o → H a = some o
  mem : ∀ a o, M a = some o → I a = none ∧ MRep K I M H a o
  fr : ∀ a o, F a = some o → H a = some o ∧ I a = none ∧ M a = none

section
variable {K : PySem.W.Frag} {F I J H H' : Hp} {M M' : Mem} {a p : Addr}
theorem MRep.has {o : MO} (h : MRep K I M H a o) : ∃ u, H a = some u := by
  cases o with
  | lst _ => exact ⟨_, h.choose_spec.1⟩
  | dK _ => exact ⟨_, h.choose_spec.1⟩
  | dT _ => exact ⟨_, h.choose_spec.1⟩
  | ins _ _ => obtain ⟨_, _, h, _⟩ := h; exact ⟨_, h⟩
  | own _ => obtain ⟨_, h, _⟩ := h; exact ⟨_, h⟩
  | gen _ => obtain ⟨_, _, _, _, _, h, _⟩ := h; exact ⟨_, h⟩
/-- what a part of the store leans on -/
theorem MRep.mono {o : MO} (h : MRep K I M H a o) (x : Ext I J) (hH : ∀ b u, (b = a ∨ M b = some (.own a)) → H b = some u → H' b = some u) (hM : ∀ b, M b = some (.own a) → M' b = some (.own a)) : MRep K J M' H' a o := by
  cases o with
  | lst _ => obtain ⟨vs, h1, h2⟩ := h; exact ⟨vs, hH _ _ (.inl rfl) h1, h2.ext x⟩
  | dK _ => obtain ⟨vs, h1, h2⟩ := h; exact ⟨vs, hH _ _ (.inl rfl) h1, h2.ext x⟩
  | dT _ => obtain ⟨vs, h1, h2⟩ := h; exact ⟨vs, hH _ _ (.inl rfl) h1, h2.ext x⟩
  | ins _ _ => obtain ⟨dx, fvs, h1, h2, h3, h4⟩ := h; exact ⟨dx, fvs, hH _ _ (.inl rfl) h1, hH _ _ (.inr h3) h2, hM _ h3, h4.ext x⟩
  | own _ => obtain ⟨u, h1, h2⟩ := h; exact ⟨u, hH _ _ (.inl rfl) h1, h2⟩
  | gen _ =>
    obtain ⟨hc, h3, cells, p, y, h1, h2, r⟩ := h
    exact ⟨hc, hM _ h3, cells, p, y, hH _ _ (.inl rfl) h1, hH _ _ (.inr h3) h2, r⟩
theorem At.freeI (A : At K F I M H) (h : H p = none) : I p = none := by
  cases e : I p with
  | none => rfl
  | some o => rw [A.ex _ _ e] at h; cases h
theorem At.freeM (A : At K F I M H) (h : H p = none) : M p = none := by
  cases e : M p with
  | none => rfl
  | some o => obtain ⟨u, hu⟩ := (A.mem _ _ e).2.has; rw [hu] at h; cases h
/-- a new fixed object -/
theorem At.newI (A : At K F I M H) (h : H p = none) (o : HO) : At K F (upd I p o) M (upd H p o) where
  ex := fun b u e => by
    by_cases hb : b = p
    · subst hb; rw [upd_same] at e ⊢; exact e
    · rw [upd_ne hb] at e ⊢; exact A.ex _ _ e
  mem := fun b u e => by
    have hb : b ≠ p := mem_ne e (A.freeM h)
    refine ⟨by rw [upd_ne hb]; exact (A.mem _ _ e).1, (A.mem _ _ e).2.mono (Ext.new (A.freeI h)) (fun c v _ hc => ?_) (fun c hc => hc)⟩
    rw [upd_ne (ne_of_none hc h)]; exact hc
  fr := fun b u e => by
    obtain ⟨h1, h2, h3⟩ := A.fr _ _ e
    have hb : b ≠ p := ne_of_none h1 h
    exact ⟨by rw [upd_ne hb]; exact h1, by rw [upd_ne hb]; exact h2, h3⟩
/-- a new object of the store -/
theorem At.newM (A : At K F I M H) (h : H p = none) (o : HO) (m : MO) (hm : MRep K I (mset M p m) (upd H p o) p m) : At K F I (mset M p m) (upd H p o) where
  ex := fun b u e => by rw [upd_ne (ne_of_none (A.ex _ _ e) h)]; exact A.ex _ _ e
  mem := fun b u e => by
    by_cases hb : b = p
    · subst hb; rw [mset_same] at e; cases e; exact ⟨A.freeI h, hm⟩
    · rw [mset_ne hb] at e
      refine ⟨(A.mem _ _ e).1, (A.mem _ _ e).2.mono (Ext.refl I) (fun c v _ hc => ?_) (fun c hc => ?_)⟩
      · rw [upd_ne (ne_of_none hc h)]; exact hc
      · rw [mset_ne (mem_ne hc (A.freeM h))]; exact hc
  fr := fun b u e => by
    obtain ⟨h1, h2, h3⟩ := A.fr _ _ e
    have hb : b ≠ p := ne_of_none h1 h
    exact ⟨by rw [upd_ne hb]; exact h1, h2, by rw [mset_ne hb]; exact h3⟩
/-- an object of the store is written -/
theorem At.write {m m' : MO} {o : HO} (A : At K F I M H) (hp : M p = some m) (hno : ∀ x, m ≠ .own x) (hm : MRep K I (mset M p m') (upd H p o) p m') : At K F I (mset M p m') (upd H p o) where
  ex := fun b u e => by
    have hb : b ≠ p := fun z => by subst z; rw [(A.mem _ _ hp).1] at e; cases e
    rw [upd_ne hb]; exact A.ex _ _ e
  mem := fun b u e => by
    by_cases hb : b = p
    · subst hb; rw [mset_same] at e; cases e; exact ⟨(A.mem _ _ hp).1, hm⟩
    · rw [mset_ne hb] at e
      have key : ∀ c, M c = some (.own b) → c ≠ p := fun c hc z => by subst z; rw [hp] at hc; exact hno b (Option.some.inj hc)
      refine ⟨(A.mem _ _ e).1, (A.mem _ _ e).2.mono (Ext.refl I) (fun c v hc hv => ?_) (fun c hc => ?_)⟩
      · rcases hc with rfl | hc
        · rw [upd_ne hb]; exact hv
        · rw [upd_ne (key c hc)]; exact hv
      · rw [mset_ne (key c hc)]; exact hc
  fr := fun b u e => by
    obtain ⟨h1, h2, h3⟩ := A.fr _ _ e
    have hb : b ≠ p := fun z => by subst z; rw [hp] at h3; cases h3
    exact ⟨by rw [upd_ne hb]; exact h1, h2, by rw [mset_ne hb]; exact h3⟩
/-- a list of the store is fixed from here on -/
theorem At.fixL {ds : List D} (A : At K F I M H) (hp : M p = some (.lst ds)) : ∃ J, Ext I J ∧ At K F J (mdel M p) H ∧ Rp K J (.ref p) (.lst ds) := by
  obtain ⟨hI, vs, hv, r⟩ := A.mem _ _ hp
  have x : Ext I (upd I p (.lst vs)) := Ext.new hI
  refine ⟨upd I p (.lst vs), x, ⟨fun b u e => ?_, fun b u e => ?_, fun b u e => ?_⟩, .lst upd_same (r.ext x)⟩
  · by_cases hb : b = p
    · subst hb; rw [upd_same] at e; cases e; exact hv
    · rw [upd_ne hb] at e; exact A.ex _ _ e
  · have hb : b ≠ p := fun z => by subst z; rw [mdel_same] at e; cases e
    rw [mdel_ne hb] at e
    refine ⟨by rw [upd_ne hb]; exact (A.mem _ _ e).1, (A.mem _ _ e).2.mono x (fun c v _ hv => hv) (fun c hc => ?_)⟩
    rw [mdel_ne (mem_ne2 hc hp (by intro z; cases z))]; exact hc
  · obtain ⟨h1, h2, h3⟩ := A.fr _ _ e
    have hb : b ≠ p := fun z => by subst z; rw [hp] at h3; cases h3
    exact ⟨h1, by rw [upd_ne hb]; exact h2, by rw [mdel_ne hb]; exact h3⟩
theorem At.fixK {ds : List (Key × D)} (A : At K F I M H) (hp : M p = some (.dK ds)) : ∃ J, Ext I J ∧ At K F J (mdel M p) H ∧ Rp K J (.ref p) (.dK ds) := by
  obtain ⟨hI, vs, hv, r⟩ := A.mem _ _ hp
  have x : Ext I (upd I p (.dK vs)) := Ext.new hI
  refine ⟨upd I p (.dK vs), x, ⟨fun b u e => ?_, fun b u e => ?_, fun b u e => ?_⟩, .dK upd_same rfl (r.ext x)⟩
  · by_cases hb : b = p
    · subst hb; rw [upd_same] at e; cases e; exact hv
    · rw [upd_ne hb] at e; exact A.ex _ _ e
  · have hb : b ≠ p := fun z => by subst z; rw [mdel_same] at e; cases e
    rw [mdel_ne hb] at e
    refine ⟨by rw [upd_ne hb]; exact (A.mem _ _ e).1, (A.mem _ _ e).2.mono x (fun c v _ hv => hv) (fun c hc => ?_)⟩
    rw [mdel_ne (mem_ne2 hc hp (by intro z; cases z))]; exact hc
  · obtain ⟨h1, h2, h3⟩ := A.fr _ _ e
    have hb : b ≠ p := fun z => by subst z; rw [hp] at h3; cases h3
    exact ⟨h1, by rw [upd_ne hb]; exact h2, by rw [mdel_ne hb]; exact h3⟩
theorem At.fixT {ds : List (List Key × D)} (A : At K F I M H) (hp : M p = some (.dT ds)) : ∃ J, Ext I J ∧ At K F J (mdel M p) H ∧ Rp K J (.ref p) (.dT ds) := by
  obtain ⟨hI, vs, hv, r⟩ := A.mem _ _ hp
  have x : Ext I (upd I p (.dT vs)) := Ext.new hI
  refine ⟨upd I p (.dT vs), x, ⟨fun b u e => ?_, fun b u e => ?_, fun b u e => ?_⟩, .dT upd_same rfl (r.ext x)⟩
  · by_cases hb : b = p
    · subst hb; rw [upd_same] at e; cases e; exact hv
    · rw [upd_ne hb] at e; exact A.ex _ _ e
  · have hb : b ≠ p := fun z => by subst z; rw [mdel_same] at e; cases e
    rw [mdel_ne hb] at e
    refine ⟨by rw [upd_ne hb]; exact (A.mem _ _ e).1, (A.mem _ _ e).2.mono x (fun c v _ hv => hv) (fun c hc => ?_)⟩
    rw [mdel_ne (mem_ne2 hc hp (by intro z; cases z))]; exact hc
  · obtain ⟨h1, h2, h3⟩ := A.fr _ _ e
    have hb : b ≠ p := fun z => by subst z; rw [hp] at h3; cases h3
    exact ⟨h1, by rw [upd_ne hb]; exact h2, by rw [mdel_ne hb]; exact h3⟩
/-- an instance is fixed: with it goes its own dict's mark -/
theorem At.fixI {C : Addr} {fs : List (Str × D)} (A : At K F I M H) (hp : M p = some (.ins C fs)) : ∃ dx J, M dx = some (.own p) ∧ Ext I J ∧ At K F J (mdel (mdel M p) dx) H ∧ Rp K J (.ref p) (.ins C fs) := by
  obtain ⟨hI, dx, fvs, hv, hd, hm, r⟩ := A.mem _ _ hp
  obtain ⟨hId, _⟩ := A.mem _ _ hm
  have ne : dx ≠ p := mem_ne2 hm hp (by intro z; cases z)
  have x1 : Ext I (upd I p (.ins C dx fvs)) := Ext.new hI
  have x2 : Ext (upd I p (.ins C dx fvs)) (upd (upd I p (.ins C dx fvs)) dx (.own p)) := Ext.new (by rw [upd_ne ne]; exact hId)
  have x := x1.trans x2
  refine ⟨dx, upd (upd I p (.ins C dx fvs)) dx (.own p), hm, x, ⟨fun b u e => ?_, fun b u e => ?_, fun b u e => ?_⟩, .ins (by rw [upd_ne ne.symm, upd_same]) upd_same (r.ext x)⟩
  · by_cases hb : b = dx
    · subst hb; rw [upd_same] at e; cases e; exact hd
    · rw [upd_ne hb] at e
      by_cases hb : b = p
      · subst hb; rw [upd_same] at e; cases e; exact hv
      · rw [upd_ne hb] at e; exact A.ex _ _ e
  · have hb : b ≠ dx := fun z => by subst z; rw [mdel_same] at e; cases e
    rw [mdel_ne hb] at e
    have hb2 : b ≠ p := fun z => by subst z; rw [mdel_same] at e; cases e
    rw [mdel_ne hb2] at e
    refine ⟨by rw [upd_ne hb, upd_ne hb2]; exact (A.mem _ _ e).1, (A.mem _ _ e).2.mono x (fun c v _ hv => hv) (fun c hc => ?_)⟩
    have n1 : c ≠ dx := fun z => by subst z; rw [hm] at hc; cases hc; exact hb2 rfl
    rw [mdel_ne n1, mdel_ne (mem_ne2 hc hp (by intro z; cases z))]; exact hc
  · obtain ⟨h1, h2, h3⟩ := A.fr _ _ e
    have hb : b ≠ p := fun z => by subst z; rw [hp] at h3; cases h3
    have hb2 : b ≠ dx := fun z => by subst z; rw [hm] at h3; cases h3
    exact ⟨h1, by rw [upd_ne hb2, upd_ne hb]; exact h2, by rw [mdel_ne hb2, mdel_ne hb]; exact h3⟩
end

/-! ### slots, wishes, the judgements -/
abbrev Env := List (Option D)
abbrev DKt := D → Mem → Prop
/-- a wish of exceptions: the class, the fields, the slots, the store -/
abbrev DW := Value → List (Str × D) → Env → Mem → Prop
abbrev DX := Value → List (Str × D) → Mem → Prop
structure EnvR (K : PySem.W.Frag) (I : Hp) (σ : L2.St) (env : Env) : Prop where
  len : σ.length = env.length
  get : ∀ (i : Nat) (d : D), env[i]? = some (some d) → ∃ v, σ[i]? = some (some v) ∧ Rp K I v d
/-- an exception's fields -/
def ExcR (K : PySem.W.Frag) (I : Hp) (fs : List (Str × D)) : Option Addr → Prop
  | none => fs = []
  | some d => ∃ fvs, I d = some (.xd fvs) ∧ RpF K I fvs fs
structure DC where
  F : Hp
  I0 : Hp
  W : WX
  Wd : DW
structure Gd (K : PySem.W.Frag) (Δ : DC) (I : Hp) (M : Mem) (H : Hp) (σ : L2.St) (env : Env) : Prop where
  base : Ext Δ.I0 I
  at_ : At K Δ.F I M H
  env : EnvR K I σ env
/-- how the wishes hang together -/
structure XOk (X : Cx) (Δ : DC) : Prop where
  takes : Takes X Δ.W
  link : ∀ {I M H σ env c fs d}, Gd X.K Δ I M H σ env → ExcR X.K I fs d → Δ.Wd c fs env M → Δ.W c d σ H

abbrev DE := Env → Mem → DKt → Prop
abbrev DT := Env → Mem → (Bool → Mem → Prop) → Prop
abbrev DA := Env → Mem → (List D → Mem → Prop) → Prop
structure EndsD where
  nx : Env → Mem → Prop
  rt : DKt
  bk : Env → Mem → Prop := fun _ _ => False
  ct : Env → Mem → Prop := fun _ _ => False
abbrev DS := EndsD → Env → Mem → Prop

def SndE (X : Cx) (Δ : DC) (te : TE) (de : DE) : Prop := ∀ I M H σ env, Gd X.K Δ I M H σ env → ∀ (Q : VK) (Qd : DKt),
  (∀ d M' I' H' v, Ext I I' → Gd X.K Δ I' M' H' σ env → Rp X.K I' v d → Qd d M' → Q v H') → de env M Qd → te σ H Q
def SndT (X : Cx) (Δ : DC) (tt : TT) (dt : DT) : Prop := ∀ I M H σ env, Gd X.K Δ I M H σ env → ∀ (Q : Bool → Hp → Prop) (Qd : Bool → Mem → Prop),
  (∀ b M' I' H', Ext I I' → Gd X.K Δ I' M' H' σ env → Qd b M' → Q b H') → dt env M Qd → tt σ H Q
def SndA (X : Cx) (Δ : DC) (ta : TA) (da : DA) : Prop := ∀ I M H σ env, Gd X.K Δ I M H σ env → ∀ (Q : List V → Hp → Prop) (Qd : List D → Mem → Prop),
  (∀ ds M' I' H' vs, Ext I I' → Gd X.K Δ I' M' H' σ env → Rps X.K I' vs ds → Qd ds M' → Q vs H') → da env M Qd → ta σ H Q
structure EndsR (X : Cx) (Δ : DC) (I : Hp) (T : Ends) (Td : EndsD) : Prop where
  nx : ∀ env M I' H σ, Ext I I' → Gd X.K Δ I' M H σ env → Td.nx env M → T.nx σ H
  bk : ∀ env M I' H σ, Ext I I' → Gd X.K Δ I' M H σ env → Td.bk env M → T.bk σ H
  ct : ∀ env M I' H σ, Ext I I' → Gd X.K Δ I' M H σ env → Td.ct env M → T.ct σ H
  rt : ∀ d M I' H v, Ext I I' → Ext Δ.I0 I' → At X.K Δ.F I' M H → Rp X.K I' v d → Td.rt d M → T.rt v H
def SndS (X : Cx) (Δ : DC) (ts : TS) (ds : DS) : Prop := ∀ I M H σ env, Gd X.K Δ I M H σ env → ∀ (T : Ends) (Td : EndsD), EndsR X Δ I T Td → ds Td env M → ts T σ H
theorem EndsR.ext {X : Cx} {Δ : DC} {I J : Hp} {T : Ends} {Td : EndsD} (R : EndsR X Δ I T Td) (x : Ext I J) : EndsR X Δ J T Td :=
  ⟨fun _ _ _ _ _ y => R.nx _ _ _ _ _ (x.trans y), fun _ _ _ _ _ y => R.bk _ _ _ _ _ (x.trans y), fun _ _ _ _ _ y => R.ct _ _ _ _ _ (x.trans y), fun _ _ _ _ _ y => R.rt _ _ _ _ _ (x.trans y)⟩

def PDe (X : Cx) (Δ : DC) (e : Expr) (t : TE) (de : DE) : Prop := PE X e t ∧ SndE X Δ t de
def PDt (X : Cx) (Δ : DC) (e : Expr) (t : TT) (dt : DT) : Prop := PT X e t ∧ SndT X Δ t dt
def PDw (X : Cx) (Δ : DC) (e : Expr) (t : TT) (dt : DT) : Prop := PW X e t ∧ SndT X Δ t dt
def PDa (X : Cx) (Δ : DC) (es : List Expr) (t : TA) (da : DA) : Prop := PA X es t ∧ SndA X Δ t da
def PDs (X : Cx) (Δ : DC) (s : Stmt) (t : TS) (ds : DS) : Prop := PS X s t ∧ SndS X Δ t ds
def PDss (X : Cx) (Δ : DC) (s : List Stmt) (t : TS) (ds : DS) : Prop := PSs X s t ∧ SndS X Δ t ds

section
variable {K : PySem.W.Frag} {Δ : DC} {I J H H' : Hp} {M M' : Mem} {σ : L2.St} {env : Env} {X : Cx}
theorem EnvR.ext (R : EnvR K I σ env) (x : Ext I J) : EnvR K J σ env := ⟨R.len, fun i d h => let ⟨v, h1, h2⟩ := R.get i d h; ⟨v, h1, h2.ext x⟩⟩
theorem Gd.go (G : Gd K Δ I M H σ env) (x : Ext I J) (A : At K Δ.F J M' H') : Gd K Δ J M' H' σ env := ⟨G.base.trans x, A, G.env.ext x⟩
theorem EnvR.set {i : Nat} {v : V} {d : D} (R : EnvR K I σ env) (r : Rp K I v d) : EnvR K I (σ.set i (some v)) (env.set i (some d)) := by
  refine ⟨by rw [List.length_set, List.length_set]; exact R.len, fun j e h => ?_⟩
  by_cases hij : i = j
  · subst hij
    have hl : i < env.length := by
      have := (List.getElem?_eq_some_iff.mp h).1
      rw [List.length_set] at this
      exact this
    rw [List.getElem?_set_self hl] at h
    cases h
    exact ⟨v, by rw [List.getElem?_set_self (by rw [R.len]; exact hl)], r⟩
  · rw [List.getElem?_set_ne hij] at h ⊢
    exact R.get j e h
theorem EnvR.setN {i : Nat} {o : Option V} (R : EnvR K I σ env) : EnvR K I (σ.set i o) (env.set i none) := by
  refine ⟨by rw [List.length_set, List.length_set]; exact R.len, fun j e h => ?_⟩
  by_cases hij : i = j
  · subst hij
    have hl : i < env.length := by
      have := (List.getElem?_eq_some_iff.mp h).1
      rw [List.length_set] at this
      exact this
    rw [List.getElem?_set_self hl] at h
    cases h
  · rw [List.getElem?_set_ne hij] at h ⊢
    exact R.get j e h
theorem Gd.set {i : Nat} {v : V} {d : D} (G : Gd K Δ I M H σ env) (r : Rp K I v d) : Gd K Δ I M H (σ.set i (some v)) (env.set i (some d)) := ⟨G.base, G.at_, G.env.set r⟩
/-- a new fixed object, as a value -/
theorem Gd.newI (G : Gd K Δ I M H σ env) {p : Addr} (h : H p = none) (o : HO) : Ext I (upd I p o) ∧ Gd K Δ (upd I p o) M (upd H p o) σ env :=
  ⟨Ext.new (G.at_.freeI h), G.go (Ext.new (G.at_.freeI h)) (G.at_.newI h o)⟩
theorem Gd.newM (G : Gd K Δ I M H σ env) {p : Addr} (h : H p = none) (o : HO) (m : MO) (hm : MRep K I (mset M p m) (upd H p o) p m) : Gd K Δ I (mset M p m) (upd H p o) σ env :=
  G.go (Ext.refl I) (G.at_.newM h o m hm)
theorem Rps.toVals {vs : List V} {ds : List D} : Rps K I vs ds → True := fun _ => trivial
end
end BB

set_option maxHeartbeats 2000000
namespace BB
open L2 PySem PySem.Spec PyProof.Rows

section
variable {X : Cx} {Δ : DC} {e a b c : Expr} {de da db dc : DE} {dt du : DT} {pos : Pos}
variable {ta tb tc te to ti : TE} {t1 t2 : TT} {tl : TA}

/-! ### names, constants -/
def dVar (i : Nat) : DE := fun env M Q => ∃ d, env[i]? = some (some d) ∧ Q d M
def dC (d : D) : DE := fun _ M Q => Q d M
theorem pd_var {i : Nat} (h : PE X e (tVar i)) : PDe X Δ e (tVar i) (dVar i) := ⟨h, fun I M H σ env G Q Qd k ⟨d, h1, h2⟩ => by
  obtain ⟨v, e1, r⟩ := G.env.get i d h1
  exact ⟨v, e1, k d M I H v (Ext.refl I) G r h2⟩⟩
theorem pd_cst {v : V} {d : D} (h : PE X e (tC v)) (r : ∀ I, Rp X.K I v d) : PDe X Δ e (tC v) (dC d) := ⟨h, fun I M H σ env G Q Qd k q => k d M I H v (Ext.refl I) G (r I) q⟩
theorem pd_int {i j pos} : PDe X Δ (.Constant (.int i) j pos) (tC (.int i)) (dC (.int i)) := pd_cst pe_int fun _ => .int _
theorem pd_bl {i j pos} : PDe X Δ (.Constant (.bool i) j pos) (tC (.bl i)) (dC (.bl i)) := pd_cst pe_bl fun _ => .bl _
theorem pd_non {j pos} : PDe X Δ (.Constant .none j pos) (tC .non) (dC .non) := pd_cst pe_non fun _ => .non
theorem pd_str {x j pos} : PDe X Δ (.Constant (.str x) j pos) (tC (.str x)) (dC (.str x)) := pd_cst pe_str fun _ => .str _
/-- a module's own int, text, def, class -/
theorem pd_globI {x : Str} {i : Int} {t : Tok} (hg : Gl X x) (hm : X.mg x = some (.int i t)) (hd : (x == ("__debug__" : Str)) = false := by decide) : PDe X Δ (.Name x pos) (tC (.int i)) (dC (.int i)) := pd_cst (pe_glob (v := .int i) hg hm ⟨t, rfl⟩ hd) fun _ => .int _
theorem pd_globS {x z : Str} {t : Tok} (hg : Gl X x) (hm : X.mg x = some (.str z t)) (hd : (x == ("__debug__" : Str)) = false := by decide) : PDe X Δ (.Name x pos) (tC (.str z)) (dC (.str z)) := pd_cst (pe_glob (v := .str z) hg hm ⟨t, rfl⟩ hd) fun _ => .str _
theorem pd_globR {x : Str} {f : Addr} (hg : Gl X x) (hm : X.mg x = some (.ref f)) (hd : (x == ("__debug__" : Str)) = false := by decide) : PDe X Δ (.Name x pos) (tC (.ref f)) (dC (.ref f)) := pd_cst (pe_glob (v := .ref f) hg hm rfl hd) fun _ => .ref _
theorem pd_bltn {x : Str} {n : String} (hg : Gl X x) (hm : X.mg x = none) (hv : bootBuiltins x = some (.type n)) (hn : x ≠ "__name__" := by decide) (hd : (x == ("__debug__" : Str)) = false := by decide) : PDe X Δ (.Name x pos) (tC (.ty n)) (dC (.ty n)) :=
  pd_cst (pe_bltn (v := .ty n) hg hm hv rfl hn hd) fun _ => .ty _

/-! ### operators -/
abbrev RD2 := D → D → Mem → DKt → Prop
def SndR (X : Cx) (r : R2) (rd : RD2) : Prop := ∀ (Δ : DC) I M H σ env, Gd X.K Δ I M H σ env → ∀ x y dx dy, Rp X.K I x dx → Rp X.K I y dy → ∀ (Q : VK) (Qd : DKt),
  (∀ d M' I' H' v, Ext I I' → Gd X.K Δ I' M' H' σ env → Rp X.K I' v d → Qd d M' → Q v H') → rd dx dy M Qd → r x y H Q
def dOp (rd : RD2) (da db : DE) : DE := fun env M Q => da env M fun x M1 => db env M1 fun y M2 => rd x y M2 Q
theorem snd_op {r : R2} {rd : RD2} {ta tb : TE} (hr : SndR X r rd) (ha : SndE X Δ ta da) (hb : SndE X Δ tb db) : SndE X Δ (tOp r ta tb) (dOp rd da db) := fun I M H σ env G Q Qd k q =>
  ha I M H σ env G _ _ (fun x M1 I1 H1 v x1 G1 r1 q1 => hb I1 M1 H1 σ env G1 _ _ (fun y M2 I2 H2 u x2 G2 r2 q2 =>
    hr Δ I2 M2 H2 σ env G2 v u x y (r1.ext x2) r2 Q Qd (fun d M' I' H' w x3 => k d M' I' H' w ((x1.trans x2).trans x3)) q2) q1) q
theorem pd_op {op : Operator} {r : R2} {rd : RD2} (ho : OpR X (binaryOp op) r) (hr : SndR X r rd) (ha : PDe X Δ a ta da) (hb : PDe X Δ b tb db) : PDe X Δ (.BinOp a op b pos) (tOp r ta tb) (dOp rd da db) := by
  obtain ⟨pa, sa⟩ := ha
  obtain ⟨pb, sb⟩ := hb
  exact ⟨pe_op ho pa pb, snd_op hr sa sb⟩
theorem pd_cmp {op : CmpOp} {r : R2} {rd : RD2} (ho : OpR X (compareOp op) r) (hr : SndR X r rd) (ha : PDe X Δ a ta da) (hb : PDe X Δ b tb db) (hm : behindInMarks op b = false) : PDe X Δ (.Compare a [op] [b] pos) (tOp r ta tb) (dOp rd da db) := by
  obtain ⟨pa, sa⟩ := ha
  obtain ⟨pb, sb⟩ := hb
  exact ⟨pe_cmpR ho pa pb hm, snd_op hr sa sb⟩
/-- a value's answer as a test -/
def dTest (de : DE) : DT := fun env M Q => de env M fun x M1 => ∃ k, x = .bl k ∧ Q k M1
theorem snd_test {te : TE} (h : SndE X Δ te de) : SndT X Δ (tTest te) (dTest de) := fun I M H σ env G Q Qd k q =>
  h I M H σ env G _ _ (fun d M' I' H' v x G' r ⟨b, e, q'⟩ => by subst e; rw [r.bl_inv]; exact ⟨b, rfl, k b M' I' H' x G' q'⟩) q
theorem pdt_cmp {op : CmpOp} {r : R2} {rd : RD2} (ho : OpR X (compareOp op) r) (hr : SndR X r rd) (ha : PDe X Δ a ta da) (hb : PDe X Δ b tb db) (hm : behindInMarks op b = false) : PDt X Δ (.Compare a [op] [b] pos) (tTest (tOp r ta tb)) (dTest (dOp rd da db)) := by
  obtain ⟨pa, sa⟩ := ha
  obtain ⟨pb, sb⟩ := hb
  exact ⟨pt_cmpR ho pa pb hm, snd_test (snd_op hr sa sb)⟩
/-- a < b < c -/
def dChain (rd rd' : RD2) (da db dc : DE) : DE := fun env M Q => da env M fun x M1 => db env M1 fun y M2 => rd x y M2 fun z M3 => ∃ k, z = .bl k ∧
  (if k = true then dc env M3 fun w M4 => rd' y w M4 Q else Q (.bl false) M3)
theorem snd_chain {r r' : R2} {rd rd' : RD2} {ta tb tc : TE} (hr : SndR X r rd) (hr' : SndR X r' rd') (ha : SndE X Δ ta da) (hb : SndE X Δ tb db) (hc : SndE X Δ tc dc) : SndE X Δ (tChain r r' ta tb tc) (dChain rd rd' da db dc) := fun I M H σ env G Q Qd k q =>
  ha I M H σ env G _ _ (fun x M1 I1 H1 v x1 G1 r1 q1 => hb I1 M1 H1 σ env G1 _ _ (fun y M2 I2 H2 u x2 G2 r2 q2 =>
    hr Δ I2 M2 H2 σ env G2 v u x y (r1.ext x2) r2 _ _ (fun d M3 I3 H3 w x3 G3 r3 ⟨b, e, q3⟩ => by
      subst e
      rw [r3.bl_inv]
      refine ⟨b, rfl, ?_⟩
      cases b with
      | true =>
        rw [if_pos rfl] at q3 ⊢
        exact hc I3 M3 H3 σ env G3 _ _ (fun z M4 I4 H4 u4 x4 G4 r4 q4 => hr' Δ I4 M4 H4 σ env G4 u u4 y z ((r2.ext x3).ext x4) r4 Q Qd (fun d M' I' H' w x5 => k d M' I' H' w ((((x1.trans x2).trans x3).trans x4).trans x5)) q4) q3
      | false =>
        rw [if_neg Bool.false_ne_true] at q3 ⊢
        exact k _ _ _ _ _ ((x1.trans x2).trans x3) G3 (.bl false) q3) q2) q1) q
theorem pd_chain {op op' : CmpOp} {r r' : R2} {rd rd' : RD2} (ho : OpR X (compareOp op) r) (hr : SndR X r rd) (ho' : OpR X (compareOp op') r') (hr' : SndR X r' rd') (ha : PDe X Δ a ta da) (hb : PDe X Δ b tb db) (hc : PDe X Δ c tc dc)
    (hm : lastMarks [op, op'] [b, c] = false := by with_unfolding_all rfl) : PDe X Δ (.Compare a [op, op'] [b, c] pos) (tChain r r' ta tb tc) (dChain rd rd' da db dc) := by
  obtain ⟨pa, sa⟩ := ha
  obtain ⟨pb, sb⟩ := hb
  obtain ⟨pc, sc⟩ := hc
  exact ⟨pe_chain ho ho' pa pb pc hm, snd_chain hr hr' sa sb sc⟩
theorem pdt_chain {op op' : CmpOp} {r r' : R2} {rd rd' : RD2} (ho : OpR X (compareOp op) r) (hr : SndR X r rd) (ho' : OpR X (compareOp op') r') (hr' : SndR X r' rd') (ha : PDe X Δ a ta da) (hb : PDe X Δ b tb db) (hc : PDe X Δ c tc dc)
    (hm : lastMarks [op, op'] [b, c] = false := by with_unfolding_all rfl) : PDt X Δ (.Compare a [op, op'] [b, c] pos) (tTest (tChain r r' ta tb tc)) (dTest (dChain rd rd' da db dc)) := by
  obtain ⟨pa, sa⟩ := ha
  obtain ⟨pb, sb⟩ := hb
  obtain ⟨pc, sc⟩ := hc
  exact ⟨pt_chain ho ho' pa pb pc hm, snd_test (snd_chain hr hr' sa sb sc)⟩

/-! ### truth -/
def dTruth (M : Mem) : D → Option Bool
  | .non => some false
  | .bl b => some b
  | .int i => some (i != 0)
  | .str x => if x.length ≤ sizeLine then some (x.length != 0) else none
  | .tup xs => some !xs.isEmpty
  | .lst xs => some !xs.isEmpty
  | .frz xs => some !xs.isEmpty
  | .ref p => match M p with | some (.lst xs) => some !xs.isEmpty | _ => none
  | _ => none
theorem Rps.isEmpty {K : PySem.W.Frag} {I : Hp} {vs : List V} {ds : List D} (h : Rps K I vs ds) : vs.isEmpty = ds.isEmpty := by cases h <;> rfl
theorem tru_of {K : PySem.W.Frag} {F I H : Hp} {M : Mem} (A : At K F I M H) {v : V} {d : D} {b : Bool} (r : Rp K I v d) (h : dTruth M d = some b) : TruV K v H b := by
  have ex : ∀ a o, I a = some o → H a = some o := A.ex
  have sqT : ∀ {a xs}, SqT K I a xs → SqT K H a xs := fun {a xs} z => by
    rcases z with (z | ⟨o, z⟩) | z
    · exact .inl (.inl (ex _ _ z))
    · exact .inl (.inr ⟨o, ex _ _ z⟩)
    · exact .inr z
  have sqL : ∀ {a xs}, SqL K I a xs → SqL K H a xs := fun {a xs} z => by
    rcases z with (z | ⟨o, z⟩) | z
    · exact .inl (.inl (ex _ _ z))
    · exact .inl (.inr ⟨o, ex _ _ z⟩)
    · exact .inr z
  cases d with
  | non => cases h; rw [r.non_inv]; exact rfl
  | bl c => cases h; rw [r.bl_inv]; exact rfl
  | int i => cases h; rw [r.int_inv]; exact rfl
  | str x =>
    rw [r.str_inv]
    have h' : (if x.length ≤ sizeLine then some (x.length != 0) else none) = some b := h
    by_cases hz : x.length ≤ sizeLine
    · rw [if_pos hz] at h'
      cases h'
      refine ⟨hz, ?_⟩
      simp [bne, BEq.beq]
      all_goals first | rfl | omega
    · rw [if_neg hz] at h'; cases h'
  | tup xs => cases h; obtain ⟨a, vs, rfl, h1, h2⟩ := r.tup_inv; exact .inr (.inl ⟨vs, sqT h1, by rw [h2.isEmpty]⟩)
  | lst xs => cases h; obtain ⟨a, vs, rfl, h1, h2⟩ := r.lst_inv; exact .inl ⟨vs, .inl (.inl (ex _ _ h1)), by rw [h2.isEmpty]⟩
  | frz xs => cases h; obtain ⟨a, vs, rfl, h1, h2⟩ := r.frz_inv; exact .inl ⟨vs, sqL h1, by rw [h2.isEmpty]⟩
  | ref p =>
    rw [r.ref_inv]
    have h' : (match M p with | some (.lst xs) => some !xs.isEmpty | _ => none) = some b := h
    split at h'
    · rename_i xs e
      cases h'
      obtain ⟨_, vs, h1, h2⟩ := A.mem _ _ e
      exact .inl ⟨vs, .inl (.inl h1), by rw [h2.isEmpty]⟩
    · cases h'
  | _ => cases h
def dTru (de : DE) : DT := fun env M Q => de env M fun d M1 => ∃ b, dTruth M1 d = some b ∧ Q b M1
theorem pdt_tru (he : PDe X Δ e te de) (hw : ∀ whole, isTrue e X.env whole = (do let v ← whole; standAt e.pos; holding [v] (truthy v)) := by intro _; rfl) : PDt X Δ e (fun σ H Q => te σ H fun x H' => ∃ k, TruV X.K x H' k ∧ Q k H') (dTru de) := by
  obtain ⟨pe, se⟩ := he
  exact ⟨pt_truth pe hw, fun I M H σ env G Q Qd k q => se I M H σ env G _ _ (fun d M1 I1 H1 v x1 G1 r1 ⟨b, e1, q1⟩ => ⟨b, tru_of G1.at_ r1 e1, k b M1 I1 H1 x1 G1 q1⟩) q⟩

/-! ### and, or, not; if -/
variable {rest : List Expr}
def dAnd (t u : DT) : DT := fun env M Q => t env M fun c M1 => if c = true then u env M1 Q else Q false M1
def dOr (t u : DT) : DT := fun env M Q => t env M fun c M1 => if c = true then Q true M1 else u env M1 Q
def dNot (t : DT) : DT := fun env M Q => t env M fun c M1 => Q (!c) M1
theorem pdw_and1 (ha : PDt X Δ a t1 dt) : PDw X Δ (.BoolOp .And [a] pos) t1 dt := ⟨pw_and1 ha.1, ha.2⟩
theorem pdw_or1 (ha : PDt X Δ a t1 dt) : PDw X Δ (.BoolOp .Or [a] pos) t1 dt := ⟨pw_or1 ha.1, ha.2⟩
theorem snd_and {t u : TT} (h : SndT X Δ t dt) (h' : SndT X Δ u du) : SndT X Δ (tAnd t u) (dAnd dt du) := fun I M H σ env G Q Qd k q =>
  h I M H σ env G _ _ (fun b M1 I1 H1 x1 G1 q1 => by
    cases b with
    | true => rw [if_pos rfl] at q1 ⊢; exact h' I1 M1 H1 σ env G1 Q Qd (fun b M' I' H' x => k b M' I' H' (x1.trans x)) q1
    | false => rw [if_neg Bool.false_ne_true] at q1 ⊢; exact k _ _ _ _ x1 G1 q1) q
theorem snd_or {t u : TT} (h : SndT X Δ t dt) (h' : SndT X Δ u du) : SndT X Δ (tOr t u) (dOr dt du) := fun I M H σ env G Q Qd k q =>
  h I M H σ env G _ _ (fun b M1 I1 H1 x1 G1 q1 => by
    cases b with
    | false => rw [if_neg Bool.false_ne_true] at q1 ⊢; exact h' I1 M1 H1 σ env G1 Q Qd (fun b M' I' H' x => k b M' I' H' (x1.trans x)) q1
    | true => rw [if_pos rfl] at q1 ⊢; exact k _ _ _ _ x1 G1 q1) q
theorem snd_not {t : TT} (h : SndT X Δ t dt) : SndT X Δ (tNot t) (dNot dt) := fun I M H σ env G Q Qd k q => h I M H σ env G _ _ (fun b M1 I1 H1 x1 G1 q1 => k _ _ _ _ x1 G1 q1) q
theorem pdw_and (ha : PDt X Δ a t1 dt) (hb : PDw X Δ (.BoolOp .And (b :: rest) pos) t2 du) : PDw X Δ (.BoolOp .And (a :: b :: rest) pos) (tAnd t1 t2) (dAnd dt du) := ⟨pw_and ha.1 hb.1, snd_and ha.2 hb.2⟩
theorem pdw_or (ha : PDt X Δ a t1 dt) (hb : PDw X Δ (.BoolOp .Or (b :: rest) pos) t2 du) : PDw X Δ (.BoolOp .Or (a :: b :: rest) pos) (tOr t1 t2) (dOr dt du) := ⟨pw_or ha.1 hb.1, snd_or ha.2 hb.2⟩
theorem pdt_w (h : PDw X Δ e t1 dt) : PDt X Δ e t1 dt := ⟨h.1.pt, h.2⟩
theorem pdt_not (ha : PDt X Δ a t1 dt) : PDt X Δ (.UnaryOp .Not a pos) (tNot t1) (dNot dt) := ⟨pt_not ha.1, snd_not ha.2⟩
/-- as values (of truths) -/
def dAndV (da db : DE) : DE := fun env M Q => da env M fun x M1 => ∃ c, x = .bl c ∧ if c = true then db env M1 Q else Q (.bl false) M1
def dOrV (da db : DE) : DE := fun env M Q => da env M fun x M1 => ∃ c, x = .bl c ∧ if c = true then Q (.bl true) M1 else db env M1 Q
def dNotV (da : DE) : DE := fun env M Q => da env M fun x M1 => ∃ c, dTruth M1 x = some c ∧ Q (.bl (!c)) M1
theorem pd_one {op} (h : PDe X Δ a ta da) : PDe X Δ (.BoolOp op [a] pos) ta da := ⟨pe_one h.1, h.2⟩
theorem pd_and (ha : PDe X Δ a ta da) (hb : PDe X Δ (.BoolOp .And (b :: rest) pos) tb db) : PDe X Δ (.BoolOp .And (a :: b :: rest) pos) (tAndV ta tb) (dAndV da db) := by
  obtain ⟨pa, sa⟩ := ha
  obtain ⟨pb, sb⟩ := hb
  refine ⟨pe_and pa pb, fun I M H σ env G Q Qd k q => sa I M H σ env G _ _ (fun d M1 I1 H1 v x1 G1 r1 ⟨c, e, q1⟩ => ?_) q⟩
  subst e
  rw [r1.bl_inv]
  refine ⟨c, rfl, ?_⟩
  cases c with
  | true => rw [if_pos rfl] at q1 ⊢; exact sb I1 M1 H1 σ env G1 Q Qd (fun b M' I' H' v x => k b M' I' H' v (x1.trans x)) q1
  | false => rw [if_neg Bool.false_ne_true] at q1 ⊢; exact k _ _ _ _ _ x1 G1 (.bl false) q1
theorem pd_or (ha : PDe X Δ a ta da) (hb : PDe X Δ (.BoolOp .Or (b :: rest) pos) tb db) : PDe X Δ (.BoolOp .Or (a :: b :: rest) pos) (tOrV ta tb) (dOrV da db) := by
  obtain ⟨pa, sa⟩ := ha
  obtain ⟨pb, sb⟩ := hb
  refine ⟨pe_or pa pb, fun I M H σ env G Q Qd k q => sa I M H σ env G _ _ (fun d M1 I1 H1 v x1 G1 r1 ⟨c, e, q1⟩ => ?_) q⟩
  subst e
  rw [r1.bl_inv]
  refine ⟨c, rfl, ?_⟩
  cases c with
  | false => rw [if_neg Bool.false_ne_true] at q1 ⊢; exact sb I1 M1 H1 σ env G1 Q Qd (fun b M' I' H' v x => k b M' I' H' v (x1.trans x)) q1
  | true => rw [if_pos rfl] at q1 ⊢; exact k _ _ _ _ _ x1 G1 (.bl true) q1
theorem pd_not (ha : PDe X Δ a ta da) : PDe X Δ (.UnaryOp .Not a pos) (tNotT X.K ta) (dNotV da) := by
  obtain ⟨pa, sa⟩ := ha
  refine ⟨pe_notT pa, fun I M H σ env G Q Qd k q => sa I M H σ env G _ _ (fun d M1 I1 H1 v x1 G1 r1 ⟨c, e, q1⟩ => ?_) q⟩
  exact ⟨c, tru_of G1.at_ r1 e, k _ _ _ _ _ x1 G1 (.bl _) q1⟩
def dIf (t : DT) (da db : DE) : DE := fun env M Q => t env M fun c M1 => if c = true then da env M1 Q else db env M1 Q
theorem pd_ifExp {c : Expr} (hc : PDt X Δ c t1 dt) (ha : PDe X Δ a ta da) (hb : PDe X Δ b tb db) : PDe X Δ (.IfExp c a b pos) (tIf t1 ta tb) (dIf dt da db) := by
  obtain ⟨pc, sc⟩ := hc
  obtain ⟨pa, sa⟩ := ha
  obtain ⟨pb, sb⟩ := hb
  refine ⟨pe_ifExp pc pa pb, fun I M H σ env G Q Qd k q => sc I M H σ env G _ _ (fun d M1 I1 H1 x1 G1 q1 => ?_) q⟩
  cases d with
  | true => rw [if_pos rfl] at q1 ⊢; exact sa I1 M1 H1 σ env G1 Q Qd (fun b M' I' H' v x => k b M' I' H' v (x1.trans x)) q1
  | false => rw [if_neg Bool.false_ne_true] at q1 ⊢; exact sb I1 M1 H1 σ env G1 Q Qd (fun b M' I' H' v x => k b M' I' H' v (x1.trans x)) q1

/-! ### arguments, displays -/
variable {es : List Expr} {dl : DA}
def dNil : DA := fun _ M Q => Q [] M
def dCons (da : DE) (dr : DA) : DA := fun env M Q => da env M fun x M1 => dr env M1 fun xs M2 => Q (x :: xs) M2
theorem pda_nil : PDa X Δ [] tNil dNil := ⟨pa_nil, fun I M H σ env G Q Qd k q => k [] M I H [] (Ext.refl I) G .nil q⟩
theorem pda_cons (ha : PDe X Δ e te da) (hr : PDa X Δ es tl dl) (he : starEach (e :: es) X.env = (false, eval e X.env) :: starEach es X.env := by rfl) : PDa X Δ (e :: es) (tCons te tl) (dCons da dl) := by
  obtain ⟨pa, sa⟩ := ha
  obtain ⟨pr, sr⟩ := hr
  refine ⟨pa_cons pa pr he, fun I M H σ env G Q Qd k q => sa I M H σ env G _ _ (fun d M1 I1 H1 v x1 G1 r1 q1 => sr I1 M1 H1 σ env G1 _ _ (fun ds M2 I2 H2 vs x2 G2 r2 q2 => ?_) q1) q⟩
  exact k _ _ _ _ _ (x1.trans x2) G2 (.cons (r1.ext x2) r2) q2
def dTup (dl : DA) : DE := fun env M Q => dl env M fun xs M1 => xs.length ≤ sizeLine ∧ Q (.tup xs) M1
/-- a list that stays as it is; one of the store -/
def dLst (dl : DA) : DE := fun env M Q => dl env M fun xs M1 => xs.length ≤ sizeLine ∧ Q (.lst xs) M1
def dLstM (dl : DA) : DE := fun env M Q => dl env M fun xs M1 => xs.length ≤ sizeLine ∧ ∀ p, M1 p = none → Q (.ref p) (mset M1 p (.lst xs))
theorem pd_tup {x1} (h : PDa X Δ es tl dl) : PDe X Δ (.Tuple es x1 pos) (tTup tl) (dTup dl) := by
  obtain ⟨p, s⟩ := h
  refine ⟨pe_tup p, fun I M H σ env G Q Qd k q => s I M H σ env G _ _ (fun ds M1 I1 H1 vs x1 G1 r1 ⟨z, q1⟩ => ⟨by rw [r1.length]; exact z, fun p hp => ?_⟩) q⟩
  obtain ⟨x2, G2⟩ := G1.newI hp (.tup vs)
  exact k _ _ _ _ _ (x1.trans x2) G2 (.tup (.inl (.inl upd_same)) (r1.ext x2)) q1
theorem pd_lst (h : PDa X Δ es tl dl) : PDe X Δ (.List es pos) (tLst tl) (dLst dl) := by
  obtain ⟨p, s⟩ := h
  refine ⟨pe_lst p, fun I M H σ env G Q Qd k q => s I M H σ env G _ _ (fun ds M1 I1 H1 vs x1 G1 r1 ⟨z, q1⟩ => ⟨by rw [r1.length]; exact z, fun p hp => ?_⟩) q⟩
  obtain ⟨x2, G2⟩ := G1.newI hp (.lst vs)
  exact k _ _ _ _ _ (x1.trans x2) G2 (.lst upd_same (r1.ext x2)) q1
theorem pd_lstM (h : PDa X Δ es tl dl) : PDe X Δ (.List es pos) (tLst tl) (dLstM dl) := by
  obtain ⟨p, s⟩ := h
  refine ⟨pe_lst p, fun I M H σ env G Q Qd k q => s I M H σ env G _ _ (fun ds M1 I1 H1 vs x1 G1 r1 ⟨z, q1⟩ => ⟨by rw [r1.length]; exact z, fun p hp => ?_⟩) q⟩
  exact k _ _ _ _ _ x1 (G1.newM hp (.lst vs) (.lst ds) ⟨vs, upd_same, r1⟩) (.ref p) (q1 p (G1.at_.freeM hp))
end
end BB

set_option maxHeartbeats 2000000
namespace BB
open L2 PySem PySem.Spec PyProof.Rows

section
variable {X : Cx} {Δ : DC} {e a b c : Expr} {de da db dc : DE} {dt du : DT} {pos : Pos} {ds dr : DS} {st : Stmt} {rest sts : List Stmt}
variable {ta tb tc te to ti : TE} {t1 t2 : TT} {tl : TA}
variable {ts ts' tsa tsb : TS} {g g1 : TG} {g2 : TGs} {wi : TI}
theorem At.sqT {K : PySem.W.Frag} {F I H : Hp} {M : Mem} (A : At K F I M H) {a : Addr} {xs} (h : SqT K I a xs) : SqT K H a xs := by
  rcases h with (z | ⟨o, z⟩) | z
  · exact .inl (.inl (A.ex _ _ z))
  · exact .inl (.inr ⟨o, A.ex _ _ z⟩)
  · exact .inr z
theorem At.sqL {K : PySem.W.Frag} {F I H : Hp} {M : Mem} (A : At K F I M H) {a : Addr} {xs} (h : SqL K I a xs) : SqL K H a xs := by
  rcases h with (z | ⟨o, z⟩) | z
  · exact .inl (.inl (A.ex _ _ z))
  · exact .inl (.inr ⟨o, A.ex _ _ z⟩)
  · exact .inr z

/-! ### what may be forgotten, let go, or fixed between two steps -/
def Loose : MO → Bool
  | .lst _ | .dK _ | .dT _ => true
  | _ => false
inductive FzS (P : Env → Mem → Prop) : Env → Mem → Prop
  | done {env M} : P env M → FzS P env M
  | forget {env M} (i : Nat) : FzS P (env.set i none) M → FzS P env M
  | drop {env M} (p : Addr) {m : MO} : M p = some m → Loose m = true → FzS P env (mdel M p) → FzS P env M
  | dropI {env M} (p : Addr) {C fs} : M p = some (.ins C fs) → (∀ dx, M dx = some (.own p) → FzS P env (mdel (mdel M p) dx)) → FzS P env M
  | fixL {env M} (i : Nat) {p xs} : env[i]? = some (some (.ref p)) → M p = some (.lst xs) → FzS P (env.set i (some (.lst xs))) (mdel M p) → FzS P env M
  | fixK {env M} (i : Nat) {p xs} : env[i]? = some (some (.ref p)) → M p = some (.dK xs) → FzS P (env.set i (some (.dK xs))) (mdel M p) → FzS P env M
  | fixT {env M} (i : Nat) {p xs} : env[i]? = some (some (.ref p)) → M p = some (.dT xs) → FzS P (env.set i (some (.dT xs))) (mdel M p) → FzS P env M
  | fixI {env M} (i : Nat) {p C fs} : env[i]? = some (some (.ref p)) → M p = some (.ins C fs) → (∀ dx, M dx = some (.own p) → FzS P (env.set i (some (.ins C fs))) (mdel (mdel M p) dx)) → FzS P env M
theorem At.drop {K : PySem.W.Frag} {F I H : Hp} {M : Mem} (A : At K F I M H) {p : Addr} {m : MO} (hp : M p = some m) (hm : Loose m = true) : At K F I (mdel M p) H where
  ex := A.ex
  mem := fun b u e => by
    have hb : b ≠ p := fun z => by subst z; rw [mdel_same] at e; cases e
    rw [mdel_ne hb] at e
    refine ⟨(A.mem _ _ e).1, (A.mem _ _ e).2.mono (Ext.refl I) (fun c v _ hv => hv) (fun c hc => ?_)⟩
    rw [mdel_ne (mem_ne2 hc hp (by rintro rfl; cases hm))]; exact hc
  fr := fun b u e => by
    obtain ⟨h1, h2, h3⟩ := A.fr _ _ e
    have hb : b ≠ p := fun z => by subst z; rw [hp] at h3; cases h3
    exact ⟨h1, h2, by rw [mdel_ne hb]; exact h3⟩
theorem At.dropI {K : PySem.W.Frag} {F I H : Hp} {M : Mem} (A : At K F I M H) {p : Addr} {C fs} (hp : M p = some (.ins C fs)) : ∃ dx, M dx = some (.own p) ∧ At K F I (mdel (mdel M p) dx) H := by
  obtain ⟨hI, dx, fvs, hv, hd, hm, r⟩ := A.mem _ _ hp
  refine ⟨dx, hm, A.ex, fun b u e => ?_, fun b u e => ?_⟩
  · have hb : b ≠ dx := fun z => by subst z; rw [mdel_same] at e; cases e
    rw [mdel_ne hb] at e
    have hb2 : b ≠ p := fun z => by subst z; rw [mdel_same] at e; cases e
    rw [mdel_ne hb2] at e
    refine ⟨(A.mem _ _ e).1, (A.mem _ _ e).2.mono (Ext.refl I) (fun c v _ hv => hv) (fun c hc => ?_)⟩
    have n1 : c ≠ dx := fun z => by subst z; rw [hm] at hc; cases hc; exact hb2 rfl
    rw [mdel_ne n1, mdel_ne (mem_ne2 hc hp (by intro z; cases z))]; exact hc
  · obtain ⟨h1, h2, h3⟩ := A.fr _ _ e
    have hb : b ≠ p := fun z => by subst z; rw [hp] at h3; cases h3
    have hb2 : b ≠ dx := fun z => by subst z; rw [hm] at h3; cases h3
    exact ⟨h1, h2, by rw [mdel_ne hb2, mdel_ne hb]; exact h3⟩
theorem EnvR.set0 {K : PySem.W.Frag} {I : Hp} {σ : L2.St} {env : Env} (R : EnvR K I σ env) (i : Nat) : EnvR K I σ (env.set i none) := by
  refine ⟨by rw [List.length_set]; exact R.len, fun j e h => ?_⟩
  by_cases hij : i = j
  · subst hij
    have hl : i < env.length := by
      have := (List.getElem?_eq_some_iff.mp h).1
      rw [List.length_set] at this
      exact this
    rw [List.getElem?_set_self hl] at h
    cases h
  · rw [List.getElem?_set_ne hij] at h
    exact R.get j e h
theorem EnvR.re {K : PySem.W.Frag} {I : Hp} {σ : L2.St} {env : Env} {i : Nat} {v : V} {d : D} (R : EnvR K I σ env) (hi : σ[i]? = some (some v)) (r : Rp K I v d) : EnvR K I σ (env.set i (some d)) := by
  refine ⟨by rw [List.length_set]; exact R.len, fun j e h => ?_⟩
  by_cases hij : i = j
  · subst hij
    have hl : i < env.length := by
      have := (List.getElem?_eq_some_iff.mp h).1
      rw [List.length_set] at this
      exact this
    rw [List.getElem?_set_self hl] at h
    cases h
    exact ⟨v, hi, r⟩
  · rw [List.getElem?_set_ne hij] at h
    exact R.get j e h
theorem fzs {K : PySem.W.Frag} {H : Hp} {σ : L2.St} {P : Env → Mem → Prop} {env : Env} {M : Mem} (h : FzS P env M) : ∀ {I : Hp}, Gd K Δ I M H σ env → ∃ I' M' env', Ext I I' ∧ Gd K Δ I' M' H σ env' ∧ P env' M' := by
  induction h with
  | done p => exact fun {I} G => ⟨I, _, _, Ext.refl I, G, p⟩
  | forget i _ ih => exact fun {I} G => ih ⟨G.base, G.at_, G.env.set0 i⟩
  | drop p hp hm _ ih => exact fun {I} G => ih ⟨G.base, G.at_.drop hp hm, G.env⟩
  | dropI p hp _ ih =>
    intro I G
    obtain ⟨dx, hd, A⟩ := G.at_.dropI hp
    exact ih dx hd ⟨G.base, A, G.env⟩
  | fixL i he hp _ ih =>
    intro I G
    obtain ⟨J, x, A, r⟩ := G.at_.fixL hp
    obtain ⟨v, hv, rv⟩ := G.env.get i _ he
    have e := rv.ref_inv
    subst e
    obtain ⟨I', M', env', x', G', q⟩ := ih (I := J) ⟨G.base.trans x, A, (G.env.ext x).re hv r⟩
    exact ⟨I', M', env', x.trans x', G', q⟩
  | fixK i he hp _ ih =>
    intro I G
    obtain ⟨J, x, A, r⟩ := G.at_.fixK hp
    obtain ⟨v, hv, rv⟩ := G.env.get i _ he
    have e := rv.ref_inv
    subst e
    obtain ⟨I', M', env', x', G', q⟩ := ih (I := J) ⟨G.base.trans x, A, (G.env.ext x).re hv r⟩
    exact ⟨I', M', env', x.trans x', G', q⟩
  | fixT i he hp _ ih =>
    intro I G
    obtain ⟨J, x, A, r⟩ := G.at_.fixT hp
    obtain ⟨v, hv, rv⟩ := G.env.get i _ he
    have e := rv.ref_inv
    subst e
    obtain ⟨I', M', env', x', G', q⟩ := ih (I := J) ⟨G.base.trans x, A, (G.env.ext x).re hv r⟩
    exact ⟨I', M', env', x.trans x', G', q⟩
  | fixI i he hp _ ih =>
    intro I G
    obtain ⟨dx, J, hd, x, A, r⟩ := G.at_.fixI hp
    obtain ⟨v, hv, rv⟩ := G.env.get i _ he
    have e := rv.ref_inv
    subst e
    obtain ⟨I', M', env', x', G', q⟩ := ih dx hd (I := J) ⟨G.base.trans x, A, (G.env.ext x).re hv r⟩
    exact ⟨I', M', env', x.trans x', G', q⟩

/-! ### statements -/
def dNext : DS := fun T env M => T.nx env M
def dSeq (t u : DS) : DS := fun T env M => t { T with nx := FzS (u T) } env M
theorem pdss_nil : PDss X Δ [] tNext dNext := ⟨pss_nil, fun I M H σ env G T Td R q => R.nx env M I H σ (Ext.refl I) G q⟩
theorem pdss_cons (h : PDs X Δ st ts ds) (h' : PDss X Δ rest ts' dr) : PDss X Δ (st :: rest) (tSeq ts ts') (dSeq ds dr) := by
  obtain ⟨p, s⟩ := h
  obtain ⟨p', s'⟩ := h'
  refine ⟨pss_cons p p', fun I M H σ env G T Td R q => s I M H σ env G _ { Td with nx := FzS (dr Td) } ⟨fun env' M' I' H' σ' x G' q' => ?_, R.bk, R.ct, R.rt⟩ q⟩
  obtain ⟨I2, M2, env2, x2, G2, q2⟩ := fzs q' G'
  exact s' I2 M2 H' σ' env2 G2 T Td (R.ext (x.trans x2)) q2
theorem pdss_one (h : PDs X Δ st ts ds) : PDss X Δ [st] ts ds := ⟨pss_one h.1, h.2⟩
theorem pds_pass : PDs X Δ (.Pass pos) tNext dNext := ⟨ps_pass, fun I M H σ env G T Td R q => R.nx env M I H σ (Ext.refl I) G q⟩
def dBreak : DS := fun T env M => T.bk env M
def dCont : DS := fun T env M => T.ct env M
theorem pds_break : PDs X Δ (.Break pos) tBreak dBreak := ⟨ps_break, fun I M H σ env G T Td R q => R.bk env M I H σ (Ext.refl I) G q⟩
theorem pds_continue : PDs X Δ (.Continue pos) tCont dCont := ⟨ps_continue, fun I M H σ env G T Td R q => R.ct env M I H σ (Ext.refl I) G q⟩
def dDrop (de : DE) : DS := fun T env M => de env M fun _ M1 => T.nx env M1
theorem pds_expr (he : PDe X Δ e te de) (hs : swapsWith e none pos.line X.env = pure false := by rfl) : PDs X Δ (.Expr e pos) (tDrop te) (dDrop de) := by
  obtain ⟨p, s⟩ := he
  exact ⟨ps_expr p hs, fun I M H σ env G T Td R q => s I M H σ env G _ _ (fun d M1 I1 H1 v x1 G1 r1 q1 => R.nx _ _ _ _ _ x1 G1 q1) q⟩
def dRet (de : DE) : DS := fun T env M => de env M T.rt
theorem pds_ret (he : PDe X Δ e te de) : PDs X Δ (.Return (some e) pos) (tRet te) (dRet de) := by
  obtain ⟨p, s⟩ := he
  exact ⟨ps_ret p, fun I M H σ env G T Td R q => s I M H σ env G _ _ (fun d M1 I1 H1 v x1 G1 r1 q1 => R.rt _ _ _ _ _ x1 G1.base G1.at_ r1 q1) q⟩
def dRetN : DS := fun T _ M => T.rt .non M
theorem pds_retN : PDs X Δ (.Return none pos) tRetN dRetN := ⟨ps_retN, fun I M H σ env G T Td R q => R.rt _ _ _ _ _ (Ext.refl I) G.base G.at_ .non q⟩
def dIfS (t : DT) (u w : DS) : DS := fun T env M => t env M fun b M1 => if b = true then u T env M1 else w T env M1
theorem pds_if {as bs : List Stmt} {ua ub : DS} (hc : PDt X Δ c t1 dt) (ha : PDss X Δ as tsa ua) (hb : PDss X Δ bs tsb ub) : PDs X Δ (.If c as bs pos) (tIfS t1 tsa tsb) (dIfS dt ua ub) := by
  obtain ⟨pc, sc⟩ := hc
  obtain ⟨pa, sa⟩ := ha
  obtain ⟨pb, sb⟩ := hb
  refine ⟨ps_if pc pa pb, fun I M H σ env G T Td R q => sc I M H σ env G _ _ (fun b M1 I1 H1 x1 G1 q1 => ?_) q⟩
  cases b with
  | true => rw [if_pos rfl] at q1 ⊢; exact sa I1 M1 H1 σ env G1 T Td (R.ext x1) q1
  | false => rw [if_neg Bool.false_ne_true] at q1 ⊢; exact sb I1 M1 H1 σ env G1 T Td (R.ext x1) q1

/-! ### targets -/
abbrev DG := D → Env → Mem → (Env → Mem → Prop) → Prop
abbrev DGs := List D → Env → Mem → (Env → Mem → Prop) → Prop
def SndG (X : Cx) (Δ : DC) (g : TG) (dg : DG) : Prop := ∀ I M H σ env, Gd X.K Δ I M H σ env → ∀ v d, Rp X.K I v d → ∀ (Q : L2.St → Hp → Prop) (Qd : Env → Mem → Prop),
  (∀ env' M' I' H' σ', Ext I I' → Gd X.K Δ I' M' H' σ' env' → Qd env' M' → Q σ' H') → dg d env M Qd → g v σ H Q
def SndGs (X : Cx) (Δ : DC) (g : TGs) (dg : DGs) : Prop := ∀ I M H σ env, Gd X.K Δ I M H σ env → ∀ v d, Rps X.K I v d → ∀ (Q : L2.St → Hp → Prop) (Qd : Env → Mem → Prop),
  (∀ env' M' I' H' σ', Ext I I' → Gd X.K Δ I' M' H' σ' env' → Qd env' M' → Q σ' H') → dg d env M Qd → g v σ H Q
def PDg (X : Cx) (Δ : DC) (tg : Expr) (g : TG) (dg : DG) : Prop := PG X tg g ∧ SndG X Δ g dg
def PDgs (X : Cx) (Δ : DC) (ts : List Expr) (g : TGs) (dg : DGs) : Prop := PGs X ts g ∧ SndGs X Δ g dg
def gdName (i : Nat) : DG := fun d env M Q => Q (env.set i (some d)) M
theorem snd_name {i : Nat} : SndG X Δ (gName i) (gdName i) := fun I M H σ env G v d r Q Qd k q => k _ _ _ _ _ (Ext.refl I) (G.set r) q
theorem pdg_name {i : Nat} {tg : Expr} (h : PG X tg (gName i)) : PDg X Δ tg (gName i) (gdName i) := ⟨h, snd_name⟩
def gdNil : DGs := fun vs env M Q => vs = [] ∧ Q env M
def gdCons (t : DG) (u : DGs) : DGs := fun vs env M Q => ∃ v r, vs = v :: r ∧ t v env M fun env' M' => u r env' M' Q
theorem pdgs_nil : PDgs X Δ [] gNil gdNil := ⟨pgs_nil, fun I M H σ env G v d r Q Qd k ⟨e, q⟩ => by
  subst e
  exact ⟨r.nil_inv, k _ _ _ _ _ (Ext.refl I) G q⟩⟩
theorem pdgs_cons {e : Expr} {es : List Expr} {t : DG} {u : DGs} (h1 : PDg X Δ e g1 t) (h2 : PDgs X Δ es g2 u)
    (hs : (assignEach (e :: es) X.env).map (·.2) = assign e X.env :: (assignEach es X.env).map (·.2) := by rfl) : PDgs X Δ (e :: es) (gCons g1 g2) (gdCons t u) := by
  obtain ⟨p1, s1⟩ := h1
  obtain ⟨p2, s2⟩ := h2
  refine ⟨pgs_cons p1 p2 hs, fun I M H σ env G vs ds r Q Qd k ⟨d, dr, e, q⟩ => ?_⟩
  subst e
  obtain ⟨v, vr, rfl, rv, rr⟩ := r.cons_inv
  exact ⟨v, vr, rfl, s1 I M H σ env G v d rv _ _ (fun env' M' I' H' σ' x G' q' => s2 I' M' H' σ' env' G' vr dr (rr.ext x) Q Qd (fun e2 M2 I2 H2 σ2 x2 => k e2 M2 I2 H2 σ2 (x.trans x2)) q') q⟩
def gdTup (n : Nat) (t : DGs) : DG := fun d env M Q => ∃ xs, d = .tup xs ∧ xs.length = n ∧ t xs env M Q
theorem pdg_tup {es : List Expr} {k : Nat} {t : DGs} {n : Nat} (hc : X.calm = true) (h : PDgs X Δ es g2 t)
    (hn : (assignEach es X.env).length = n := by rfl) (hst : (assignEach es X.env).findIdx? (·.1) = none := by rfl) : PDg X Δ (.Tuple es k pos) (gTup X.K n g2) (gdTup n t) := by
  obtain ⟨p, s⟩ := h
  refine ⟨pg_tup hc p hn hst, fun I M H σ env G v d r Q Qd k ⟨xs, e, hl, q⟩ => ?_⟩
  subst e
  obtain ⟨a, vs, rfl, h1, h2⟩ := r.tup_inv
  exact ⟨a, vs, rfl, G.at_.sqT h1, by rw [h2.length]; exact hl, s I M H σ env G vs xs h2 Q Qd k q⟩
/-- o[i] = .. of a list of the store -/
def gdSub (da db : DE) : DG := fun d env M Q => da env M fun o M1 => db env M1 fun i M2 => ∃ p xs k j, o = .ref p ∧ i = .int k ∧ M2 p = some (.lst xs) ∧ ixN xs.length k = some j ∧ Q env (mset M2 p (.lst (xs.set j d)))
theorem pdg_sub {o i : Expr} (ho : PDe X Δ o to da) (hi : PDe X Δ i ti db) (walk : PE X o to → PE X i ti → PG X (.Subscript o i pos) (gSub to ti rSetL) := by exact fun a b => pg_sub a b set_list) : PDg X Δ (.Subscript o i pos) (gSub to ti rSetL) (gdSub da db) := by
  obtain ⟨po, so⟩ := ho
  obtain ⟨pi, si⟩ := hi
  refine ⟨walk po pi, fun I M H σ env G v d r Q Qd k q => so I M H σ env G _ _ (fun d1 M1 I1 H1 v1 x1 G1 r1 q1 => si I1 M1 H1 σ env G1 _ _ (fun d2 M2 I2 H2 v2 x2 G2 r2 q2 => ?_) q1) q⟩
  obtain ⟨p, xs, z, j, e1, e2, hm, hj, q3⟩ := q2
  subst e1 e2
  have r1' := r1.ext x2
  rw [r2.int_inv, r1'.ref_inv]
  obtain ⟨hI, vs, hv, rs⟩ := G2.at_.mem _ _ hm
  have rd := r.ext (x1.trans x2)
  refine ⟨p, vs, z, j, rfl, rfl, hv, by rw [rs.length]; exact hj, k _ _ _ _ _ (x1.trans x2) (G2.go (Ext.refl I2) (G2.at_.write (m' := .lst (xs.set j d)) hm (fun _ z => by cases z) ⟨_, upd_same, rs.set j rd⟩)) q3⟩
def dAsg (de : DE) (g : DG) : DS := fun T env M => de env M fun d M1 => g d env M1 T.nx
theorem pds_asg {tg e : Expr} {dg : DG} (he : PDe X Δ e te de) (hg : PDg X Δ tg g dg) (hs : swapsWithSole [tg] e pos.line X.env = pure false := by rfl) (hw : swappedStores [tg] e X.env = pure none := by rfl)
    (h1 : (assignEach [tg] X.env).map (·.2) = [assign tg X.env] := by rfl) : PDs X Δ (.Assign [tg] e pos) (tAsg te g) (dAsg de dg) := by
  obtain ⟨pe, se⟩ := he
  obtain ⟨pg, sg⟩ := hg
  exact ⟨ps_asg pe pg hs hw h1, fun I M H σ env G T Td R q => se I M H σ env G _ _ (fun d M1 I1 H1 v x1 G1 r1 q1 => sg I1 M1 H1 σ env G1 v d r1 _ _ (fun env' M' I' H' σ' x G' q' => R.nx _ _ _ _ _ (x1.trans x) G' q') q1) q⟩
def dSet (i : Nat) (de : DE) : DS := fun T env M => de env M fun d M1 => T.nx (env.set i (some d)) M1
theorem pds_set {i : Nat} {x : Str} {e : Expr} {pos' : Pos} (hN : X.N.Nodup) (hi : X.N[i]? = some x) (hx : Loc X.env.scope x) (he : PDe X Δ e te de) (hs : swapsWith e (some (.Name x pos')) pos.line X.env = pure false := by rfl) (hf : X.fn x = true ∨ X.env.scope.names.lookup x = some .local := by first | exact .inl rfl | exact .inr rfl | assumption) :
    PDs X Δ (.Assign [.Name x pos'] e pos) (tAsg te (gName i)) (dSet i de) := by
  obtain ⟨pe, se⟩ := he
  exact ⟨ps_set hN hi hx pe hs hf, fun I M H σ env G T Td R q => se I M H σ env G _ _ (fun d M1 I1 H1 v x1 G1 r1 q1 => R.nx _ _ _ _ _ x1 (G1.set r1) q1) q⟩
def dPar (i j : Nat) (da db : DE) : DS := fun T env M => da env M fun d M1 => db env M1 fun e M2 => T.nx ((env.set i (some d)).set j (some e)) M2
theorem pds_par {i j : Nat} {x y : Str} {a b : Expr} {px py pt : Pos} {kt k2 pt2} (hc : X.calm = true) (hN : X.N.Nodup) (hi : X.N[i]? = some x) (hj : X.N[j]? = some y) (hij : i ≠ j)
    (hx : X.env.scope.names.lookup x = some .local) (hy : X.env.scope.names.lookup y = some .local) (ha : PDe X Δ a ta da) (hb : PDe X Δ b tb db)
    (hw : swappedStores [.Tuple [.Name x px, .Name y py] kt pt] (.Tuple [a, b] k2 pt2) X.env = pure (some [x, y]) := by rfl)
    (hs : swapsWithSole [.Tuple [.Name x px, .Name y py] kt pt] (.Tuple [a, b] k2 pt2) pos.line X.env = pure false := by rfl)
    (he1 : starEach [a, b] X.env = (false, eval a X.env) :: starEach [b] X.env := by rfl) (he2 : starEach [b] X.env = (false, eval b X.env) :: starEach [] X.env := by rfl) :
    PDs X Δ (.Assign [.Tuple [.Name x px, .Name y py] kt pt] (.Tuple [a, b] k2 pt2) pos) (tPar i j (tCons ta (tCons tb tNil))) (dPar i j da db) := by
  obtain ⟨pa, sa⟩ := ha
  obtain ⟨pb, sb⟩ := hb
  refine ⟨ps_par hc hN hi hj hij hx hy (pa_cons pa (pa_cons pb pa_nil he2) he1) hw hs, fun I M H σ env G T Td R q => sa I M H σ env G _ _ (fun d M1 I1 H1 v x1 G1 r1 q1 => sb I1 M1 H1 σ env G1 _ _ (fun e M2 I2 H2 u x2 G2 r2 q2 => ?_) q1) q⟩
  exact ⟨v, u, rfl, R.nx _ _ _ _ _ (x1.trans x2) ((G2.set (r1.ext x2)).set r2) q2⟩

/-! ### loops -/
/-- what is walked: items ds, while keep holds of the store -/
structure ItOk (K : PySem.W.Frag) (I1 : Hp) (J : It) (xs : List D) (keep : Mem → Prop) : Prop where
  go : ∀ F i I M H, Ext I1 I → At K F I M H → keep M → i < xs.length → J.go i H
  stop : ∀ F I M H, Ext I1 I → At K F I M H → keep M → J.stop xs.length H
  yld : ∀ F i d x I M H H', Ext I1 I → At K F I M H → keep M → xs[i]? = some d → J.yld i H x H' → ∃ I', Ext I I' ∧ At K F I' M H' ∧ Rp K I' x d
abbrev DI := Env → Mem → (List D → (Mem → Prop) → Mem → Prop) → Prop
def SndI (X : Cx) (Δ : DC) (wi : TI) (di : DI) : Prop := ∀ I M H σ env, Gd X.K Δ I M H σ env → ∀ (R : It → Hp → Prop) (Rd : List D → (Mem → Prop) → Mem → Prop),
  (∀ xs keep M1 J I1 H1, Ext I I1 → Gd X.K Δ I1 M1 H1 σ env → ItOk X.K I1 J xs keep → Rd xs keep M1 → R J H1) → di env M Rd → wi σ H R
def PDi (X : Cx) (Δ : DC) (tg iter : Expr) (wi : TI) (di : DI) : Prop := PI X tg iter wi ∧ SndI X Δ wi di
def dFor (di : DI) (g : DG) (u : DS) : DS := fun T env M => di env M fun xs keep M1 => ∃ P : Nat → Env → Mem → Prop, P 0 env M1 ∧ (∀ i env M, P i env M → keep M) ∧
  (∀ i d env M, xs[i]? = some d → P i env M → g d env M fun env' M' => u { T with nx := FzS (P (i + 1)), ct := FzS (P (i + 1)), bk := T.nx } env' M') ∧ ∀ env M, P xs.length env M → T.nx env M
theorem pds_for {tg iter : Expr} {body : List Stmt} {di : DI} {dg : DG} {u : DS} (hp : PassesOwn (model X.prog X.w) X.A X.env X.xe) (hc : X.calm = true) (hi : PDi X Δ tg iter wi di) (hg : PDg X Δ tg g dg) (hb : PDss X Δ body ts u)
    (hs : ∀ x, foldedSetIterable iter X.env x = pure x := by intro _; rfl) : PDs X Δ (.For tg iter body [] pos) (tFor wi g ts) (dFor di dg u) := by
  obtain ⟨pi, si⟩ := hi
  obtain ⟨pg, sg⟩ := hg
  obtain ⟨pb, sb⟩ := hb
  refine ⟨ps_for hp hc pi pg pb hs, fun I M H σ env G T Td R q => si I M H σ env G _ _ (fun xs keep M1 J I1 H1 x1 G1 ok q1 => ?_) q⟩
  obtain ⟨P, p0, pk, ps, pd⟩ := q1
  refine ⟨fun i m σ H => m = xs.length - i ∧ i ≤ xs.length ∧ ∃ I M env, Ext I1 I ∧ Gd X.K Δ I M H σ env ∧ P i env M, ⟨xs.length, by simp, Nat.zero_le _, I1, M1, env, Ext.refl _, G1, p0⟩, ?_⟩
  rintro i m σ2 H2 ⟨rfl, hi, I2, M2, env2, x2, G2, p2⟩
  have hk := pk i env2 M2 p2
  by_cases hlt : i < xs.length
  · refine .inr ⟨ok.go Δ.F i I2 M2 H2 x2 G2.at_ hk hlt, fun σ H => ∃ I M env, Ext I1 I ∧ Gd X.K Δ I M H σ env ∧ P (i + 1) env M, fun σ' H' w => ⟨xs.length - (i + 1), by omega, rfl, hlt, w⟩, fun x H' y => ?_⟩
    have hd : xs[i]? = some xs[i] := by simp [hlt]
    obtain ⟨I3, x3, A3, r3⟩ := ok.yld Δ.F i xs[i] x I2 M2 H2 H' x2 G2.at_ hk hd y
    have G3 := G2.go x3 A3
    refine sg I3 M2 H' σ2 env2 G3 x xs[i] r3 _ _ (fun env4 M4 I4 H4 σ4 x4 G4 q4 => ?_) (ps i xs[i] env2 M2 hd p2)
    refine sb I4 M4 H4 σ4 env4 G4 _ { Td with nx := FzS (P (i + 1)), ct := FzS (P (i + 1)), bk := Td.nx } ⟨fun env5 M5 I5 H5 σ5 x5 G5 q5 => ?_, fun env5 M5 I5 H5 σ5 x5 G5 q5 => ?_, fun env5 M5 I5 H5 σ5 x5 G5 q5 => ?_, fun d5 M5 I5 H5 v5 x5 b5 A5 r5 q5 => ?_⟩ q4
    · obtain ⟨I6, M6, env6, x6, G6, q6⟩ := fzs q5 G5
      exact ⟨I6, M6, env6, (((x2.trans x3).trans x4).trans x5).trans x6, G6, q6⟩
    · exact R.nx _ _ _ _ _ ((((x1.trans x2).trans x3).trans x4).trans x5) G5 q5
    · obtain ⟨I6, M6, env6, x6, G6, q6⟩ := fzs q5 G5
      exact ⟨I6, M6, env6, (((x2.trans x3).trans x4).trans x5).trans x6, G6, q6⟩
    · exact R.rt _ _ _ _ _ ((((x1.trans x2).trans x3).trans x4).trans x5) b5 A5 r5 q5
  · have e : i = xs.length := by omega
    subst e
    exact .inl ⟨ok.stop Δ.F I2 M2 H2 x2 G2.at_ hk, R.nx _ _ _ _ _ (x1.trans x2) G2 (pd env2 M2 p2)⟩
def dWhile (t : DT) (u : DS) : DS := fun T env M => ∃ P : Nat → Env → Mem → Prop, (∃ m, P m env M) ∧ ∀ m env M, P m env M → t env M fun b M1 =>
  if b = true then u { T with nx := FzS fun env M => ∃ m', m' < m ∧ P m' env M, ct := FzS fun env M => ∃ m', m' < m ∧ P m' env M, bk := T.nx } env M1 else T.nx env M1
theorem pds_while {body : List Stmt} {u : DS} (hp : PassesOwn (model X.prog X.w) X.A X.env X.xe) (hc : PDt X Δ c t1 dt) (hb : PDss X Δ body ts u) : PDs X Δ (.While c body [] pos) (tWhile t1 ts) (dWhile dt u) := by
  obtain ⟨pc, sc⟩ := hc
  obtain ⟨pb, sb⟩ := hb
  refine ⟨ps_while hp pc pb, fun I M H σ env G T Td R q => ?_⟩
  obtain ⟨P, ⟨m0, p0⟩, step⟩ := q
  refine ⟨fun m σ H => ∃ I' M env, Ext I I' ∧ Gd X.K Δ I' M H σ env ∧ P m env M, ⟨m0, I, M, env, Ext.refl _, G, p0⟩, ?_⟩
  rintro m σ2 H2 ⟨I2, M2, env2, x2, G2, p2⟩
  refine sc I2 M2 H2 σ2 env2 G2 _ _ (fun b M3 I3 H3 x3 G3 q3 => ?_) (step m env2 M2 p2)
  cases b with
  | true =>
    rw [if_pos rfl] at q3 ⊢
    refine ⟨fun σ H => ∃ m', m' < m ∧ ∃ I' M env, Ext I I' ∧ Gd X.K Δ I' M H σ env ∧ P m' env M, fun σ' H' w => w, ?_⟩
    refine sb I3 M3 H3 σ2 env2 G3 _ { Td with nx := FzS fun env M => ∃ m', m' < m ∧ P m' env M, ct := FzS fun env M => ∃ m', m' < m ∧ P m' env M, bk := Td.nx } ⟨fun env5 M5 I5 H5 σ5 x5 G5 q5 => ?_, fun env5 M5 I5 H5 σ5 x5 G5 q5 => ?_, fun env5 M5 I5 H5 σ5 x5 G5 q5 => ?_, fun d5 M5 I5 H5 v5 x5 b5 A5 r5 q5 => ?_⟩ q3
    · obtain ⟨I6, M6, env6, x6, G6, m', hm, w⟩ := fzs q5 G5
      exact ⟨m', hm, I6, M6, env6, ((x2.trans x3).trans x5).trans x6, G6, w⟩
    · exact R.nx _ _ _ _ _ ((x2.trans x3).trans x5) G5 q5
    · obtain ⟨I6, M6, env6, x6, G6, m', hm, w⟩ := fzs q5 G5
      exact ⟨m', hm, I6, M6, env6, ((x2.trans x3).trans x5).trans x6, G6, w⟩
    · exact R.rt _ _ _ _ _ ((x2.trans x3).trans x5) b5 A5 r5 q5
  | false =>
    rw [if_neg Bool.false_ne_true] at q3 ⊢
    exact R.nx _ _ _ _ _ (x2.trans x3) G3 q3

/-! ### what is walked -/
/-- a list, a tuple or a text, whichever it is -/
def iSeq (K : PySem.W.Frag) (tl : TE) : TI := fun σ H R => tl σ H fun x H1 => (∃ a, x = .ref a ∧ (∃ xs, SqL K H1 a xs) ∧ R (Itl K a) H1) ∨ (∃ a, x = .ref a ∧ (∃ xs, SqT K H1 a xs) ∧ R (Itt K a) H1) ∨ ∃ z, x = .str z ∧ R (Its z) H1
theorem pi_seq {tg l : Expr} {tl : TE} (hl : PE X l tl) : PI X tg l (iSeq X.K tl) :=
  ⟨fun pins s σ H R I w => thn (hl.run pins s σ H _ I w) fun
    | _, s1, ⟨_, H1, I1, same, .inl ⟨a, isRef, ⟨_, hq⟩, q⟩⟩ => by
      cases isRef; cases same
      have ⟨_, _, at1, _⟩ := I1.list hq
      exact wpAny_pyIter_list at1.isList (pi_one (tk := s1.toks) I1 _ (turn_list a _) ⟨_, Heap.get?_push_size _ rfl, rfl, rfl⟩ q)
    | _, s1, ⟨_, H1, I1, same, .inr (.inl ⟨a, isRef, ⟨_, hq⟩, q⟩)⟩ => by
      cases isRef; cases same
      have ⟨its, _, at1, _⟩ := I1.tuple hq
      exact wpAny_pyIter_tuple (items := its.toArray) at1 (pi_one (tk := s1.toks) I1 _ (turn_tuple a _) ⟨_, Heap.get?_push_size _ rfl, rfl, rfl⟩ q)
    | _, s1, ⟨_, H1, I1, same, .inr (.inr ⟨y, isTxt, q⟩)⟩ => by
      cases isTxt
      obtain ⟨t, rfl⟩ := same
      by_cases narrow : y.cps.all (· < 128) = true
      · exact wpAny_pyIter_ascii narrow (pi_one (tk := s1.toks) I1 _ (turn_str _ y t "str_ascii_iterator" (.inl rfl)) ⟨_, Heap.get?_push_size _ rfl, rfl, rfl⟩ q)
      · exact wpAny_pyIter_wide (Bool.eq_false_iff.mpr narrow) (pi_one (tk := s1.toks) I1 _ (turn_str _ y t "str_iterator" (.inr rfl)) ⟨_, Heap.get?_push_size _ rfl, rfl, rfl⟩ q)⟩
def signs (z : Str) : List D := z.cps.toList.map fun c => .str ⟨#[c]⟩
def dSeqI (de : DE) : DI := fun env M R => de env M fun d M1 => match d with
  | .tup xs => R xs (fun _ => True) M1
  | .lst xs => R xs (fun _ => True) M1
  | .frz xs => R xs (fun _ => True) M1
  | .str z => R (signs z) (fun _ => True) M1
  | .ref p => ∃ xs, M1 p = some (.lst xs) ∧ R xs (fun M => M p = some (.lst xs)) M1
  | _ => False
theorem pdi_seq {tg : Expr} (he : PDe X Δ e te de) : PDi X Δ tg e (iSeq X.K te) (dSeqI de) := by
  obtain ⟨pe, se⟩ := he
  refine ⟨pi_seq pe, fun I M H σ env G R Rd k q => se I M H σ env G _ _ (fun d M1 I1 H1 v x1 G1 r1 q1 => ?_) q⟩
  cases d with
  | tup xs =>
    obtain ⟨a, vs, rfl, h1, h2⟩ := r1.tup_inv
    refine .inr (.inl ⟨a, rfl, ⟨vs, G1.at_.sqT h1⟩, k xs _ M1 _ I1 H1 x1 G1 ⟨fun F i I M H x A _ hi => ?_, fun F I M H x A _ => ?_, fun F i d x' I M H H' x A _ hd y => ?_⟩ q1⟩)
    · exact ⟨vs, vs[i]'(by rw [h2.length]; exact hi), A.sqT (x.sqT h1), by simp [h2.length, hi]⟩
    · exact ⟨vs, A.sqT (x.sqT h1), Nat.le_of_eq h2.length⟩
    · obtain ⟨e, y⟩ := y
      subst e
      have := y vs (A.sqT (x.sqT h1))
      obtain ⟨d', hd', rd⟩ := (h2.ext x).get' this
      rw [hd] at hd'; cases hd'
      exact ⟨I, Ext.refl I, A, rd⟩
  | lst xs =>
    obtain ⟨a, vs, rfl, h1, h2⟩ := r1.lst_inv
    refine .inl ⟨a, rfl, ⟨vs, .inl (.inl (G1.at_.ex _ _ h1))⟩, k xs _ M1 _ I1 H1 x1 G1 ⟨fun F i I M H x A _ hi => ?_, fun F I M H x A _ => ?_, fun F i d x' I M H H' x A _ hd y => ?_⟩ q1⟩
    · exact ⟨vs, vs[i]'(by rw [h2.length]; exact hi), .inl (.inl (A.ex _ _ (x.lst h1))), by simp [h2.length, hi]⟩
    · exact ⟨vs, .inl (.inl (A.ex _ _ (x.lst h1))), Nat.le_of_eq h2.length⟩
    · obtain ⟨e, y⟩ := y
      subst e
      have := y vs (.inl (.inl (A.ex _ _ (x.lst h1))))
      obtain ⟨d', hd', rd⟩ := (h2.ext x).get' this
      rw [hd] at hd'; cases hd'
      exact ⟨I, Ext.refl I, A, rd⟩
  | frz xs =>
    obtain ⟨a, vs, rfl, h1, h2⟩ := r1.frz_inv
    refine .inl ⟨a, rfl, ⟨vs, G1.at_.sqL h1⟩, k xs _ M1 _ I1 H1 x1 G1 ⟨fun F i I M H x A _ hi => ?_, fun F I M H x A _ => ?_, fun F i d x' I M H H' x A _ hd y => ?_⟩ q1⟩
    · exact ⟨vs, vs[i]'(by rw [h2.length]; exact hi), A.sqL (x.sqL h1), by simp [h2.length, hi]⟩
    · exact ⟨vs, A.sqL (x.sqL h1), Nat.le_of_eq h2.length⟩
    · obtain ⟨e, y⟩ := y
      subst e
      have := y vs (A.sqL (x.sqL h1))
      obtain ⟨d', hd', rd⟩ := (h2.ext x).get' this
      rw [hd] at hd'; cases hd'
      exact ⟨I, Ext.refl I, A, rd⟩
  | str z =>
    rw [r1.str_inv]
    refine .inr (.inr ⟨z, rfl, k (signs z) _ M1 _ I1 H1 x1 G1 ⟨fun F i I M H x A _ hi => ?_, fun F I M H x A _ => ?_, fun F i d x' I M H H' x A _ hd y => ?_⟩ q1⟩)
    · show i < z.cps.size
      simpa [signs] using hi
    · show z.cps.size ≤ (signs z).length
      simp [signs]
    · obtain ⟨e, c, hc, rfl⟩ := y
      subst e
      have : d = .str ⟨#[c]⟩ := by
        simp only [signs, List.getElem?_map] at hd
        rw [show z.cps.toList[i]? = some c by simpa using hc] at hd
        simpa using hd.symm
      subst this
      exact ⟨I, Ext.refl I, A, .str _⟩
  | ref p =>
    obtain ⟨xs, hm, q1⟩ := q1
    rw [r1.ref_inv]
    obtain ⟨_, vs0, h0, _⟩ := G1.at_.mem _ _ hm
    refine .inl ⟨p, rfl, ⟨vs0, .inl (.inl h0)⟩, k xs _ M1 _ I1 H1 x1 G1 ⟨fun F i I M H x A hk hi => ?_, fun F I M H x A hk => ?_, fun F i d x' I M H H' x A hk hd y => ?_⟩ q1⟩
    · obtain ⟨_, vs, h1, h2⟩ := A.mem _ _ hk
      exact ⟨vs, vs[i]'(by rw [h2.length]; exact hi), .inl (.inl h1), by simp [h2.length, hi]⟩
    · obtain ⟨_, vs, h1, h2⟩ := A.mem _ _ hk
      exact ⟨vs, .inl (.inl h1), Nat.le_of_eq h2.length⟩
    · obtain ⟨e, y⟩ := y
      subst e
      obtain ⟨_, vs, h1, h2⟩ := A.mem _ _ hk
      have := y vs (.inl (.inl h1))
      obtain ⟨d', hd', rd⟩ := h2.get' this
      rw [hd] at hd'; cases hd'
      exact ⟨I, Ext.refl I, A, rd⟩
  | _ => exact q1.elim
/-- range(n), range(a, b) -/
def rngD (lo : Int) (n : Nat) : List D := (List.range n).map fun i => .int (lo + (i : Nat))
theorem itr_ok {K : PySem.W.Frag} {I1 : Hp} {lo : Int} {n : Nat} : ItOk K I1 (Itr lo n) (rngD lo n) (fun _ => True) := by
  refine ⟨fun F i I M H x A _ hi => ?_, fun F I M H x A _ => ?_, fun F i d x' I M H H' x A _ hd y => ?_⟩
  · show i < n
    simpa [rngD] using hi
  · show n ≤ (rngD lo n).length
    simp [rngD]
  · obtain ⟨e, rfl⟩ := y
    subst e
    have hlt : i < n := by
      have := (List.getElem?_eq_some_iff.mp hd).1
      simpa [rngD] using this
    have : d = .int (lo + (i : Nat)) := by
      simp only [rngD, List.getElem?_map, List.getElem?_range hlt] at hd
      simpa using hd.symm
    subst this
    exact ⟨I, Ext.refl I, A, .int _⟩
def dRng1 (dl : DA) : DI := fun env M R => dl env M fun ds M1 => ∃ j : Int, ds = [.int j] ∧ -(2 ^ 62) ≤ j ∧ j < 2 ^ 62 ∧ R (rngD 0 j.toNat) (fun _ => True) M1
def dRng2 (dl : DA) : DI := fun env M R => dl env M fun ds M1 => ∃ i j : Int, ds = [.int i, .int j] ∧ (-(2 ^ 62) ≤ i ∧ i < 2 ^ 62 ∧ -(2 ^ 62) ≤ j ∧ j < 2 ^ 62) ∧ R (rngD i (j - i).toNat) (fun _ => True) M1
theorem pdi_rng1 {tg a : Expr} {dl : DA} {p pos : Pos} (hg : Gl X "range") (hm : X.mg "range" = none) (ha : PDa X Δ [a] tl dl) (hs : starEach [a] X.env = [(false, eval a X.env)] := by rfl) : PDi X Δ tg (.Call (.Name "range" p) [a] [] pos) (iRng1 tl) (dRng1 dl) := by
  obtain ⟨pa, s⟩ := ha
  refine ⟨pi_range1 hg hm pa hs, fun I M H σ env G R Rd k q => s I M H σ env G _ _ (fun ds M1 I1 H1 vs x1 G1 r1 ⟨j, e, h1, h2, q1⟩ => ?_) q⟩
  subst e
  obtain ⟨v, rfl, rv⟩ := r1.one_inv
  rw [rv.int_inv]
  exact ⟨j, rfl, h1, h2, k _ _ M1 _ I1 H1 x1 G1 itr_ok q1⟩
theorem pdi_rng2 {tg a b : Expr} {dl : DA} {p pos : Pos} (hg : Gl X "range") (hm : X.mg "range" = none) (ha : PDa X Δ [a, b] tl dl) (hs : starEach [a, b] X.env = [(false, eval a X.env), (false, eval b X.env)] := by rfl) (hs2 : starEach [b] X.env = [(false, eval b X.env)] := by rfl) :
    PDi X Δ tg (.Call (.Name "range" p) [a, b] [] pos) (iRng2 tl) (dRng2 dl) := by
  obtain ⟨pa, s⟩ := ha
  refine ⟨pi_range2 hg hm pa hs hs2, fun I M H σ env G R Rd k q => s I M H σ env G _ _ (fun ds M1 I1 H1 vs x1 G1 r1 ⟨i, j, e, h1, q1⟩ => ?_) q⟩
  subst e
  obtain ⟨v, u, rfl, rv, ru⟩ := r1.two_inv
  rw [rv.int_inv, ru.int_inv]
  exact ⟨i, j, rfl, h1, k _ _ M1 _ I1 H1 x1 G1 itr_ok q1⟩
end
end BB

set_option maxHeartbeats 2000000
namespace BB
open L2 PySem PySem.Spec PyProof.Rows

/-! ### the store's lists and the fixed ones as sequences -/
def lstOf (M : Mem) : D → Option (List D)
  | .lst xs => some xs
  | .ref p => match M p with | some (.lst xs) => some xs | _ => none
  | _ => none
def seqOf (M : Mem) : D → Option (List D)
  | .tup xs => some xs
  | .frz xs => some xs
  | .lst xs => some xs
  | .ref p => match M p with | some (.lst xs) => some xs | _ => none
  | _ => none
theorem lstOf_ref {M : Mem} {p : Addr} {xs : List D} (h : M p = some (.lst xs)) : lstOf M (.ref p) = some xs := by simp [lstOf, h]
theorem seqOf_ref {M : Mem} {p : Addr} {xs : List D} (h : M p = some (.lst xs)) : seqOf M (.ref p) = some xs := by simp [seqOf, h]
section
variable {K : PySem.W.Frag} {F I H : Hp} {M : Mem} {v : V} {d : D} {xs : List D}
theorem lst_of (A : At K F I M H) (r : Rp K I v d) (h : lstOf M d = some xs) : ∃ a vs, v = .ref a ∧ H a = some (.lst vs) ∧ Rps K I vs xs := by
  cases d with
  | lst ys => cases h; obtain ⟨a, vs, rfl, h1, h2⟩ := r.lst_inv; exact ⟨a, vs, rfl, A.ex _ _ h1, h2⟩
  | ref p =>
    have h' : (match M p with | some (.lst xs) => some xs | _ => none) = some xs := h
    split at h'
    · rename_i ys e
      cases h'
      obtain ⟨_, vs, h1, h2⟩ := A.mem _ _ e
      exact ⟨p, vs, r.ref_inv, h1, h2⟩
    · cases h'
  | _ => cases h
theorem seq_of (A : At K F I M H) (r : Rp K I v d) (h : seqOf M d = some xs) : ∃ a vs, v = .ref a ∧ (SqL K H a vs ∨ SqT K H a vs) ∧ Rps K I vs xs := by
  cases d with
  | tup ys => cases h; obtain ⟨a, vs, rfl, h1, h2⟩ := r.tup_inv; exact ⟨a, vs, rfl, .inr (A.sqT h1), h2⟩
  | frz ys => cases h; obtain ⟨a, vs, rfl, h1, h2⟩ := r.frz_inv; exact ⟨a, vs, rfl, .inl (A.sqL h1), h2⟩
  | lst ys => cases h; obtain ⟨a, vs, rfl, h1, h2⟩ := r.lst_inv; exact ⟨a, vs, rfl, .inl (.inl (.inl (A.ex _ _ h1))), h2⟩
  | ref p =>
    have h' : (match M p with | some (.lst xs) => some xs | _ => none) = some xs := h
    split at h'
    · rename_i ys e
      cases h'
      obtain ⟨_, vs, h1, h2⟩ := A.mem _ _ e
      exact ⟨p, vs, r.ref_inv, .inl (.inl (.inl h1)), h2⟩
    · cases h'
  | _ => cases h
end

/-! ### a + b -/
def addD (M : Mem) : D → D → Option D
  | .int i, .int j => some (.int (i + j))
  | .str a, .str b => if a.length + b.length ≤ sizeLine then some (.str (a ++ b)) else none
  | .tup a, .tup b => if a.length + b.length ≤ sizeLine then some (.tup (a ++ b)) else none
  | x, y => match lstOf M x, lstOf M y with
    | some a, some b => if a.length + b.length ≤ sizeLine then some (.lst (a ++ b)) else none
    | _, _ => none
theorem addD_str {M : Mem} {a b : Str} (h : a.length + b.length ≤ sizeLine) : addD M (.str a) (.str b) = some (.str (a ++ b)) := if_pos h
theorem addD_tup {M : Mem} {a b : List D} (h : a.length + b.length ≤ sizeLine) : addD M (.tup a) (.tup b) = some (.tup (a ++ b)) := if_pos h
theorem addD_lst {M : Mem} {a b : List D} (h : a.length + b.length ≤ sizeLine) : addD M (.lst a) (.lst b) = some (.lst (a ++ b)) := if_pos h
/-- a pure operation -/
def rdO (f : Mem → D → D → Option D) : RD2 := fun x y M Q => ∃ d, f M x y = some d ∧ Q d M
abbrev rAddA (K : PySem.W.Frag) : R2 := fun x y H Q => (∃ i j, x = .int i ∧ y = .int j ∧ Q (.int (i + j)) H) ∨ (∃ i j, x = .str i ∧ y = .str j ∧ i.length + j.length ≤ sizeLine ∧ Q (.str (i ++ j)) H) ∨ rCatA K x y H Q ∨ rCat x y H Q
section
variable {X : Cx}
theorem op_addA : OpR X (binaryOp .Add) (rAddA X.K) := OpR.or op_add (OpR.or op_add_str (OpR.or op_catA op_cat))
theorem snd_add : SndR X (rAddA X.K) (rdO addD) := by
  intro Δ I M H σ env G x y dx dy rx ry Q Qd k ⟨d, e, q⟩
  have lists : ∀ {a b : List D}, lstOf M dx = some a → lstOf M dy = some b → (if a.length + b.length ≤ sizeLine then some (D.lst (a ++ b)) else none) = some d → rAddA X.K x y H Q := fun {a b} ha hb hd => by
    by_cases hz : a.length + b.length ≤ sizeLine
    · rw [if_pos hz] at hd
      cases hd
      obtain ⟨p1, v1, rfl, h1, r1⟩ := lst_of G.at_ rx ha
      obtain ⟨p2, v2, rfl, h2, r2⟩ := lst_of G.at_ ry hb
      refine .inr (.inr (.inr ⟨p1, p2, v1, v2, rfl, rfl, h1, h2, by rw [r1.length, r2.length]; exact hz, fun p hp => ?_⟩))
      obtain ⟨x2, G2⟩ := G.newI hp (.lst (v1 ++ v2))
      exact k _ _ _ _ _ x2 G2 (.lst upd_same ((r1.append r2).ext x2)) q
    · rw [if_neg hz] at hd; cases hd
  unfold addD at e
  split at e
  · cases e
    rw [rx.int_inv, ry.int_inv]
    exact .inl ⟨_, _, rfl, rfl, k _ _ _ _ _ (Ext.refl I) G (.int _) q⟩
  · rename_i a b
    by_cases hz : a.length + b.length ≤ sizeLine
    · rw [if_pos hz] at e
      cases e
      rw [rx.str_inv, ry.str_inv]
      exact .inr (.inl ⟨_, _, rfl, rfl, hz, k _ _ _ _ _ (Ext.refl I) G (.str _) q⟩)
    · rw [if_neg hz] at e; cases e
  · rename_i a b
    by_cases hz : a.length + b.length ≤ sizeLine
    · rw [if_pos hz] at e
      cases e
      obtain ⟨p1, v1, rfl, h1, r1⟩ := rx.tup_inv
      obtain ⟨p2, v2, rfl, h2, r2⟩ := ry.tup_inv
      refine .inr (.inr (.inl ⟨p1, p2, v1, v2, rfl, rfl, G.at_.sqT h1, G.at_.sqT h2, by rw [r1.length, r2.length]; exact hz, fun hx => ?_, fun hx hy => ?_, fun hx hy p hp => ?_⟩))
      · subst hx
        cases r1
        exact k _ _ _ _ _ (Ext.refl I) G (.tup h2 r2) q
      · subst hy
        cases r2
        exact k _ _ _ _ _ (Ext.refl I) G (.tup h1 (by rw [List.append_nil]; exact r1)) q
      · obtain ⟨x2, G2⟩ := G.newI hp (.tup (v1 ++ v2))
        exact k _ _ _ _ _ x2 G2 (.tup (.inl (.inl upd_same)) ((r1.append r2).ext x2)) q
    · rw [if_neg hz] at e; cases e
  · split at e
    · rename_i ha hb
      exact lists ha hb e
    · cases e

/-! ### ints: -, *, //, % -/
def subD (M : Mem) : D → D → Option D
  | .int i, .int j => some (.int (i - j))
  | _, _ => none
theorem snd_sub : SndR X (rI0 fun i j => .int (i - j)) (rdO subD) := by
  intro Δ I M H σ env G x y dx dy rx ry Q Qd k ⟨d, e, q⟩
  unfold subD at e
  split at e
  · cases e; rw [rx.int_inv, ry.int_inv]; exact ⟨_, _, rfl, rfl, k _ _ _ _ _ (Ext.refl I) G (.int _) q⟩
  · cases e
/-- remainders and quotients by a positive number -/
def modD (M : Mem) : D → D → Option D
  | .int i, .int j => if 0 < j then some (.int (i % j)) else none
  | _, _ => none
def divD (M : Mem) : D → D → Option D
  | .int i, .int j => if 0 < j ∧ j < 1073741824 then some (.int (i / j)) else none
  | _, _ => none
theorem modD_int {M : Mem} {i j : Int} (h : 0 < j) : modD M (.int i) (.int j) = some (.int (i % j)) := if_pos h
theorem divD_int {M : Mem} {i j : Int} (h : 0 < j ∧ j < 1073741824) : divD M (.int i) (.int j) = some (.int (i / j)) := if_pos h
theorem snd_mod : SndR X (rI (fun _ j => 0 < j) fun i j => .int (i % j)) (rdO modD) := by
  intro Δ I M H σ env G x y dx dy rx ry Q Qd k ⟨d, e, q⟩
  unfold modD at e
  split at e
  · rename_i i j
    by_cases h : 0 < j
    · rw [if_pos h] at e
      cases e; rw [rx.int_inv, ry.int_inv]; exact ⟨_, _, rfl, rfl, h, k _ _ _ _ _ (Ext.refl I) G (.int _) q⟩
    · rw [if_neg h] at e; cases e
  · cases e
theorem snd_div : SndR X (rI CDiv fun i j => .int (i / j)) (rdO divD) := by
  intro Δ I M H σ env G x y dx dy rx ry Q Qd k ⟨d, e, q⟩
  unfold divD at e
  split at e
  · rename_i i j
    by_cases h : 0 < j ∧ j < 1073741824
    · rw [if_pos h] at e
      cases e; rw [rx.int_inv, ry.int_inv]; exact ⟨_, _, rfl, rfl, h, k _ _ _ _ _ (Ext.refl I) G (.int _) q⟩
    · rw [if_neg h] at e; cases e
  · cases e
/-- ints of which one is small; a fixed list n times -/
def mulD (M : Mem) : D → D → Option D
  | .int i, .int j => if (-(2 ^ 64) < i ∧ i < 2 ^ 64) ∨ (-(2 ^ 64) < j ∧ j < 2 ^ 64) then some (.int (i * j)) else none
  | .lst xs, .int k => if -(2 ^ 63) ≤ k ∧ k < 2 ^ 63 ∧ xs.length * k.toNat ≤ sizeLine then some (.lst (List.replicate k.toNat xs).flatten) else none
  | _, _ => none
theorem mulD_lst {M : Mem} {xs : List D} {k : Int} (h : -(2 ^ 63) ≤ k ∧ k < 2 ^ 63 ∧ xs.length * k.toNat ≤ sizeLine) : mulD M (.lst xs) (.int k) = some (.lst (List.replicate k.toNat xs).flatten) := if_pos h
theorem Rps.rep {K : PySem.W.Frag} {I : Hp} {vs : List V} {ds : List D} (r : Rps K I vs ds) : ∀ n : Nat, Rps K I (List.replicate n vs).flatten (List.replicate n ds).flatten
  | 0 => .nil
  | n + 1 => by
    rw [List.replicate_succ, List.flatten_cons, List.replicate_succ, List.flatten_cons]
    exact r.append (Rps.rep r n)
abbrev rMulA : R2 := fun x y H Q => (rI CMul fun i j => .int (i * j)) x y H Q ∨ rRep x y H Q
theorem op_mulA : OpR X (binaryOp .Mult) rMulA := OpR.or op_mul op_rep
theorem snd_mul : SndR X rMulA (rdO mulD) := by
  intro Δ I M H σ env G x y dx dy rx ry Q Qd k ⟨d, e, q⟩
  unfold mulD at e
  split at e
  · rename_i i j
    by_cases h : (-(2 ^ 64) < i ∧ i < 2 ^ 64) ∨ (-(2 ^ 64) < j ∧ j < 2 ^ 64)
    · rw [if_pos h] at e
      cases e; rw [rx.int_inv, ry.int_inv]; exact .inl ⟨_, _, rfl, rfl, h, k _ _ _ _ _ (Ext.refl I) G (.int _) q⟩
    · rw [if_neg h] at e; cases e
  · rename_i xs z
    by_cases h : -(2 ^ 63) ≤ z ∧ z < 2 ^ 63 ∧ xs.length * z.toNat ≤ sizeLine
    · rw [if_pos h] at e
      cases e
      obtain ⟨a, vs, rfl, h1, r1⟩ := rx.lst_inv
      rw [ry.int_inv]
      refine .inr ⟨a, z, vs, rfl, rfl, G.at_.ex _ _ h1, h.1, h.2.1, by rw [r1.length]; exact h.2.2, fun p hp => ?_⟩
      obtain ⟨x2, G2⟩ := G.newI hp (.lst (List.replicate z.toNat vs).flatten)
      exact k _ _ _ _ _ x2 G2 (.lst upd_same ((r1.rep z.toNat).ext x2)) q
    · rw [if_neg h] at e; cases e
  · cases e

/-! ### comparisons -/
mutual
/-- data that == tells apart -/
def toPy : D → Option PyData
  | .non => some .none
  | .bl b => some (.bool b)
  | .int i => some (.int i)
  | .str x => some (.str x)
  | .tup xs => (toPys xs).map .tuple
  | .lst xs => (toPys xs).map .list
  | .ntup xs => (toPys xs).map .tuple
  | .frz xs => (toPys xs).map .list
  | _ => none
def toPys : List D → Option (List PyData)
  | [] => some []
  | d :: ds => match toPy d, toPys ds with
    | some p, some ps => some (p :: ps)
    | _, _ => none
end
mutual
theorem dp_of {K : PySem.W.Frag} {F I H : Hp} {M : Mem} (A : At K F I M H) : ∀ (d : D) {v : V} {p : PyData}, Rp K I v d → toPy d = some p → Dp K H v p
  | .non, _, _, r, h => by rw [toPy] at h; cases h; rw [r.non_inv]; exact .non
  | .bl b, _, _, r, h => by rw [toPy] at h; cases h; rw [r.bl_inv]; exact .bl b
  | .int i, _, _, r, h => by rw [toPy] at h; cases h; rw [r.int_inv]; exact .int i
  | .str x, _, _, r, h => by rw [toPy] at h; cases h; rw [r.str_inv]; exact .str x
  | .tup xs, v, p, r, h => by
    obtain ⟨a, vs, rfl, h1, r1⟩ := r.tup_inv
    rw [toPy] at h
    cases e : toPys xs with
    | none => rw [e] at h; exact nomatch h
    | some ps => rw [e] at h; cases h; exact .tup (A.sqT h1) (dps_of A xs r1 e)
  | .lst xs, v, p, r, h => by
    obtain ⟨a, vs, rfl, h1, r1⟩ := r.lst_inv
    rw [toPy] at h
    cases e : toPys xs with
    | none => rw [e] at h; exact nomatch h
    | some ps => rw [e] at h; cases h; exact .lst (.inl (.inl (A.ex _ _ h1))) (dps_of A xs r1 e)
  | .frz xs, v, p, r, h => by
    obtain ⟨a, vs, rfl, h1, r1⟩ := r.frz_inv
    rw [toPy] at h
    cases e : toPys xs with
    | none => rw [e] at h; exact nomatch h
    | some ps => rw [e] at h; cases h; exact .lst (A.sqL h1) (dps_of A xs r1 e)
  | .ntup xs, v, p, r, h => by
    obtain ⟨a, ob, vs, rfl, h1, _, _, r1⟩ := r.ntup_inv
    rw [toPy] at h
    cases e : toPys xs with
    | none => rw [e] at h; exact nomatch h
    | some ps => rw [e] at h; cases h; exact .tup (A.sqT (.inl (.inr ⟨ob, h1⟩))) (dps_of A xs r1 e)
  | .dK _, _, _, _, h => by rw [toPy] at h <;> first | cases h | (intros; intro z; cases z)
  | .dT _, _, _, _, h => by rw [toPy] at h <;> first | cases h | (intros; intro z; cases z)
  | .ins _ _, _, _, _, h => by rw [toPy] at h <;> first | cases h | (intros; intro z; cases z)
  | .ref _, _, _, _, h => by rw [toPy] at h <;> first | cases h | (intros; intro z; cases z)
  | .ty _, _, _, _, h => by rw [toPy] at h <;> first | cases h | (intros; intro z; cases z)
theorem dps_of {K : PySem.W.Frag} {F I H : Hp} {M : Mem} (A : At K F I M H) : ∀ (ds : List D) {vs : List V} {ps : List PyData}, Rps K I vs ds → toPys ds = some ps → DpAll K H vs ps
  | [], _, _, r, h => by rw [toPys] at h; cases h; rw [r.nil_inv]; exact .nil
  | d :: ds, _, _, r, h => by
    obtain ⟨v, vs, rfl, rv, rr⟩ := r.cons_inv
    rw [toPys] at h
    cases e1 : toPy d with
    | none => rw [e1] at h; cases h
    | some p =>
      cases e2 : toPys ds with
      | none => rw [e1, e2] at h; cases h
      | some ps => rw [e1, e2] at h; cases h; exact .cons (dp_of A d rv e1) (dps_of A ds rr e2)
end
/-- a value, or a list of the store, as data -/
def pyOf (M : Mem) : D → Option PyData
  | .ref p => match M p with | some (.lst xs) => (toPys xs).map .list | _ => none
  | d => toPy d
theorem pyOf_dp {K : PySem.W.Frag} {F I H : Hp} {M : Mem} (A : At K F I M H) {v : V} {d : D} {p : PyData} (r : Rp K I v d) (h : pyOf M d = some p) : Dp K H v p := by
  unfold pyOf at h
  split at h
  · rename_i a
    split at h
    · rename_i xs e
      cases e2 : toPys xs with
      | none => rw [e2] at h; cases h
      | some ps =>
        rw [e2] at h
        cases h
        obtain ⟨_, vs, h1, h2⟩ := A.mem _ _ e
        rw [r.ref_inv]
        exact .lst (.inl (.inl h1)) (dps_of A xs h2 e2)
    · cases h
  · exact dp_of A d r h
def rdEq : RD2 := fun x y M Q => ∃ p q, pyOf M x = some p ∧ pyOf M y = some q ∧ SeqAt.shaped p = true ∧ SeqAt.shaped q = true ∧ Q (.bl (PyData.eqv p q)) M
def rdNe : RD2 := fun x y M Q => ∃ p q, pyOf M x = some p ∧ pyOf M y = some q ∧ SeqAt.shaped p = true ∧ SeqAt.shaped q = true ∧ Q (.bl (!PyData.eqv p q)) M
theorem snd_eq : SndR X (rEqD X.K) rdEq := by
  intro Δ I M H σ env G x y dx dy rx ry Q Qd k ⟨p, q, h1, h2, s1, s2, h⟩
  exact ⟨p, q, pyOf_dp G.at_ rx h1, pyOf_dp G.at_ ry h2, s1, s2, k _ _ _ _ _ (Ext.refl I) G (.bl _) h⟩
theorem snd_ne : SndR X (rNeD X.K) rdNe := by
  intro Δ I M H σ env G x y dx dy rx ry Q Qd k ⟨p, q, h1, h2, s1, s2, h⟩
  exact ⟨p, q, pyOf_dp G.at_ rx h1, pyOf_dp G.at_ ry h2, s1, s2, k _ _ _ _ _ (Ext.refl I) G (.bl _) h⟩
/-- an order of ints, of texts -/
def cmpD (pi : Int → Int → Bool) (ps : Str → Str → Bool) (M : Mem) : D → D → Option D
  | .int i, .int j => some (.bl (pi i j))
  | .str i, .str j => some (.bl (ps i j))
  | _, _ => none
def ltS (a b : Str) : Bool := decide (a.cps.toList < b.cps.toList)
abbrev rLtA : R2 := fun x y H Q => (rI0 fun i j => .bl (decide (i < j))) x y H Q ∨ ∃ i j, x = .str i ∧ y = .str j ∧ Q (.bl (decide (i.cps.toList < j.cps.toList))) H
theorem op_ltA : OpR X (compareOp .Lt) rLtA := OpR.or op_lt op_lt_str
theorem snd_lt : SndR X rLtA (rdO (cmpD (fun i j => decide (i < j)) ltS)) := by
  intro Δ I M H σ env G x y dx dy rx ry Q Qd k ⟨d, e, q⟩
  unfold cmpD at e
  split at e
  · cases e; rw [rx.int_inv, ry.int_inv]; exact .inl ⟨_, _, rfl, rfl, k _ _ _ _ _ (Ext.refl I) G (.bl _) q⟩
  · cases e; rw [rx.str_inv, ry.str_inv]; exact .inr ⟨_, _, rfl, rfl, k _ _ _ _ _ (Ext.refl I) G (.bl _) q⟩
  · cases e
def intD (p : Int → Int → Bool) (M : Mem) : D → D → Option D
  | .int i, .int j => some (.bl (p i j))
  | _, _ => none
theorem snd_int {p : Int → Int → Bool} : SndR X (rI0 fun i j => .bl (p i j)) (rdO (intD p)) := by
  intro Δ I M H σ env G x y dx dy rx ry Q Qd k ⟨d, e, q⟩
  unfold intD at e
  split at e
  · cases e; rw [rx.int_inv, ry.int_inv]; exact ⟨_, _, rfl, rfl, k _ _ _ _ _ (Ext.refl I) G (.bl _) q⟩
  · cases e
def isNon : D → Bool
  | .non => true
  | _ => false
def isD (M : Mem) : D → D → Option D
  | x, .non => some (.bl (isNon x))
  | _, _ => none
def isntD (M : Mem) : D → D → Option D
  | x, .non => some (.bl (!isNon x))
  | _, _ => none
theorem isNon_of {K : PySem.W.Frag} {I : Hp} {v : V} {d : D} (r : Rp K I v d) : decide (v = .non) = isNon d := by
  cases r <;> first | rfl | simp [isNon]
theorem snd_is : SndR X (fun x y H Q => y = .non ∧ Q (.bl (decide (x = .non))) H) (rdO isD) := by
  intro Δ I M H σ env G x y dx dy rx ry Q Qd k ⟨d, e, q⟩
  unfold isD at e
  split at e
  · cases e; rw [ry.non_inv]; exact ⟨rfl, k _ _ _ _ _ (Ext.refl I) G (by rw [isNon_of rx]; exact .bl _) q⟩
  · cases e
theorem snd_isnt : SndR X (fun x y H Q => y = .non ∧ Q (.bl (!decide (x = .non))) H) (rdO isntD) := by
  intro Δ I M H σ env G x y dx dy rx ry Q Qd k ⟨d, e, q⟩
  unfold isntD at e
  split at e
  · cases e; rw [ry.non_inv]; exact ⟨rfl, k _ _ _ _ _ (Ext.refl I) G (by rw [isNon_of rx]; exact .bl _) q⟩
  · cases e
/-! in, not in: flat things; one sign in a text -/
def flatD : D → Bool
  | .non | .bl _ | .int _ | .str _ => true
  | _ => false
def eqF : D → D → Bool
  | .non, .non => true
  | .bl a, .bl b => a == b
  | .bl a, .int b => (if a then 1 else 0) == b | .int a, .bl b => a == (if b then 1 else 0)
  | .int a, .int b => a == b
  | .str a, .str b => a == b
  | _, _ => false
def inF (x : D) (xs : List D) : Bool := xs.any fun y => eqF y x
theorem flat_of {K : PySem.W.Frag} {I : Hp} {v : V} {d : D} (r : Rp K I v d) (h : flatD d = true) : flatV v = true := by
  cases r <;> first | rfl | cases h
theorem eqF_of {K : PySem.W.Frag} {I : Hp} {v u : V} {d e : D} (r : Rp K I v d) (r' : Rp K I u e) (h : flatD d = true) (h' : flatD e = true) : eqV v u = eqF d e := by
  cases r <;> cases r' <;> first | rfl | cases h | cases h'
theorem flats_of {K : PySem.W.Frag} {I : Hp} : ∀ {vs : List V} {ds : List D}, Rps K I vs ds → ds.all flatD = true → vs.all flatV = true
  | _, _, .nil, _ => rfl
  | _, _, .cons a b, h => by
    rw [List.all_cons, Bool.and_eq_true] at h ⊢
    exact ⟨flat_of a h.1, flats_of b h.2⟩
theorem inF_of {K : PySem.W.Frag} {I : Hp} {v : V} {d : D} (r : Rp K I v d) (h : flatD d = true) : ∀ {vs : List V} {ds : List D}, Rps K I vs ds → ds.all flatD = true → inV v vs = inF d ds
  | _, _, .nil, _ => rfl
  | _, _, .cons a b, q => by
    rw [List.all_cons, Bool.and_eq_true] at q
    have ih := inF_of r h b q.2
    unfold inV inF at ih ⊢
    rw [List.any_cons, List.any_cons, eqF_of a r q.1 h, ih]
def rdIn (neg : Bool) : RD2 := fun x y M Q => (∃ xs, seqOf M y = some xs ∧ flatD x = true ∧ xs.all flatD = true ∧ Q (.bl (if neg then !inF x xs else inF x xs)) M) ∨
  ∃ c z, x = .str ⟨#[c]⟩ ∧ y = .str z ∧ Q (.bl (if neg then !decide (c ∈ z.cps.toList) else decide (c ∈ z.cps.toList))) M
abbrev rInA (K : PySem.W.Frag) (neg : Bool) : R2 := fun x y H Q => rIn K neg x y H Q ∨ ∃ (c : Nat) (z : Str), x = .str ⟨#[c]⟩ ∧ y = .str z ∧ Q (.bl (if neg then !decide (c ∈ z.cps.toList) else decide (c ∈ z.cps.toList))) H
theorem op_inA : OpR X (compareOp .In) (rInA X.K false) := OpR.or op_in_seq op_in_sign
theorem op_notInA : OpR X (compareOp .NotIn) (rInA X.K true) := OpR.or op_notIn_seq op_notIn_sign
theorem snd_in {neg : Bool} : SndR X (rInA X.K neg) (rdIn neg) := by
  intro Δ I M H σ env G x y dx dy rx ry Q Qd k h
  rcases h with ⟨xs, e, fx, fs, q⟩ | ⟨c, z, e1, e2, q⟩
  · obtain ⟨a, vs, rfl, h1, r1⟩ := seq_of G.at_ ry e
    refine .inl ⟨a, vs, rfl, h1, flat_of rx fx, flats_of r1 fs, k _ _ _ _ _ (Ext.refl I) G ?_ q⟩
    rw [inF_of rx fx r1 fs]
    exact .bl _
  · subst e1 e2
    rw [rx.str_inv, ry.str_inv]
    exact .inr ⟨c, z, rfl, rfl, k _ _ _ _ _ (Ext.refl I) G (.bl _) q⟩

/-! ### a[i] -/
def ixD (M : Mem) : D → D → Option D
  | .str z, .int i => if z.length ≤ sizeLine then (atI z.cps.toList i).map fun c => .str ⟨#[c]⟩ else none
  | x, .int i => (seqOf M x).bind fun xs => atI xs i
  | _, _ => none
theorem at_of {K : PySem.W.Frag} {I : Hp} {vs : List V} {ds : List D} (r : Rps K I vs ds) {i : Int} {d : D} (h : atI ds i = some d) : ∃ v, atI vs i = some v ∧ Rp K I v d := by
  unfold atI at h ⊢
  rw [r.length]
  cases e : ixN ds.length i with
  | none => rw [e] at h; exact nomatch h
  | some j => rw [e] at h; exact r.get h
theorem snd_ix : SndR X (rIx X.K) (rdO ixD) := by
  intro Δ I M H σ env G x y dx dy rx ry Q Qd k ⟨d, e, q⟩
  unfold ixD at e
  split at e
  · rename_i z i
    by_cases h : z.length ≤ sizeLine
    · rw [if_pos h] at e
      cases e2 : atI z.cps.toList i with
      | none => rw [e2] at e; cases e
      | some c =>
        rw [e2] at e
        cases e
        rw [rx.str_inv, ry.int_inv]
        exact .inr (.inr ⟨z, i, c, rfl, rfl, h, e2, k _ _ _ _ _ (Ext.refl I) G (.str _) q⟩)
    · rw [if_neg h] at e; cases e
  · rename_i i _
    cases e2 : seqOf M dx with
    | none => rw [e2] at e; cases e
    | some xs =>
      rw [e2] at e
      obtain ⟨a, vs, rfl, h1, r1⟩ := seq_of G.at_ rx e2
      obtain ⟨v, h2, rv⟩ := at_of r1 e
      rw [ry.int_inv]
      rcases h1 with h1 | h1
      · exact .inl ⟨a, vs, i, v, rfl, rfl, h1, h2, k _ _ _ _ _ (Ext.refl I) G rv q⟩
      · exact .inr (.inl ⟨a, vs, i, v, rfl, rfl, h1, h2, k _ _ _ _ _ (Ext.refl I) G rv q⟩)
  · cases e
variable {Δ : DC} {e a b c : Expr} {de da db dc : DE} {pos p2 : Pos}
variable {ta tb tc te to ti : TE} {t1 t2 : TT} {tl : TA}
variable {tlo thi : TO}
theorem pd_ix (ha : PDe X Δ a ta da) (hb : PDe X Δ b tb db) (hs : PlainIx b := by exact fun _ _ => rfl) : PDe X Δ (.Subscript a b pos) (tOp (rIx X.K) ta tb) (dOp (rdO ixD) da db) := by
  obtain ⟨pa, sa⟩ := ha
  obtain ⟨pb, sb⟩ := hb
  exact ⟨pe_ix ix_seq pa pb hs, snd_op snd_ix sa sb⟩

/-! ### a[i:j] -/
abbrev DO := Env → Mem → (Option Int → Mem → Prop) → Prop
def SndO (X : Cx) (Δ : DC) (to : TO) (d : DO) : Prop := ∀ I M H σ env, Gd X.K Δ I M H σ env → ∀ (Q : Option Int → Hp → Prop) (Qd : Option Int → Mem → Prop),
  (∀ o M' I' H', Ext I I' → Gd X.K Δ I' M' H' σ env → Qd o M' → Q o H') → d env M Qd → to σ H Q
def PDo (X : Cx) (Δ : DC) (e : Option Expr) (t : TO) (d : DO) : Prop := PO X e t ∧ SndO X Δ t d
def dNoPart : DO := fun _ M Q => Q none M
def dPart (de : DE) : DO := fun env M Q => de env M fun x M1 => ∃ i, x = .int i ∧ Q (some i) M1
theorem pdo_none : PDo X Δ none tNoPart dNoPart := ⟨po_none, fun I M H σ env G Q Qd k q => k _ _ _ _ (Ext.refl I) G q⟩
theorem pdo_some (h : PDe X Δ e te de) : PDo X Δ (some e) (tPart te) (dPart de) := by
  obtain ⟨p, s⟩ := h
  refine ⟨po_some p, fun I M H σ env G Q Qd k q => s I M H σ env G _ _ (fun d M1 I1 H1 v x1 G1 r1 ⟨i, e1, q1⟩ => ?_) q⟩
  subst e1
  exact ⟨i, r1.int_inv, k _ _ _ _ x1 G1 q1⟩
def cutD {α : Type} (xs : List α) (lo hi : Option Int) : List α := (xs.drop (HT.sIx xs.length 0 lo)).take (HT.sIx xs.length xs.length hi - HT.sIx xs.length 0 lo)
/-- a text's slice; a tuple's; a list's (a new one) -/
def slD (M : Mem) (x : D) (lo hi : Option Int) : Option D := match x with
  | .str z => if z.length ≤ sizeLine then some (.str (cutS z lo hi)) else none
  | .tup xs => some (.tup (cutD xs lo hi))
  | x => (lstOf M x).map fun xs => .lst (cutD xs lo hi)
abbrev rSlAll (K : PySem.W.Frag) : V → Option Int → Option Int → Hp → VK → Prop := fun x lo hi H Q => rSlS x lo hi H Q ∨ rSlA K x lo hi H Q ∨ rSlL K x lo hi H Q
theorem sl_all : SlR X (rSlAll X.K) := SlR.or sl_str (SlR.or sl_tupA sl_list)
def dSl (de : DE) (dl dh : DO) : DE := fun env M Q => de env M fun x M1 => dl env M1 fun l M2 => dh env M2 fun u M3 => ∃ d, slD M3 x l u = some d ∧ Q d M3
theorem Rps.cut {K : PySem.W.Frag} {I : Hp} {vs : List V} {ds : List D} (r : Rps K I vs ds) (lo hi : Option Int) : Rps K I (cutV vs lo hi) (cutD ds lo hi) := by
  unfold cutV cutD
  rw [r.length]
  exact (r.drop _).take _
theorem sIx_whole {α : Type} {xs : List α} {lo hi : Option Int} (h : HT.sIx xs.length 0 lo = 0 ∧ HT.sIx xs.length xs.length hi = xs.length) : cutD xs lo hi = xs := by
  unfold cutD
  rw [h.1, h.2, List.drop_zero, Nat.sub_zero, List.take_length]
theorem pd_slice {lo hi : Option Expr} {dl dh : DO} (he : PDe X Δ e te de) (hl : PDo X Δ lo tlo dl) (hu : PDo X Δ hi thi dh) : PDe X Δ (.Subscript e (.Slice lo hi none p2) pos) (tSl (rSlAll X.K) te tlo thi) (dSl de dl dh) := by
  obtain ⟨pe, se⟩ := he
  obtain ⟨pl, sl⟩ := hl
  obtain ⟨ph, sh⟩ := hu
  refine ⟨pe_slice sl_all pe pl ph, fun I M H σ env G Q Qd k q => se I M H σ env G _ _ (fun x M1 I1 H1 v x1 G1 r1 q1 => sl I1 M1 H1 σ env G1 _ _ (fun l M2 I2 H2 x2 G2 q2 => sh I2 M2 H2 σ env G2 _ _ (fun u M3 I3 H3 x3 G3 h3 => ?_) q2) q1) q⟩
  obtain ⟨d, e3, q3⟩ := h3
  have r3 := r1.ext (x2.trans x3)
  have x13 := (x1.trans x2).trans x3
  unfold slD at e3
  split at e3
  · rename_i z
    by_cases h : z.length ≤ sizeLine
    · rw [if_pos h] at e3
      cases e3
      exact .inl ⟨z, r3.str_inv, h, k _ _ _ _ _ x13 G3 (.str _) q3⟩
    · rw [if_neg h] at e3; cases e3
  · rename_i xs
    cases e3
    obtain ⟨a, vs, rfl, h1, h2⟩ := r3.tup_inv
    refine .inr (.inl ⟨a, vs, rfl, G3.at_.sqT h1, fun hw => ?_, fun _ p hp => ?_⟩)
    · rw [h2.length] at hw
      exact k _ _ _ _ _ x13 G3 (by rw [sIx_whole hw]; exact r3) q3
    · obtain ⟨x4, G4⟩ := G3.newI hp (.tup (cutV vs l u))
      exact k _ _ _ _ _ (x13.trans x4) G4 (.tup (.inl (.inl upd_same)) ((h2.cut l u).ext x4)) q3
  · cases e4 : lstOf M3 x with
    | none => rw [e4] at e3; exact nomatch e3
    | some xs =>
      rw [e4] at e3
      cases e3
      obtain ⟨a, vs, rfl, h1, h2⟩ := lst_of G3.at_ r3 e4
      refine .inr (.inr ⟨a, vs, rfl, .inl (.inl h1), fun p hp => ?_⟩)
      obtain ⟨x4, G4⟩ := G3.newI hp (.lst (cutV vs l u))
      exact k _ _ _ _ _ (x13.trans x4) G4 (.lst upd_same ((h2.cut l u).ext x4)) q3
end
end BB

set_option maxHeartbeats 2000000
namespace BB
open L2 PySem PySem.Spec PyProof.Rows

/-! ### comprehensions -/
def wipeD (env : Env) : List Nat → Env
  | [] => env
  | v :: vs => (wipeD env vs).set v none
theorem wipe_get {σ : L2.St} {j : Nat} : ∀ {vs : List Nat}, (wipe σ vs)[j]? = if j ∈ vs then (σ[j]?).map (fun _ => none) else σ[j]?
  | [] => by simp [wipe]
  | v :: vs => by
    unfold wipe
    by_cases h : v = j
    · subst h
      rw [List.getElem?_set]
      simp only [if_true, List.mem_cons, true_or, wipe_length]
      by_cases hl : v < σ.length
      · rw [if_pos hl, List.getElem?_eq_getElem hl]; rfl
      · rw [if_neg hl, List.getElem?_eq_none (by omega)]; rfl
    · rw [List.getElem?_set_ne h, wipe_get (vs := vs)]
      have : (j ∈ v :: vs) ↔ j ∈ vs := by simp [Ne.symm h]
      simp only [this]
theorem wipe_set {σ : L2.St} {i : Nat} {x : Option V} {vs : List Nat} (h : i ∈ vs) : wipe (σ.set i x) vs = wipe σ vs := by
  apply List.ext_getElem?
  intro j
  rw [wipe_get, wipe_get]
  by_cases hj : j ∈ vs
  · rw [if_pos hj, if_pos hj, List.getElem?_set]
    by_cases e : i = j
    · subst e
      rw [if_pos rfl]
      by_cases hl : i < σ.length
      · rw [if_pos hl, List.getElem?_eq_getElem hl]; rfl
      · rw [if_neg hl, List.getElem?_eq_none (by omega)]
    · rw [if_neg e]
  · rw [if_neg hj, if_neg hj, List.getElem?_set_ne (by rintro rfl; exact hj h)]
theorem wipe_idem {σ : L2.St} {vs : List Nat} : wipe (wipe σ vs) vs = wipe σ vs := by
  apply List.ext_getElem?
  intro j
  rw [wipe_get, wipe_get]
  by_cases hj : j ∈ vs
  · rw [if_pos hj, if_pos hj]; cases σ[j]? <;> rfl
  · rw [if_neg hj, if_neg hj]
theorem EnvR.wipe {K : PySem.W.Frag} {I : Hp} {σ : L2.St} {env : Env} (R : EnvR K I σ env) : ∀ vs : List Nat, EnvR K I (L2.wipe σ vs) (wipeD env vs)
  | [] => R
  | v :: vs => (EnvR.wipe R vs).setN
section
variable {X : Cx} {Δ : DC} {e a b c : Expr} {de da db dc : DE} {dt du : DT} {pos : Pos}
variable {ta tb tc te to ti : TE} {t1 t2 : TT} {tl : TA} {dl : DA} {wi : TI} {di : DI} {g g1 : TG} {g2 : TGs} {dg : DG}
/-- what holds within a block -/
abbrev DC.blk (Δ : DC) (F : Hp) : DC := { F := F, I0 := Δ.I0, W := fun _ _ _ _ => False, Wd := fun _ _ _ _ => False }
theorem xok_blk {X : Cx} {F I0 : Hp} : XOk X { F := F, I0 := I0, W := fun _ _ _ _ => False, Wd := fun _ _ _ _ => False } := ⟨fun _ _ x => by
  let ⟨_, _, _, _, _, _, _, _, _, _, _, _, _, _, _, _, z⟩ := x; exact z.elim, fun _ _ z => z.elim⟩
/-- a target whose names are the block's own -/
def SndW (X : Cx) (Δ : DC) (vs : List Nat) (g : TG) (dg : DG) : Prop := ∀ I M H σ env, Gd X.K Δ I M H σ env → ∀ v d, Rp X.K I v d → ∀ (Q : L2.St → Hp → Prop) (Qd : Env → Mem → Prop),
  (∀ env' M' I' H' σ', Ext I I' → Gd X.K Δ I' M' H' σ' env' → L2.wipe σ' vs = L2.wipe σ vs → Qd env' M' → Q σ' H') → dg d env M Qd → g v σ H Q
def SndWs (X : Cx) (Δ : DC) (vs : List Nat) (g : TGs) (dg : DGs) : Prop := ∀ I M H σ env, Gd X.K Δ I M H σ env → ∀ v d, Rps X.K I v d → ∀ (Q : L2.St → Hp → Prop) (Qd : Env → Mem → Prop),
  (∀ env' M' I' H' σ', Ext I I' → Gd X.K Δ I' M' H' σ' env' → L2.wipe σ' vs = L2.wipe σ vs → Qd env' M' → Q σ' H') → dg d env M Qd → g v σ H Q
def PDgw (X : Cx) (Δ : DC) (vs : List Nat) (tg : Expr) (g : TG) (dg : DG) : Prop := PG X tg g ∧ SndW X Δ vs g dg
def PDgws (X : Cx) (Δ : DC) (vs : List Nat) (ts : List Expr) (g : TGs) (dg : DGs) : Prop := PGs X ts g ∧ SndWs X Δ vs g dg
theorem pdgw_name {vs : List Nat} {i : Nat} {tg : Expr} (h : PG X tg (gName i)) (hi : i ∈ vs) : PDgw X Δ vs tg (gName i) (gdName i) := ⟨h, fun I M H σ env G v d r Q Qd k q => k _ _ _ _ _ (Ext.refl I) (G.set r) (wipe_set hi) q⟩
theorem pdgws_nil {vs : List Nat} : PDgws X Δ vs [] gNil gdNil := ⟨pgs_nil, fun I M H σ env G v d r Q Qd k ⟨e, q⟩ => by
  subst e
  exact ⟨r.nil_inv, k _ _ _ _ _ (Ext.refl I) G rfl q⟩⟩
theorem pdgws_cons {vs : List Nat} {e : Expr} {es : List Expr} {t : DG} {u : DGs} (h1 : PDgw X Δ vs e g1 t) (h2 : PDgws X Δ vs es g2 u)
    (hs : (assignEach (e :: es) X.env).map (·.2) = assign e X.env :: (assignEach es X.env).map (·.2) := by rfl) : PDgws X Δ vs (e :: es) (gCons g1 g2) (gdCons t u) := by
  obtain ⟨p1, s1⟩ := h1
  obtain ⟨p2, s2⟩ := h2
  refine ⟨pgs_cons p1 p2 hs, fun I M H σ env G vs ds r Q Qd k ⟨d, dr, e, q⟩ => ?_⟩
  subst e
  obtain ⟨v, vr, rfl, rv, rr⟩ := r.cons_inv
  exact ⟨v, vr, rfl, s1 I M H σ env G v d rv _ _ (fun env' M' I' H' σ' x G' w' q' => s2 I' M' H' σ' env' G' vr dr (rr.ext x) Q Qd (fun e2 M2 I2 H2 σ2 x2 G2 w2 => k e2 M2 I2 H2 σ2 (x.trans x2) G2 (w2.trans w')) q') q⟩
theorem pdgw_tup {vs : List Nat} {es : List Expr} {k : Nat} {t : DGs} {n : Nat} (hc : X.calm = true) (h : PDgws X Δ vs es g2 t)
    (hn : (assignEach es X.env).length = n := by rfl) (hst : (assignEach es X.env).findIdx? (·.1) = none := by rfl) : PDgw X Δ vs (.Tuple es k pos) (gTup X.K n g2) (gdTup n t) := by
  obtain ⟨p, s⟩ := h
  refine ⟨pg_tup hc p hn hst, fun I M H σ env G v d r Q Qd k ⟨xs, e, hl, q⟩ => ?_⟩
  subst e
  obtain ⟨a, vs, rfl, h1, h2⟩ := r.tup_inv
  exact ⟨a, vs, rfl, G.at_.sqT h1, by rw [h2.length]; exact hl, s I M H σ env G vs xs h2 Q Qd k q⟩
/-- a clause's tests -/
def PDts (X : Cx) (Δ : DC) (ifs : List Expr) (t : TT) (dt : DT) : Prop := PTs X ifs t ∧ SndT X Δ t dt
def dYes : DT := fun _ M Q => Q true M
theorem pdts_nil : PDts X Δ [] tYes dYes := ⟨pts_nil, fun I M H σ env G Q Qd k q => k _ _ _ _ (Ext.refl I) G q⟩
theorem pdts_one (h : PDt X Δ c t1 dt) : PDts X Δ [c] t1 dt := ⟨pts_one h.1, h.2⟩

def dLc (di : DI) (dg : DG) (dt : DT) (de : DE) (vs : List Nat) : DE := fun env M Q => di env M fun xs keep M1 => xs.length ≤ sizeLine ∧ ∃ P : Nat → List D → Mem → Prop, P 0 [] M1 ∧ (∀ i acc M, P i acc M → keep M) ∧
  (∀ i d acc M, xs[i]? = some d → P i acc M → dg d (wipeD env vs) M fun env2 M2 => dt env2 M2 fun b M3 => if b = true then de env2 M3 fun y M4 => P (i + 1) (acc ++ [y]) M4 else P (i + 1) acc M3) ∧ ∀ acc M, P xs.length acc M → Q (.lst acc) M
theorem fr_ne {K : PySem.W.Frag} {F I H : Hp} {M : Mem} (A : At K F I M H) {p : Addr} {o : HO} (hp : F p = some o) : I p = none ∧ M p = none ∧ H p = some o := let ⟨a, b, c⟩ := A.fr _ _ hp; ⟨b, c, a⟩
/-- an object of the frame is written -/
theorem At.writeF {K : PySem.W.Frag} {F I H : Hp} {M : Mem} (A : At K F I M H) {p : Addr} {o o' : HO} (hp : F p = some o) : At K (upd F p o') I M (upd H p o') where
  ex := fun b u e => by
    have hb : b ≠ p := fun z => by subst z; rw [(A.fr _ _ hp).2.1] at e; cases e
    rw [upd_ne hb]; exact A.ex _ _ e
  mem := fun b u e => by
    have hM := (A.fr _ _ hp).2.2
    have hb : b ≠ p := mem_ne e hM
    refine ⟨(A.mem _ _ e).1, (A.mem _ _ e).2.mono (Ext.refl I) (fun c v hc hv => ?_) (fun c hc => hc)⟩
    rcases hc with rfl | hc
    · rw [upd_ne hb]; exact hv
    · rw [upd_ne (mem_ne hc hM)]; exact hv
  fr := fun b u e => by
    by_cases hb : b = p
    · subst hb; rw [upd_same] at e; cases e; exact ⟨upd_same, (A.fr _ _ hp).2.1, (A.fr _ _ hp).2.2⟩
    · rw [upd_ne hb] at e ⊢; exact A.fr _ _ e
/-- a new object of the frame; one that is fixed now -/
theorem At.newF {K : PySem.W.Frag} {F I H : Hp} {M : Mem} (A : At K F I M H) {p : Addr} (h : H p = none) (o : HO) : At K (upd F p o) I M (upd H p o) where
  ex := fun b u e => by rw [upd_ne (ne_of_none (A.ex _ _ e) h)]; exact A.ex _ _ e
  mem := fun b u e => by
    refine ⟨(A.mem _ _ e).1, (A.mem _ _ e).2.mono (Ext.refl I) (fun c v _ hc => ?_) (fun c hc => hc)⟩
    rw [upd_ne (ne_of_none hc h)]; exact hc
  fr := fun b u e => by
    by_cases hb : b = p
    · subst hb; rw [upd_same] at e; cases e; exact ⟨upd_same, A.freeI h, A.freeM h⟩
    · rw [upd_ne hb] at e ⊢; exact A.fr _ _ e
theorem At.fixF {K : PySem.W.Frag} {F F0 I H : Hp} {M : Mem} (A : At K F I M H) {p : Addr} {o : HO} (hp : F p = some o) (hF : ∀ b u, F0 b = some u → b ≠ p ∧ F b = some u) : At K F0 (upd I p o) M H ∧ Ext I (upd I p o) := by
  obtain ⟨h1, h2, h3⟩ := A.fr _ _ hp
  have x : Ext I (upd I p o) := Ext.new h2
  refine ⟨⟨fun b u e => ?_, fun b u e => ?_, fun b u e => ?_⟩, x⟩
  · by_cases hb : b = p
    · subst hb; rw [upd_same] at e; cases e; exact h1
    · rw [upd_ne hb] at e; exact A.ex _ _ e
  · have hb : b ≠ p := mem_ne e h3
    exact ⟨by rw [upd_ne hb]; exact (A.mem _ _ e).1, (A.mem _ _ e).2.mono x (fun c v _ hv => hv) (fun c hc => hc)⟩
  · obtain ⟨hb, e⟩ := hF b u e
    obtain ⟨q1, q2, q3⟩ := A.fr _ _ e
    exact ⟨q1, by rw [upd_ne hb]; exact q2, q3⟩
theorem snd_lc {vs : List Nat} (si : SndI X Δ wi di) (sg : ∀ F, SndW X (Δ.blk F) vs g dg) (st : ∀ F, SndT X (Δ.blk F) t1 dt) (se : ∀ F, SndE X (Δ.blk F) te de) : SndE X Δ (tLc wi g t1 te vs) (dLc di dg dt de vs) := fun I M H σ env G Q Qd k q =>
  si I M H σ env G _ _ (fun xs keep M1 J I1 H1 x1 G1 ok ⟨hz, P, p0, pk, ps, pd⟩ => by
    intro D hD
    have A1 := G1.at_.newF hD (.lst [])
    have F0 : ∀ (o : HO) b u, Δ.F b = some u → b ≠ D ∧ (upd Δ.F D o) b = some u := fun o b u e => by
      have hb : b ≠ D := ne_of_none (G1.at_.fr _ _ e).1 hD
      exact ⟨hb, by rw [upd_ne hb]; exact e⟩
    refine ⟨fun i m H => m = xs.length - i ∧ i ≤ xs.length ∧ ∃ I M acc us, Ext I1 I ∧ Gd X.K (Δ.blk (upd Δ.F D (.lst us))) I M H (L2.wipe σ vs) (wipeD env vs) ∧ Rps X.K I us acc ∧ acc.length ≤ i ∧ P i acc M,
      ⟨xs.length, by simp, Nat.zero_le _, I1, M1, [], [], Ext.refl _, ⟨G1.base, A1, G1.env.wipe vs⟩, .nil, Nat.le_refl _, p0⟩, ?_⟩
    rintro i m H2 ⟨rfl, hi, I2, M2, acc, us, x2, G2, r2, ha, p2⟩
    have hk := pk i acc M2 p2
    by_cases hlt : i < xs.length
    · refine .inr ⟨ok.go _ i I2 M2 H2 x2 G2.at_ hk hlt, fun H => ∃ I M acc us, Ext I1 I ∧ Gd X.K (Δ.blk (upd Δ.F D (.lst us))) I M H (L2.wipe σ vs) (wipeD env vs) ∧ Rps X.K I us acc ∧ acc.length ≤ i + 1 ∧ P (i + 1) acc M, fun H' w => ⟨xs.length - (i + 1), by omega, rfl, hlt, w⟩, fun x H' y => ?_⟩
      have hd : xs[i]? = some xs[i] := by simp [hlt]
      obtain ⟨I3, x3, A3, r3⟩ := ok.yld _ i xs[i] x I2 M2 H2 H' x2 G2.at_ hk hd y
      have G3 := G2.go x3 A3
      refine sg _ I3 M2 H' _ _ G3 x xs[i] r3 _ _ (fun env4 M4 I4 H4 σ4 x4 G4 w4 q4 => ⟨w4.trans wipe_idem, ?_⟩) (ps i xs[i] acc M2 hd p2)
      refine st _ I4 M4 H4 σ4 env4 G4 _ _ (fun b M5 I5 H5 x5 G5 q5 => ?_) q4
      have back : ∀ {I6 M6 H6 F6}, Gd X.K (Δ.blk F6) I6 M6 H6 σ4 env4 → Ext I2 I6 → Gd X.K (Δ.blk F6) I6 M6 H6 (L2.wipe σ vs) (wipeD env vs) := fun {I6 M6 H6 F6} G6 x6 => ⟨G6.base, G6.at_, G2.env.ext x6⟩
      cases b with
      | true =>
        rw [if_pos rfl] at q5 ⊢
        refine se _ I5 M5 H5 σ4 env4 G5 _ _ (fun y M6 I6 H6 u x6 G6 r6 q6 => ?_) q5
        have hFD : (upd Δ.F D (.lst us)) D = some (.lst us) := upd_same
        obtain ⟨hD1, hD2, hD3⟩ := G6.at_.fr _ _ hFD
        refine ⟨us, hD1, by rw [r2.length]; omega, I6, M6, acc ++ [y], us ++ [u], (((x2.trans x3).trans x4).trans x5).trans x6, ?_, (r2.ext (((x3.trans x4).trans x5).trans x6)).append (.cons r6 .nil), by simp; omega, q6⟩
        have A6 := G6.at_.writeF (o' := .lst (us ++ [u])) hFD
        have e : upd (upd Δ.F D (.lst us)) D (.lst (us ++ [u])) = upd Δ.F D (.lst (us ++ [u])) := upd_upd
        rw [e] at A6
        exact ⟨G6.base, A6, G2.env.ext (((x3.trans x4).trans x5).trans x6)⟩
      | false =>
        rw [if_neg Bool.false_ne_true] at q5 ⊢
        exact ⟨I5, M5, acc, us, ((x2.trans x3).trans x4).trans x5, back G5 ((x3.trans x4).trans x5), r2.ext ((x3.trans x4).trans x5), by omega, q5⟩
    · have e : i = xs.length := by omega
      subst e
      refine .inl ⟨ok.stop _ I2 M2 H2 x2 G2.at_ hk, ?_⟩
      obtain ⟨A7, x7⟩ := G2.at_.fixF (F0 := Δ.F) (p := D) upd_same (F0 _)
      exact k _ _ _ _ _ ((x1.trans x2).trans x7) ⟨G1.base.trans (x2.trans x7), A7, G1.env.ext (x2.trans x7)⟩ (.lst upd_same (r2.ext x7)) (pd acc M2 p2)) q
theorem pd_lc {elt tg iter : Expr} {ifs : List Expr} {scope : Scope} {own : List (Str × Nat)} {pos : Pos} (hc : X.calm = true) (hN : X.N.Nodup) (hi : PDi X Δ tg iter wi di) (ok : BlkOk X.N X.env.scope scope own)
    (hg : ∀ (s : Shared) (H : Hp) (C : Addr) (cl : List (Str × Addr)) (fp : List Addr) (F : Hp), PDgw (X.blk s H scope (compEnvC scope cl C X.env) fp) (Δ.blk F) (own.map (·.2)) tg g dg) (ht : ∀ (s : Shared) (H : Hp) (C : Addr) (cl : List (Str × Addr)) (fp : List Addr) (F : Hp), PDts (X.blk s H scope (compEnvC scope cl C X.env) fp) (Δ.blk F) ifs t1 dt)
    (he : ∀ (s : Shared) (H : Hp) (C : Addr) (cl : List (Str × Addr)) (fp : List Addr) (F : Hp), PDe (X.blk s H scope (compEnvC scope cl C X.env) fp) (Δ.blk F) elt te de) (hs : ∀ x, foldedSetIterable iter X.env x = pure x := by intro _; rfl) :
    PDe X Δ (.ListComp elt [⟨tg, iter, ifs, 0⟩] scope pos) (tLc wi g t1 te (own.map (·.2))) (dLc di dg dt de (own.map (·.2))) :=
  ⟨pe_lc hc hN hi.1 ok (fun s H C cl fp => (hg s H C cl fp Δ.F).1) (fun s H C cl fp => (ht s H C cl fp Δ.F).1) (fun s H C cl fp => (he s H C cl fp Δ.F).1) hs,
    snd_lc hi.2 (fun F => (hg X.s_0 X.H_0 0 [] [] F).2) (fun F => (ht X.s_0 X.H_0 0 [] [] F).2) (fun F => (he X.s_0 X.H_0 0 [] [] F).2)⟩
/-- y = [..] -/
theorem pds_setLc {i : Nat} {y : Str} {py : Pos} {elt tg iter : Expr} {ifs : List Expr} {scope : Scope} {own : List (Str × Nat)} {pos spos : Pos} (hc : X.calm = true) (hN : X.N.Nodup) (hy : X.N[i]? = some y) (hyl : X.env.scope.names.lookup y = some .local)
    (hsw : swapsWith (.ListComp elt [⟨tg, iter, ifs, 0⟩] scope pos) (some (.Name y py)) spos.line X.env = pure true) (hi : PDi X Δ tg iter wi di) (ok : BlkOk X.N X.env.scope scope own)
    (hg : ∀ (s : Shared) (H : Hp) (C : Addr) (cl : List (Str × Addr)) (fp : List Addr) (F : Hp), PDgw (X.blk s H scope (compEnvC scope cl C X.env) fp) (Δ.blk F) (own.map (·.2)) tg g dg) (ht : ∀ (s : Shared) (H : Hp) (C : Addr) (cl : List (Str × Addr)) (fp : List Addr) (F : Hp), PDts (X.blk s H scope (compEnvC scope cl C X.env) fp) (Δ.blk F) ifs t1 dt)
    (he : ∀ (s : Shared) (H : Hp) (C : Addr) (cl : List (Str × Addr)) (fp : List Addr) (F : Hp), PDe (X.blk s H scope (compEnvC scope cl C X.env) fp) (Δ.blk F) elt te de) (hs : ∀ x, foldedSetIterable iter X.env x = pure x := by intro _; rfl) :
    PDs X Δ (.Assign [.Name y py] (.ListComp elt [⟨tg, iter, ifs, 0⟩] scope pos) spos) (tAsg (tLc wi g t1 te (own.map (·.2))) (gName i)) (dSet i (dLc di dg dt de (own.map (·.2)))) :=
  ⟨ps_setLc hc hN hy hyl hsw hi.1 ok (fun s H C cl fp => (hg s H C cl fp Δ.F).1) (fun s H C cl fp => (ht s H C cl fp Δ.F).1) (fun s H C cl fp => (he s H C cl fp Δ.F).1) hs,
    fun I M H σ env G T Td R q => snd_lc hi.2 (fun F => (hg X.s_0 X.H_0 0 [] [] F).2) (fun F => (ht X.s_0 X.H_0 0 [] [] F).2) (fun F => (he X.s_0 X.H_0 0 [] [] F).2) I M H σ env G _ _
      (fun d M1 I1 H1 v x1 G1 r1 q1 => R.nx _ _ _ _ _ x1 (G1.set r1) q1) q⟩

/-! ### calls of built-ins -/
abbrev RDC := List D → Mem → DKt → Prop
def SndC (X : Cx) (r : List V → Hp → VK → Prop) (rd : RDC) : Prop := ∀ (Δ : DC) I M H σ env, Gd X.K Δ I M H σ env → ∀ vs ds, Rps X.K I vs ds → ∀ (Q : VK) (Qd : DKt),
  (∀ d M' I' H' v, Ext I I' → Gd X.K Δ I' M' H' σ env → Rp X.K I' v d → Qd d M' → Q v H') → rd ds M Qd → r vs H Q
def dCB (rd : RDC) (dl : DA) : DE := fun env M Q => dl env M fun ds M1 => rd ds M1 Q
theorem snd_cb {r : List V → Hp → VK → Prop} {rd : RDC} (hr : SndC X r rd) (sl : SndA X Δ tl dl) : SndE X Δ (tCB r tl) (dCB rd dl) := fun I M H σ env G Q Qd k q =>
  sl I M H σ env G _ _ (fun ds M1 I1 H1 vs x1 G1 r1 q1 => hr Δ I1 M1 H1 σ env G1 vs ds r1 Q Qd (fun d M' I' H' v x => k d M' I' H' v (x1.trans x)) q1) q
theorem pd_callB {es : List Expr} {id : String} {x : Str} {p : Pos} {r : List V → Hp → VK → Prop} {rd : RDC} (hc : CallR X (.builtin id) r) (hr : SndC X r rd) (hg : Gl X x) (hm : X.mg x = none) (hv : bootBuiltins x = some (.builtin id)) (ha : PDa X Δ (e :: es) tl dl) (hn : x ≠ "__name__" := by decide) (hdb : (x == ("__debug__" : Str)) = false := by decide)
    (he : starEach (e :: es) X.env = (false, eval e X.env) :: starEach es X.env := by rfl) (hpl : (backTo pos (starEach es X.env)).any (·.1) = false := by rfl) : PDe X Δ (.Call (.Name x p) (e :: es) [] pos) (tCB r tl) (dCB rd dl) :=
  ⟨pe_callB hc hg hm hv ha.1 hn hdb he hpl, snd_cb hr ha.2⟩
theorem pd_callTy {es : List Expr} {T : String} {x : Str} {p : Pos} {r : List V → Hp → VK → Prop} {rd : RDC} (hc : CallR X (.type T) r) (hr : SndC X r rd) (hg : Gl X x) (hm : X.mg x = none) (hv : bootBuiltins x = some (.type T)) (ha : PDa X Δ (e :: es) tl dl) (hn : x ≠ "__name__" := by decide) (hdb : (x == ("__debug__" : Str)) = false := by decide)
    (he : starEach (e :: es) X.env = (false, eval e X.env) :: starEach es X.env := by rfl) (hpl : (backTo pos (starEach es X.env)).any (·.1) = false := by rfl) : PDe X Δ (.Call (.Name x p) (e :: es) [] pos) (tCB r tl) (dCB rd dl) :=
  ⟨pe_callTy hc hg hm hv ha.1 hn hdb he hpl, snd_cb hr ha.2⟩
/-- of one value, by a function -/
def rd1 (f : Mem → D → Option D) : RDC := fun ds M Q => ∃ x, ds = [x] ∧ ∃ d, f M x = some d ∧ Q d M
def lenD (M : Mem) : D → Option D
  | .str z => if z.length ≤ sizeLine then some (.int z.length) else none
  | x => (seqOf M x).map fun xs => .int xs.length
abbrev rLenA (K : PySem.W.Frag) : List V → Hp → VK → Prop := fun xs H Q => (∃ p ys, xs = [.ref p] ∧ (SqL K H p ys ∨ SqT K H p ys) ∧ Q (.int ys.length) H) ∨ ∃ z, xs = [.str z] ∧ z.length ≤ sizeLine ∧ Q (.int z.length) H
theorem call_lenA : CallR X (.builtin "len") (rLenA X.K) := CallR.or call_len_seq call_len_str
theorem snd_len : SndC X (rLenA X.K) (rd1 lenD) := by
  intro Δ I M H σ env G vs ds r Q Qd k ⟨x, e, d, e2, q⟩
  subst e
  obtain ⟨v, rfl, rv⟩ := r.one_inv
  unfold lenD at e2
  split at e2
  · rename_i z
    by_cases h : z.length ≤ sizeLine
    · rw [if_pos h] at e2; cases e2; rw [rv.str_inv]; exact .inr ⟨z, rfl, h, k _ _ _ _ _ (Ext.refl I) G (.int _) q⟩
    · rw [if_neg h] at e2; cases e2
  · cases e3 : seqOf M x with
    | none => rw [e3] at e2; cases e2
    | some xs =>
      rw [e3] at e2
      cases e2
      obtain ⟨a, us, rfl, h1, h2⟩ := seq_of G.at_ rv e3
      exact .inl ⟨a, us, rfl, h1, k _ _ _ _ _ (Ext.refl I) G (by rw [h2.length]; exact .int _) q⟩
def absD (M : Mem) : D → Option D
  | .int i => some (.int (if i < 0 then -i else i)) | _ => none
theorem snd_abs : SndC X (fun xs H Q => ∃ i, xs = [.int i] ∧ Q (.int (if i < 0 then -i else i)) H) (rd1 absD) := by
  intro Δ I M H σ env G vs ds r Q Qd k ⟨x, e, d, e2, q⟩
  subst e
  obtain ⟨v, rfl, rv⟩ := r.one_inv
  unfold absD at e2
  split at e2
  · cases e2; rw [rv.int_inv]; exact ⟨_, rfl, k _ _ _ _ _ (Ext.refl I) G (.int _) q⟩
  · cases e2
def intOfD (M : Mem) : D → Option D
  | .int i => some (.int i)
  | .bl b => some (.int (if b then 1 else 0))
  | _ => none
theorem snd_intOf : SndC X (fun xs H Q => (∃ i, xs = [.int i] ∧ Q (.int i) H) ∨ ∃ k, xs = [.bl k] ∧ Q (.int (if k then 1 else 0)) H) (rd1 intOfD) := by
  intro Δ I M H σ env G vs ds r Q Qd k ⟨x, e, d, e2, q⟩
  subst e
  obtain ⟨v, rfl, rv⟩ := r.one_inv
  unfold intOfD at e2
  split at e2
  · cases e2; rw [rv.int_inv]; exact .inl ⟨_, rfl, k _ _ _ _ _ (Ext.refl I) G (.int _) q⟩
  · cases e2; rw [rv.bl_inv]; exact .inr ⟨_, rfl, k _ _ _ _ _ (Ext.refl I) G (.int _) q⟩
  · cases e2
def tupD (M : Mem) (x : D) : Option D := (seqOf M x).map .tup
def listD (M : Mem) (x : D) : Option D := (seqOf M x).map .lst
theorem snd_tup : SndC X (fun xs H Q => ∃ p ys, xs = [.ref p] ∧ ((SqL X.K H p ys ∧ ∀ l, H l = none → Q (.ref l) (upd H l (.tup ys))) ∨ (SqT X.K H p ys ∧ Q (.ref p) H))) (rd1 tupD) := by
  intro Δ I M H σ env G vs ds r Q Qd k ⟨x, e, d, e2, q⟩
  subst e
  obtain ⟨v, rfl, rv⟩ := r.one_inv
  unfold tupD at e2
  have lists : ∀ {xs}, lstOf M x = some xs → d = .tup xs → _ := fun {xs} (h : lstOf M x = some xs) (ed : d = .tup xs) => show (∃ p ys, [v] = [V.ref p] ∧ ((SqL X.K H p ys ∧ ∀ l, H l = none → Q (.ref l) (upd H l (.tup ys))) ∨ (SqT X.K H p ys ∧ Q (.ref p) H))) from by
    obtain ⟨a, us, rfl, h1, h2⟩ := lst_of G.at_ rv h
    subst ed
    refine ⟨a, us, rfl, .inl ⟨.inl (.inl h1), fun l hl => ?_⟩⟩
    obtain ⟨x2, G2⟩ := G.newI hl (.tup us)
    exact k _ _ _ _ _ x2 G2 (.tup (.inl (.inl upd_same)) (h2.ext x2)) q
  cases x with
  | tup xs =>
    cases e2
    obtain ⟨a, us, rfl, h1, h2⟩ := rv.tup_inv
    exact ⟨a, us, rfl, .inr ⟨G.at_.sqT h1, k _ _ _ _ _ (Ext.refl I) G (.tup h1 h2) q⟩⟩
  | frz xs =>
    cases e2
    obtain ⟨a, us, rfl, h1, h2⟩ := rv.frz_inv
    refine ⟨a, us, rfl, .inl ⟨G.at_.sqL h1, fun l hl => ?_⟩⟩
    obtain ⟨x2, G2⟩ := G.newI hl (.tup us)
    exact k _ _ _ _ _ x2 G2 (.tup (.inl (.inl upd_same)) (h2.ext x2)) q
  | lst xs => cases e2; exact lists rfl rfl
  | ref p =>
    cases e3 : seqOf M (.ref p) with
    | none => rw [e3] at e2; cases e2
    | some xs => rw [e3] at e2; cases e2; exact lists (xs := xs) e3 rfl
  | _ => cases e2
theorem snd_list : SndC X (fun xs H Q => ∃ p ys, xs = [.ref p] ∧ (SqL X.K H p ys ∨ SqT X.K H p ys) ∧ ∀ l, H l = none → Q (.ref l) (upd H l (.lst ys))) (rd1 listD) := by
  intro Δ I M H σ env G vs ds r Q Qd k ⟨x, e, d, e2, q⟩
  subst e
  obtain ⟨v, rfl, rv⟩ := r.one_inv
  unfold listD at e2
  cases e3 : seqOf M x with
  | none => rw [e3] at e2; cases e2
  | some xs =>
    rw [e3] at e2
    cases e2
    obtain ⟨a, us, rfl, h1, h2⟩ := seq_of G.at_ rv e3
    refine ⟨a, us, rfl, h1, fun l hl => ?_⟩
    obtain ⟨x2, G2⟩ := G.newI hl (.lst us)
    exact k _ _ _ _ _ x2 G2 (.lst upd_same (h2.ext x2)) q
/-- two ints -/
def rdMax : RDC := fun ds M Q => ∃ i j, ds = [.int i, .int j] ∧ Q (.int (if j > i then j else i)) M
def rdMin : RDC := fun ds M Q => ∃ i j, ds = [.int i, .int j] ∧ Q (.int (if j < i then j else i)) M
theorem snd_max : SndC X (fun xs H Q => ∃ i j, xs = [.int i, .int j] ∧ Q (.int (if j > i then j else i)) H) rdMax := by
  intro Δ I M H σ env G vs ds r Q Qd k ⟨i, j, e, q⟩
  subst e
  obtain ⟨v, u, rfl, rv, ru⟩ := r.two_inv
  rw [rv.int_inv, ru.int_inv]
  exact ⟨i, j, rfl, k _ _ _ _ _ (Ext.refl I) G (.int _) q⟩
theorem snd_min : SndC X (fun xs H Q => ∃ i j, xs = [.int i, .int j] ∧ Q (.int (if j < i then j else i)) H) rdMin := by
  intro Δ I M H σ env G vs ds r Q Qd k ⟨i, j, e, q⟩
  subst e
  obtain ⟨v, u, rfl, rv, ru⟩ := r.two_inv
  rw [rv.int_inv, ru.int_inv]
  exact ⟨i, j, rfl, k _ _ _ _ _ (Ext.refl I) G (.int _) q⟩
theorem Rps.bls {K : PySem.W.Frag} {I : Hp} : ∀ {bs : List Bool} {vs : List V}, Rps K I vs (bs.map D.bl) → vs = bs.map V.bl
  | [], _, r => r.nil_inv
  | b :: bs, _, r => by
    obtain ⟨v, vr, rfl, a, t⟩ := Rps.cons_inv (show Rps K I _ (.bl b :: bs.map D.bl) from r)
    rw [a.bl_inv, Rps.bls t]
    rfl
theorem Rps.strs {K : PySem.W.Frag} {I : Hp} : ∀ {bs : List Str} {vs : List V}, Rps K I vs (bs.map D.str) → vs = bs.map V.str
  | [], _, r => r.nil_inv
  | b :: bs, _, r => by
    obtain ⟨v, vr, rfl, a, t⟩ := Rps.cons_inv (show Rps K I _ (.str b :: bs.map D.str) from r)
    rw [a.str_inv, Rps.strs t]
    rfl
theorem Rps.ofStrs {K : PySem.W.Frag} {I : Hp} : ∀ (bs : List Str), Rps K I (bs.map V.str) (bs.map D.str)
  | [] => .nil
  | b :: bs => .cons (.str b) (Rps.ofStrs bs)
theorem Rps.ints {K : PySem.W.Frag} {I : Hp} : ∀ {bs : List Int} {vs : List V}, Rps K I vs (bs.map D.int) → vs = bs.map V.int
  | [], _, r => r.nil_inv
  | b :: bs, _, r => by
    obtain ⟨v, vr, rfl, a, t⟩ := Rps.cons_inv (show Rps K I _ (.int b :: bs.map D.int) from r)
    rw [a.int_inv, Rps.ints t]
    rfl
theorem Rps.ofInts {K : PySem.W.Frag} {I : Hp} : ∀ (bs : List Int), Rps K I (bs.map V.int) (bs.map D.int)
  | [] => .nil
  | b :: bs => .cons (.int b) (Rps.ofInts bs)
def rdAll : RDC := fun ds M Q => ∃ x, ds = [x] ∧ ∃ bs : List Bool, lstOf M x = some (bs.map D.bl) ∧ Q (.bl (bs.all id)) M
def rdAny : RDC := fun ds M Q => ∃ x, ds = [x] ∧ ∃ bs : List Bool, lstOf M x = some (bs.map D.bl) ∧ Q (.bl (bs.any id)) M
theorem snd_all : SndC X (rAll X.K) rdAll := by
  intro Δ I M H σ env G vs ds r Q Qd k ⟨x, e, bs, e2, q⟩
  subst e
  obtain ⟨v, rfl, rv⟩ := r.one_inv
  obtain ⟨a, us, rfl, h1, h2⟩ := lst_of G.at_ rv e2
  have e := h2.bls
  subst e
  exact ⟨a, bs, rfl, .inl (.inl h1), k _ _ _ _ _ (Ext.refl I) G (.bl _) q⟩
theorem snd_any : SndC X (rAny X.K) rdAny := by
  intro Δ I M H σ env G vs ds r Q Qd k ⟨x, e, bs, e2, q⟩
  subst e
  obtain ⟨v, rfl, rv⟩ := r.one_inv
  obtain ⟨a, us, rfl, h1, h2⟩ := lst_of G.at_ rv e2
  have e := h2.bls
  subst e
  exact ⟨a, bs, rfl, .inl (.inl h1), k _ _ _ _ _ (Ext.refl I) G (.bl _) q⟩
/-- sorted of a few texts -/
def rdSortS : RDC := fun ds M Q => ∃ x, ds = [x] ∧ ∃ xs : List Str, lstOf M x = some (xs.map D.str) ∧ xs.length < 64 ∧ ∀ ys : List Str, ys.Perm xs → sortedS ys = true → Q (.lst (ys.map D.str)) M
theorem snd_sortS : SndC X (rSortedS X.K) rdSortS := by
  intro Δ I M H σ env G vs ds r Q Qd k ⟨x, e, xs, e2, h64, q⟩
  subst e
  obtain ⟨v, rfl, rv⟩ := r.one_inv
  obtain ⟨a, us, rfl, h1, h2⟩ := lst_of G.at_ rv e2
  have e := h2.strs
  subst e
  refine ⟨a, xs, rfl, .inl (.inl h1), h64, fun ys p hp hs hn => ?_⟩
  obtain ⟨x2, G2⟩ := G.newI hn (.lst (ys.map V.str))
  exact k _ _ _ _ _ x2 G2 (.lst upd_same (Rps.ofStrs ys)) (q ys hp hs)
end
end BB

set_option maxHeartbeats 2000000
namespace BB
open L2 PySem PySem.Spec PyProof.Rows

/-! ### a value that is handed on: what may be let go or fixed with it -/
inductive FzV (Q : DKt) : D → Mem → Prop
  | done {d M} : Q d M → FzV Q d M
  | drop {d M} (p : Addr) {m : MO} : M p = some m → Loose m = true → FzV Q d (mdel M p) → FzV Q d M
  | dropI {d M} (p : Addr) {C fs} : M p = some (.ins C fs) → (∀ dx, M dx = some (.own p) → FzV Q d (mdel (mdel M p) dx)) → FzV Q d M
  | fixL {p M xs} : M p = some (.lst xs) → FzV Q (.lst xs) (mdel M p) → FzV Q (.ref p) M
  | fixK {p M xs} : M p = some (.dK xs) → FzV Q (.dK xs) (mdel M p) → FzV Q (.ref p) M
  | fixT {p M xs} : M p = some (.dT xs) → FzV Q (.dT xs) (mdel M p) → FzV Q (.ref p) M
  | fixI {p M C fs} : M p = some (.ins C fs) → (∀ dx, M dx = some (.own p) → FzV Q (.ins C fs) (mdel (mdel M p) dx)) → FzV Q (.ref p) M
theorem fzv {K : PySem.W.Frag} {F H : Hp} {v : V} {Q : DKt} {d : D} {M : Mem} (h : FzV Q d M) : ∀ {I : Hp}, At K F I M H → Rp K I v d → ∃ I' M' d', Ext I I' ∧ At K F I' M' H ∧ Rp K I' v d' ∧ Q d' M' := by
  induction h with
  | done q => exact fun {I} A r => ⟨I, _, _, Ext.refl I, A, r, q⟩
  | drop p hp hm _ ih => exact fun {I} A r => ih (A.drop hp hm) r
  | dropI p hp _ ih =>
    intro I A r
    obtain ⟨dx, hd, A'⟩ := A.dropI hp
    exact ih dx hd A' r
  | fixL hp _ ih =>
    intro I A r
    obtain ⟨J, x, A', r'⟩ := A.fixL hp
    have e := r.ref_inv
    subst e
    obtain ⟨I', M', d', x', q⟩ := ih A' r'
    exact ⟨I', M', d', x.trans x', q⟩
  | fixK hp _ ih =>
    intro I A r
    obtain ⟨J, x, A', r'⟩ := A.fixK hp
    have e := r.ref_inv
    subst e
    obtain ⟨I', M', d', x', q⟩ := ih A' r'
    exact ⟨I', M', d', x.trans x', q⟩
  | fixT hp _ ih =>
    intro I A r
    obtain ⟨J, x, A', r'⟩ := A.fixT hp
    have e := r.ref_inv
    subst e
    obtain ⟨I', M', d', x', q⟩ := ih A' r'
    exact ⟨I', M', d', x.trans x', q⟩
  | fixI hp _ ih =>
    intro I A r
    obtain ⟨dx, J, hd, x, A', r'⟩ := A.fixI hp
    have e := r.ref_inv
    subst e
    obtain ⟨I', M', d', x', q⟩ := ih dx hd A' r'
    exact ⟨I', M', d', x.trans x', q⟩

/-! ### promises over data -/
abbrev SpD := List D → Mem → DKt → DX → Prop
def liftSp (K : PySem.W.Frag) (sp : SpD) : Sp := fun vs H Q E => ∃ F I M ds Qd Ed, At K F I M H ∧ Rps K I vs ds ∧ sp ds M Qd Ed ∧
  (∀ d M' I' H' v, Ext I I' → At K F I' M' H' → Rp K I' v d → Qd d M' → Q v H') ∧ ∀ c fs M' I' H' dd, Ext I I' → At K F I' M' H' → ExcR K I' fs dd → Ed c fs M' → E c dd H'

section
variable {X : Cx} {Δ : DC} {e a b c o : Expr} {de da db dc : DE} {dt du : DT} {pos p apos : Pos} {es : List Expr}
variable {ta tb tc te to ti : TE} {t1 t2 : TT} {tl : TA} {dl : DA}
variable {k : Nat} {f C : Addr} {fd : FuncData} {ps : List Str} {sp : SpD} {ds : List Value} {dvs : List V} {dds : List D} {x m : Str}
theorem lift_at (xo : XOk X Δ) {I M H σ env} (G : Gd X.K Δ I M H σ env) {vs : List V} {us : List D} (r : Rps X.K I vs us) {Q : VK} {Qd : DKt} (h : sp us M Qd (fun c fs M' => Δ.Wd c fs env M'))
    (k : ∀ d M' I' H' v, Ext I I' → Gd X.K Δ I' M' H' σ env → Rp X.K I' v d → Qd d M' → Q v H') : liftSp X.K sp vs H Q (WE Δ.W σ) :=
  ⟨Δ.F, I, M, us, Qd, _, G.at_, r, h, fun d M' I' H' v x A r' q => k d M' I' H' v x (G.go x A) r' q, fun c fs M' I' H' dd x A er w => xo.link (G.go x A) er w⟩

/-! ### f(e, ..) -/
def dCall (Wd : DW) (sp : SpD) (dds : List D) (dl : DA) : DE := fun env M Q => dl env M fun us M1 => sp (us ++ dds) M1 Q fun c fs M' => Wd c fs env M'
theorem snd_call (xo : XOk X Δ) (hdd : ∀ I, Rps X.K I dvs dds) (sl : SndA X Δ tl dl) : SndE X Δ (tCallSD (liftSp X.K sp) dvs (WE Δ.W) tl) (dCall Δ.Wd sp dds dl) := fun I M H σ env G Q Qd k q =>
  sl I M H σ env G _ _ (fun us M1 I1 H1 vs x1 G1 r1 q1 => lift_at xo G1 (r1.append (hdd I1)) q1 fun d M' I' H' v x => k d M' I' H' v (x1.trans x)) q
/-- how e, .. is read where no part of it is starred -/
abbrev Args1 (X : Cx) (pos : Pos) (e : Expr) (es : List Expr) : Prop := (starEach (e :: es) X.env = (false, eval e X.env) :: starEach es X.env) ∧ (backTo pos (starEach es X.env)).any (·.1) = false
/-- a name other than the one that the compiler keeps for itself -/
abbrev OwnName (x : Str) : Prop := (x == ("__debug__" : Str)) = false
theorem pd_callD (F : FnOk X.prog X.w X.K X.mg X.base (L2.CX X.prog X.w) k f fd ps (liftSp X.K sp)) (hr : Room k X.A) (hg : Gl X x) (hm : X.mg x = some (.ref f)) (hk : PySem.W.keepIn X.K (.ref f) = true) (hb : Binds X.K fd ps ds) (hd : Vals dvs ds) (hdd : ∀ I, Rps X.K I dvs dds) (xo : XOk X Δ)
    (ha : PDa X Δ (e :: es) tl dl) (own : OwnName x := by decide) (read : Args1 X pos e es := by exact ⟨rfl, rfl⟩) : PDe X Δ (.Call (.Name x p) (e :: es) [] pos) (tCallSD (liftSp X.K sp) dvs (WE Δ.W) tl) (dCall Δ.Wd sp dds dl) :=
  ⟨pe_callSD F hr hg hm hk hb hd (passAt xo.takes) ha.1 own read.1 read.2, snd_call xo hdd ha.2⟩
theorem pd_call (F : FnOk X.prog X.w X.K X.mg X.base (L2.CX X.prog X.w) k f fd ps (liftSp X.K sp)) (hr : Room k X.A) (hg : Gl X x) (hm : X.mg x = some (.ref f)) (hk : PySem.W.keepIn X.K (.ref f) = true) (hb : Binds X.K fd ps []) (xo : XOk X Δ)
    (ha : PDa X Δ (e :: es) tl dl) (own : OwnName x := by decide) (read : Args1 X pos e es := by exact ⟨rfl, rfl⟩) : PDe X Δ (.Call (.Name x p) (e :: es) [] pos) (tCallSD (liftSp X.K sp) [] (WE Δ.W) tl) (dCall Δ.Wd sp [] dl) :=
  pd_callD F hr hg hm hk hb .nil (fun _ => .nil) xo ha own read

/-! ### a call's beginning and its end, seen from the caller -/
/-- f(..) of a module's name: the name gives v, and what calls v answers -/
theorem by_name {v : Value} {args : List Expr} {kws : List Keyword} {t : TE} (hg : Gl X x) (hm : X.mg x = some v) (own : OwnName x)
    (go : ∀ pins s σ H Q, Inv X pins σ H s → t σ H Q → wpAny (model X.prog X.w) X.A (callWith pos v [] (backTo pos (starEach args X.env)) (backToKw pos (keywordEach kws X.env))) (EP X pins σ Q) X.xe s) : PE X (.Call (.Name x p) args kws pos) t :=
  ⟨fun pins s σ H Q I q => wpAny_Call_Name_kw (ld_glob I hg hm (go pins s σ H Q I q) own)⟩
/-- what a called thing hands back or raises, turned to the caller's own posts -/
theorem at_end {CX : CXT} {E : XK} {pins : List (Addr × Obj)} {σ : L2.St} {H : Hp} {s : Shared} {Q : VK} {R : Value → Shared → Prop} (hx : PassesAt CX X σ E) (I : Inv X pins σ H s) (back : ∀ u s', EP X pins σ Q u s' → R u s') :
    ∀ r s', CR CX X.stack X.prog X.w H s Q E r s' → (match r with | .ok (.ret u) => R u s' | .ok _ => False | .error e => X.xe e s')
  | .ok (.ret u), s', h => back u s' (I.after h)
  | .error e, s', h => hx pins H s e s' I h
  | .ok .next, _, h => h.elim
  | .ok .brk, _, h => h.elim
  | .ok .cont, _, h => h.elim

/-! ### f(e, .., k = v, ..) -/
theorem run_fnKS {pins : List (Addr × Obj)} {σ : L2.St} {H : Hp} {s : Shared} {Q : VK} {us ws : List Value} {vs zs : List V} {CX : CXT} {n : Nat} {ks : List Str} {g : List Value → List Value → List Value} {gV : List V → List V → List V} {sp : Sp} {E : L2.St → XK} (F : FnOk X.prog X.w X.K X.mg X.base CX k f fd ps sp) (hr : Room k X.A) (hb : KBn X.K fd ps n ks g gV) (hx : PassesAt CX X σ (E σ))
    (I : Inv X pins σ H s) (r : Vals vs us) (rz : Vals zs ws) (l1 : vs.length = n) (l2 : zs.length = ks.length) (h : sp (gV vs zs) H Q (E σ)) : wpAny (model X.prog X.w) X.A (call (.ref f) us (ks.zip ws)) (EP X pins σ Q) X.xe s :=
  have there := F.run X.A X.stack s H ⟨us, ks.zip ws⟩ _ _ Q (E σ) hr I.env0 (hb.to s us ws I.kIn (r.length ▸ l1) (rz.length ▸ l2)) (hb.rel r rz) h
  wpAny_call (codeAny_mono there (at_end hx I fun _ _ q => q))
def tCallKS (n m : Nat) (sp : Sp) (gV : List V → List V → List V) (E : L2.St → XK) (t tk : TA) : TE := fun σ H Q => t σ H fun vs H1 => tk σ H1 fun zs H2 => vs.length = n ∧ zs.length = m ∧ sp (gV vs zs) H2 Q (E σ)
/-- how e, .., k = v, .. is read: no part is starred, the names are ks -/
abbrev ArgsK (X : Cx) (pos : Pos) (e : Expr) (es : List Expr) (kws : List Keyword) (ks : List Str) : Prop :=
  (starEach (e :: es) X.env = (false, eval e X.env) :: starEach es X.env) ∧ (((backTo pos (starEach (e :: es) X.env)).any (·.1) || (backToKw pos (keywordEach kws X.env)).any (·.1.isNone)) = false) ∧
  ((backToKw pos (keywordEach kws X.env)).all (·.1.isSome) = true) ∧ (backToKw pos (keywordEach kws X.env)).filterMap (·.1) = ks
theorem pe_callKS {CX : CXT} {n : Nat} {ks : List Str} {g : List Value → List Value → List Value} {gV : List V → List V → List V} {sp : Sp} {E : L2.St → XK} {kws : List Keyword} {t tk : TA} (F : FnOk X.prog X.w X.K X.mg X.base CX k f fd ps sp) (hr : Room k X.A) (hg : Gl X x) (hm : X.mg x = some (.ref f)) (hk : PySem.W.keepIn X.K (.ref f) = true) (hb : KBn X.K fd ps n ks g gV) (hx : ∀ σ, PassesAt CX X σ (E σ))
    (ha : PA X (e :: es) t) (hkw : PK X kws tk) (own : OwnName x) (read : ArgsK X pos e es kws ks) : PE X (.Call (.Name x p) (e :: es) kws pos) (tCallKS n ks.length sp gV E t tk) := by
  obtain ⟨first, plain, named, rfl⟩ := read
  refine by_name hg hm own fun pins s σ H Q I q => PySem.W.callWith_KW I.ok.mod.kin hk named ?_ plain first
  refine thn (ha.run pos pins s σ H _ I q) fun _ s1 ⟨_, H1, I1, r1, q1⟩ => thn (hkw.run pos pins s1 σ H1 _ I1 q1) fun _ _ ⟨_, _, I2, r2, l1, l2, q2⟩ => ?_
  exact ⟨I2.kIn, run_fnKS F hr hb (hx σ) I2 r1 r2 l1 l2 q2⟩
def PDk (X : Cx) (Δ : DC) (kws : List Keyword) (t : TA) (d : DA) : Prop := PK X kws t ∧ SndA X Δ t d
theorem pdk_nil : PDk X Δ [] tNil dNil := ⟨pk_nil, fun I M H σ env G Q Qd k q => k [] M I H [] (Ext.refl I) G .nil q⟩
theorem pdk_cons {nm : Option Str} {kpos : Pos} {kws : List Keyword} (ha : PDe X Δ e ta da) (hr : PDk X Δ kws tl dl) : PDk X Δ (⟨nm, e, kpos⟩ :: kws) (tCons ta tl) (dCons da dl) := by
  obtain ⟨pa, sa⟩ := ha
  obtain ⟨pr, sr⟩ := hr
  refine ⟨pk_cons pa pr, fun I M H σ env G Q Qd k q => sa I M H σ env G _ _ (fun d M1 I1 H1 v x1 G1 r1 q1 => sr I1 M1 H1 σ env G1 _ _ (fun ds M2 I2 H2 vs x2 G2 r2 q2 => ?_) q1) q⟩
  exact k _ _ _ _ _ (x1.trans x2) G2 (.cons (r1.ext x2) r2) q2
def dCallK (Wd : DW) (n m : Nat) (sp : SpD) (gD : List D → List D → List D) (dl dk : DA) : DE := fun env M Q => dl env M fun us M1 => dk env M1 fun zs M2 => us.length = n ∧ zs.length = m ∧ sp (gD us zs) M2 Q fun c fs M' => Wd c fs env M'
theorem pd_callK {n : Nat} {ks : List Str} {g : List Value → List Value → List Value} {gV : List V → List V → List V} {gD : List D → List D → List D} {kws : List Keyword} {tk : TA} {dk : DA} (F : FnOk X.prog X.w X.K X.mg X.base (L2.CX X.prog X.w) k f fd ps (liftSp X.K sp)) (hr : Room k X.A) (hg : Gl X x) (hm : X.mg x = some (.ref f)) (hk : PySem.W.keepIn X.K (.ref f) = true) (hb : KBn X.K fd ps n ks g gV)
    (hgd : ∀ {I vs us zs ws}, Rps X.K I vs us → Rps X.K I zs ws → Rps X.K I (gV vs zs) (gD us ws)) (xo : XOk X Δ)
    (ha : PDa X Δ (e :: es) tl dl) (hkw : PDk X Δ kws tk dk) (own : OwnName x := by decide) (read : ArgsK X pos e es kws ks := by exact ⟨rfl, rfl, rfl, rfl⟩) :
    PDe X Δ (.Call (.Name x p) (e :: es) kws pos) (tCallKS n ks.length (liftSp X.K sp) gV (WE Δ.W) tl tk) (dCallK Δ.Wd n ks.length sp gD dl dk) :=
  ⟨pe_callKS F hr hg hm hk hb (passAt xo.takes) ha.1 hkw.1 own read, fun I M H σ env G Q Qd k q => ha.2 I M H σ env G _ _ (fun us M1 I1 H1 vs x1 G1 r1 q1 => hkw.2 I1 M1 H1 σ env G1 _ _ (fun zs M2 I2 H2 ws x2 G2 r2 ⟨l1, l2, q2⟩ =>
    ⟨r1.length.trans l1, r2.length.trans l2, lift_at xo G2 (hgd (r1.ext x2) r2) q2 fun d M' I' H' v x => k d M' I' H' v ((x1.trans x2).trans x)⟩) q1) q⟩

/-! ### o.m(e, ..), o.f, o.f = e, C(e, ..) -/
def insOf (M : Mem) : D → Option (Addr × List (Str × D))
  | .ins C fs => some (C, fs)
  | .ref p => match M p with | some (.ins C fs) => some (C, fs) | _ => none
  | _ => none
theorem insOf_ref {M : Mem} {p C : Addr} {fs} (h : M p = some (.ins C fs)) : insOf M (.ref p) = some (C, fs) := by simp [insOf, h]
theorem ins_of {K : PySem.W.Frag} {F I H : Hp} {M : Mem} (A : At K F I M H) {v : V} {d : D} {C fs} (r : Rp K I v d) (h : insOf M d = some (C, fs)) : ∃ a dx fvs, v = .ref a ∧ H a = some (.ins C dx fvs) ∧ RpF K I fvs fs := by
  cases d with
  | ins C' fs' => cases h; obtain ⟨a, dx, fvs, rfl, h1, _, h2⟩ := r.ins_inv; exact ⟨a, dx, fvs, rfl, A.ex _ _ h1, h2⟩
  | ref p =>
    have h' : (match M p with | some (.ins C fs) => some (C, fs) | _ => none) = some (C, fs) := h
    split at h'
    · rename_i e
      cases h'
      obtain ⟨_, dx, fvs, h1, _, _, h2⟩ := A.mem _ _ e
      exact ⟨p, dx, fvs, r.ref_inv, h1, h2⟩
    · cases h'
  | _ => cases h
/-- how o.m(es) is read -/
abbrev AsMeth (X : Cx) (o : Expr) (m : Str) (apos pos : Pos) (es : List Expr) (pl : Sem Bool) : Prop := eval (.Call (.Attribute o m apos) es [] pos) X.env =
  (eval o X.env >>= fun v => standAt apos.atName >>= fun _ => holding [v] (getMethod v m pl) >>= fun
    | (g, pre) => callWith pos g pre (backTo pos (starEach es X.env)) (backToKw pos (keywordEach [] X.env)))
/-- o.m(..) of an own class's instance: the def is found, the instance goes ahead of what is handed on -/
def tOfIns (C : Addr) (m : Str) (ta : TE) (go : V → TE) : TE := fun σ H Q => ta σ H fun x H1 => ∃ a dx fs, x = .ref a ∧ H1 a = some (.ins C dx fs) ∧ fs.lookup m = none ∧ go x σ H1 Q
theorem by_ins {pl : Sem Bool} {go : V → TE} (he : PE X o ta) (c : Cls X.K C) (hm : Meth X.K C m f) (read : AsMeth X o m apos pos es pl)
    (on : ∀ pins s σ H Q a, Inv X pins σ H s → go (.ref a) σ H Q → wpAny (model X.prog X.w) X.A (callWith pos (.ref f) [.ref a] (backTo pos (starEach es X.env)) (backToKw pos (keywordEach [] X.env))) (EP X pins σ Q) X.xe s) : PE X (.Call (.Attribute o m apos) es [] pos) (tOfIns C m ta go) :=
  ⟨fun pins s σ H Q I q => PySem.W.methodCall_KW (pl := pl) (thn (he.run pins s σ H _ I q) fun
    | _, s1, ⟨_, H1, I1, same, a, dx, fs, isRef, at1, free, q1⟩ => by
      cases isRef
      cases same
      exact getmeth_ok I1 at1 c hm free (on pins s1 σ H1 Q a I1 q1)) read⟩
abbrev tMethS (C : Addr) (m : Str) (sp : Sp) (dvs : List V) (E : L2.St → XK) (ta : TE) (t : TA) : TE := tOfIns C m ta fun x σ H Q => t σ H fun vs H2 => sp (x :: (vs ++ dvs)) H2 Q (E σ)
theorem pe_methS {CX : CXT} {sp : Sp} {E : L2.St → XK} {t : TA} {pl : Sem Bool} (he : PE X o ta) (c : Cls X.K C) (hm : Meth X.K C m f) (F : FnOk X.prog X.w X.K X.mg X.base CX k f fd ps sp) (hr : Room k X.A) (hb : Binds X.K fd ps ds) (hd : Vals dvs ds) (hx : ∀ σ, PassesAt CX X σ (E σ)) (ha : PA X (e :: es) t)
    (args : Args1 X pos e es) (read : AsMeth X o m apos pos (e :: es) pl) : PE X (.Call (.Attribute o m apos) (e :: es) [] pos) (tMethS C m sp dvs E ta t) :=
  by_ins he c hm read fun pins s σ H Q a I q => PySem.W.callWith_K I.ok.mod.kin hm.kp (thn (ha.run pos pins s σ H _ I q) fun us _ ⟨vs, _, I2, r, q2⟩ => ⟨I2.kIn, run_fnSD (us := .ref a :: us) (vs := .ref a :: vs) F hr hb hd (hx σ) I2 (.cons rfl r) q2⟩) args.1 args.2
theorem pe_methS0 {CX : CXT} {sp : Sp} {E : L2.St → XK} {pl : Sem Bool} (he : PE X o ta) (c : Cls X.K C) (hm : Meth X.K C m f) (F : FnOk X.prog X.w X.K X.mg X.base CX k f fd ps sp) (hr : Room k X.A) (hb : Binds X.K fd ps ds) (hd : Vals dvs ds) (hx : ∀ σ, PassesAt CX X σ (E σ))
    (read : AsMeth X o m apos pos [] pl) : PE X (.Call (.Attribute o m apos) [] [] pos) (tMethS C m sp dvs E ta tNil) :=
  by_ins he c hm read fun pins s σ H Q a I q => PySem.W.callWith_K0 I.kIn hm.kp (run_fnSD (us := [.ref a]) (vs := [.ref a]) F hr hb hd (hx σ) I (.cons rfl .nil) q)
def dMeth (Wd : DW) (C : Addr) (m : Str) (sp : SpD) (dds : List D) (da : DE) (dl : DA) : DE := fun env M Q => da env M fun x M1 => ∃ fs, insOf M1 x = some (C, fs) ∧ fs.lookup m = none ∧ dl env M1 fun us M2 => sp (x :: (us ++ dds)) M2 Q fun c fs M' => Wd c fs env M'
theorem snd_meth (xo : XOk X Δ) (hdd : ∀ I, Rps X.K I dvs dds) (so : SndE X Δ to da) (sl : SndA X Δ tl dl) : SndE X Δ (tMethS C m (liftSp X.K sp) dvs (WE Δ.W) to tl) (dMeth Δ.Wd C m sp dds da dl) := fun I M H σ env G Q Qd k q =>
  so I M H σ env G _ _ (fun x M1 I1 H1 v x1 G1 r1 ⟨fs, e1, e2, q1⟩ => by
    obtain ⟨a, dx, fvs, rfl, h1, h2⟩ := ins_of G1.at_ r1 e1
    refine ⟨a, dx, fvs, rfl, h1, h2.none e2, sl I1 M1 H1 σ env G1 _ _ (fun us M2 I2 H2 vs x2 G2 r2 q2 => ?_) q1⟩
    exact lift_at xo G2 (.cons (r1.ext x2) (r2.append (hdd I2))) q2 fun d M' I' H' v x => k d M' I' H' v ((x1.trans x2).trans x)) q
theorem pd_meth {pl : Sem Bool} (ho : PDe X Δ o to da) (c : Cls X.K C) (hm : Meth X.K C m f) (F : FnOk X.prog X.w X.K X.mg X.base (L2.CX X.prog X.w) k f fd ps (liftSp X.K sp)) (hr : Room k X.A) (hb : Binds X.K fd ps []) (xo : XOk X Δ) (ha : PDa X Δ (e :: es) tl dl)
    (args : Args1 X pos e es := by exact ⟨rfl, rfl⟩) (read : AsMeth X o m apos pos (e :: es) pl := by rfl) : PDe X Δ (.Call (.Attribute o m apos) (e :: es) [] pos) (tMethS C m (liftSp X.K sp) [] (WE Δ.W) to tl) (dMeth Δ.Wd C m sp [] da dl) :=
  ⟨pe_methS ho.1 c hm F hr hb .nil (passAt xo.takes) ha.1 args read, snd_meth xo (fun _ => .nil) ho.2 ha.2⟩
theorem pd_meth0 {pl : Sem Bool} (ho : PDe X Δ o to da) (c : Cls X.K C) (hm : Meth X.K C m f) (F : FnOk X.prog X.w X.K X.mg X.base (L2.CX X.prog X.w) k f fd ps (liftSp X.K sp)) (hr : Room k X.A) (hb : Binds X.K fd ps []) (xo : XOk X Δ)
    (read : AsMeth X o m apos pos [] pl := by rfl) : PDe X Δ (.Call (.Attribute o m apos) [] [] pos) (tMethS C m (liftSp X.K sp) [] (WE Δ.W) to tNil) (dMeth Δ.Wd C m sp [] da dNil) :=
  ⟨pe_methS0 ho.1 c hm F hr hb .nil (passAt xo.takes) read, snd_meth xo (fun _ => .nil) ho.2 pda_nil.2⟩
def dFld (C : Addr) (f : Str) (da : DE) : DE := fun env M Q => da env M fun x M1 => ∃ fs, insOf M1 x = some (C, fs) ∧ ∃ d, fs.lookup f = some d ∧ Q d M1
theorem pd_fld {fn : Str} (ho : PDe X Δ o to da) (cl : Cls X.K C) (na : NoAttr X.K C fn) (hb : attributeBase o fn X.env (eval o X.env) = eval o X.env := by rfl) : PDe X Δ (.Attribute o fn pos) (tFld X.K to fn) (dFld C fn da) :=
  ⟨pe_fld ho.1 hb, fun I M H σ env G Q Qd k q => ho.2 I M H σ env G _ _ (fun x M1 I1 H1 v x1 G1 r1 ⟨fs, e1, d, e2, q1⟩ => by
    obtain ⟨a, dx, fvs, rfl, h1, h2⟩ := ins_of G1.at_ r1 e1
    obtain ⟨u, e3, ru⟩ := h2.look e2
    exact ⟨a, C, dx, fvs, u, rfl, h1, cl, na, e3, k _ _ _ _ _ x1 G1 ru q1⟩) q⟩
def dSetF (C : Addr) (f : Str) (da de : DE) : DS := fun T env M => de env M fun d M1 => da env M1 fun x M2 => ∃ p fs, x = .ref p ∧ M2 p = some (.ins C fs) ∧ fs.length < 1000 ∧ T.nx env (mset M2 p (.ins C (putD f d fs)))
theorem pds_fld {fn : Str} {value : Expr} {pos' : Pos} (ho : PDe X Δ o to da) (hv : PDe X Δ value te de) (cl : Cls X.K C) (na : NoAttr X.K C fn) (hs : swapsWith value (some (.Attribute o fn pos')) pos.line X.env = pure false := by rfl) :
    PDs X Δ (.Assign [.Attribute o fn pos'] value pos) (sFld X.K to te fn) (dSetF C fn da de) :=
  ⟨ps_fld ho.1 hv.1 hs, fun I M H σ env G T Td R q => hv.2 I M H σ env G _ _ (fun d M1 I1 H1 v x1 G1 r1 q1 => ho.2 I1 M1 H1 σ env G1 _ _ (fun x M2 I2 H2 u x2 G2 r2 ⟨p, fs, e1, e2, hl, q2⟩ => by
    subst e1
    rw [r2.ref_inv]
    obtain ⟨hI, dx, fvs, h1, h2, h3, h4⟩ := G2.at_.mem _ _ e2
    refine ⟨p, C, dx, fvs, rfl, h1, cl, na, by rw [h4.length]; exact hl, R.nx _ _ _ _ _ (x1.trans x2) (G2.go (Ext.refl I2) (G2.at_.write (m' := .ins C (putD fn d fs)) e2 (fun _ z => by cases z) ⟨dx, putF fn v fvs, upd_same, ?_, ?_, (RpF.put (r1.ext x2) h4)⟩)) q2⟩
    · rw [upd_ne (mem_ne2 h3 e2 (by intro z; cases z))]; exact h2
    · rw [mset_ne (mem_ne2 h3 e2 (by intro z; cases z))]; exact h3) q1) q⟩
def tMakeS (C : Addr) (sp : Sp) (dvs : List V) (E : L2.St → XK) (t : TA) : TE := fun σ H Q => t σ H fun vs H1 => ∀ x dx, H1 x = none → H1 dx = none → dx ≠ x →
  sp (.ref x :: (vs ++ dvs)) (upd (upd H1 dx (.own x)) x (.ins C dx [])) (fun v H2 => v = .non ∧ Q (.ref x) H2) (E σ)
theorem run_makeS {CX : CXT} {sp : Sp} {E : XK} {pins : List (Addr × Obj)} {σ : L2.St} {H : Hp} {s : Shared} {Q : VK} {us : List Value} {vs : List V} (mk : Mk X.K C f) (F : FnOk X.prog X.w X.K X.mg X.base CX k f fd ps sp) (hr : Room (k + 1) X.A) (hb : Binds X.K fd ps ds) (hd : Vals dvs ds)
    (hx : PassesAt CX X σ E) (I : Inv X pins σ H s) (r : Vals vs us)
    (all : ∀ x dx, H x = none → H dx = none → dx ≠ x → sp (.ref x :: (vs ++ dvs)) (upd (upd H dx (.own x)) x (.ins C dx [])) (fun v H2 => v = .non ∧ Q (.ref x) H2) E) : wpAny (model X.prog X.w) X.A (call (.ref C) us) (EP X pins σ Q) X.xe s := by
  have nw : ∃ N, N = s.heap.objs.size := ⟨_, rfl⟩
  obtain ⟨N, eN⟩ := nw
  have free : ∀ b, N ≤ b → H b = none := fun b z => I.hok.fresh (eN ▸ z)
  have here := all (N + 1) N (free _ (Nat.le_succ N)) (free N (Nat.le_refl N)) (Nat.ne_of_lt (Nat.lt_succ_self N))
  subst eN
  have made := Inv.made (C := C) I
  have given : Vals (V.ref (s.heap.objs.size + 1) :: (vs ++ dvs)) (Value.ref (s.heap.objs.size + 1) :: us ++ ds) := .cons rfl (r.append hd)
  have run := F.run _ X.stack _ _ ⟨Value.ref (s.heap.objs.size + 1) :: us, []⟩ _ _ _ E (hr.make C us []) (made.env0.make C us []) (hb _ (Value.ref (s.heap.objs.size + 1) :: us) made.kIn (given.length ▸ F.len _ _ _ _ here)) given here
  exact wpAny_call (make_map (f := f) I.kIn mk.makes mk.init (beq_iff_eq.mp mk.fn) (codeAny_mono run fun
    | .ok (.ret u), s', h => by
      obtain ⟨_, H', I3, isNon, rfl, q⟩ := made.after h
      exact ⟨isNon, .ref _, H', I3, rfl, q⟩
    | .error e, s', h => hx pins _ _ e s' made h
    | .ok .next, _, h => h.elim
    | .ok .brk, _, h => h.elim
    | .ok .cont, _, h => h.elim))
theorem pe_makeS {CX : CXT} {sp : Sp} {E : L2.St → XK} {t : TA} (mk : Mk X.K C f) (F : FnOk X.prog X.w X.K X.mg X.base CX k f fd ps sp) (hr : Room (k + 1) X.A) (hg : Gl X x) (hm : X.mg x = some (.ref C)) (hb : Binds X.K fd ps ds) (hd : Vals dvs ds) (hx : ∀ σ, PassesAt CX X σ (E σ))
    (ha : PA X (e :: es) t) (own : OwnName x) (args : Args1 X pos e es) : PE X (.Call (.Name x p) (e :: es) [] pos) (tMakeS C sp dvs E t) :=
  by_name hg hm own fun pins s σ H Q I q => PySem.W.callWith_K I.ok.mod.kin mk.kp (thn (ha.run pos pins s σ H _ I q) fun _ _ ⟨_, _, I1, r, q1⟩ => ⟨I1.kIn, run_makeS mk F hr hb hd (hx σ) I1 r q1⟩) args.1 args.2
def dMake (Wd : DW) (C : Addr) (sp : SpD) (dl : DA) : DE := fun env M Q => dl env M fun us M1 => ∀ p dx, M1 p = none → M1 dx = none → dx ≠ p →
  sp (.ref p :: us) (mset (mset M1 dx (.own p)) p (.ins C [])) (fun v M2 => v = .non ∧ FzV Q (.ref p) M2) fun c fs M' => FzV (fun _ M'' => Wd c fs env M'') .non M'
theorem pd_make (Mk' : Mk X.K C f) (F : FnOk X.prog X.w X.K X.mg X.base (L2.CX X.prog X.w) k f fd ps (liftSp X.K sp)) (hr : Room (k + 1) X.A) (hg : Gl X x) (hm : X.mg x = some (.ref C)) (hb : Binds X.K fd ps []) (xo : XOk X Δ)
    (ha : PDa X Δ (e :: es) tl dl) (own : OwnName x := by decide) (args : Args1 X pos e es := by exact ⟨rfl, rfl⟩) : PDe X Δ (.Call (.Name x p) (e :: es) [] pos) (tMakeS C (liftSp X.K sp) [] (WE Δ.W) tl) (dMake Δ.Wd C sp dl) := by
  refine ⟨pe_makeS Mk' F hr hg hm hb .nil (passAt xo.takes) ha.1 own args, fun I M H σ env G Q Qd k q => ha.2 I M H σ env G _ _ (fun us M1 I1 H1 vs x1 G1 r1 q1 => ?_) q⟩
  intro p dx hp hdx hne
  have A1 := G1.at_
  have A2 : At X.K Δ.F I1 (mset (mset M1 dx (.own p)) p (.ins C [])) (upd (upd H1 dx (.own p)) p (.ins C dx [])) := by
    have B := A1.newM hdx (.own p) (.own p) ⟨_, upd_same, .inl rfl⟩
    refine B.newM (by rw [upd_ne hne.symm]; exact hp) (.ins C dx []) (.ins C []) ⟨dx, [], upd_same, by rw [upd_ne hne, upd_same], by rw [mset_ne hne, mset_same], .nil⟩
  refine ⟨Δ.F, I1, _, .ref p :: us, _, _, A2, .cons (.ref p) (by rw [List.append_nil]; exact r1), q1 p dx (A1.freeM hp) (A1.freeM hdx) hne, fun d M' I' H' v x A r' q => ?_, fun c fs M' I' H' dd x A er w => ?_⟩
  · obtain ⟨e1, q⟩ := q
    subst e1
    refine ⟨r'.non_inv, ?_⟩
    obtain ⟨I2, M2, d', x2, A3, r3, q3⟩ := fzv q A (v := .ref p) (.ref p)
    exact k _ _ _ _ _ ((x1.trans x).trans x2) (G1.go (x.trans x2) A3) r3 q3
  · obtain ⟨I2, M2, d', x2, A3, r3, q3⟩ := fzv w A (v := .non) .non
    refine xo.link (G1.go (x.trans x2) A3) ?_ q3
    cases dd with
    | none => exact er
    | some dd => obtain ⟨fvs, e1, e2⟩ := er; exact ⟨fvs, x2.xd e1, e2.ext x2⟩

/-! ### raise -/
def dRaise (Wd : DW) (C : Addr) : DS := fun _ env M => Wd (.ref C) [] env M
theorem pds_raise {mt : Str} {j : Nat} {p2 cpos : Pos} {bmB : List Value} {B newId initId : String} (F : ExcBaseFacts B newId initId bmB) (q : PySem.W.excIn X.K C bmB newId = true) (gC : X.mg x = some (.ref C)) (kC : PySem.W.keepIn X.K (.ref C) = true) (r : Raises X (.ref C)) (hg : Gl X x) (hc : X.calm = true) (xo : XOk X Δ)
    (hdb : (x == ("__debug__" : Str)) = false := by decide) : PDs X Δ (.Raise (some (.Call (.Name x p) [.Constant (.str mt) j p2] [] cpos)) none pos) (fun _ σ H => Δ.W (.ref C) none σ H) (dRaise Δ.Wd C) :=
  ⟨ps_raise hc xo.takes (pmk_own F q gC kC r hg hdb), fun I M H σ env G T Td R q => xo.link G (d := none) rfl q⟩
theorem At.same {K : PySem.W.Frag} {F I H : Hp} {M : Mem} (A : At K F I M H) {H' : Hp} (hH : ∀ b u, H b = some u → H' b = some u) : At K F I M H' where
  ex := fun b u e => hH _ _ (A.ex _ _ e)
  mem := fun b u e => ⟨(A.mem _ _ e).1, (A.mem _ _ e).2.mono (Ext.refl I) (fun c v _ hc => hH _ _ hc) (fun c hc => hc)⟩
  fr := fun b u e => let ⟨z, h2, h3⟩ := A.fr _ _ e; ⟨hH _ _ z, h2, h3⟩
/-- the promise of an exception's __init__(self, f): self.f = f -/
def spOex (K : PySem.W.Frag) (fn : Str) : Sp := fun vs H Q _ => ∃ (a C : Addr) (y : V), vs = [.ref a, y] ∧ OexC K C ∧ PySem.W.findIn K (.ref C) fn = some none ∧ H a = some (exo a C none) ∧ ∀ dx, H dx = none → dx ≠ a → Q .non (upd (upd H dx (exd dx [(fn, y)])) a (exo a C (some dx)))
def dRaiseI (Wd : DW) (C : Addr) (fn : Str) (de : DE) : DS := fun _ env M => de env M fun d M1 => Wd (.ref C) [(fn, d)] env M1
theorem pds_raiseI {fn : Str} {fI : Addr} {cpos : Pos} (T : OexC X.K C) (iC : PySem.W.findIn X.K (.ref C) "__init__" = some (some (.ref fI))) (tI : PySem.W.typeIn X.K (.ref fI) = some (.type "function"))
    (F1 : FnOk X.prog X.w X.K X.mg X.base CX0 k fI fd ps (spOex X.K fn)) (hno : PySem.W.findIn X.K (.ref C) fn = some none) (hr : Room (k + 1) X.A) (hb : Binds X.K fd ps []) (hg : Gl X x) (hm : X.mg x = some (.ref C)) (hc : X.calm = true) (xo : XOk X Δ) (ha : PDe X Δ e te de)
    (hdb : (x == ("__debug__" : Str)) = false := by decide) (he : starEach [e] X.env = (false, eval e X.env) :: starEach [] X.env := by rfl) (hpl : (backTo cpos (starEach [] X.env)).any (·.1) = false := by rfl) :
    PDs X Δ (.Raise (some (.Call (.Name x p) [e] [] cpos)) none pos) (fun _ σ H => tMkO C (spOex X.K fn) [] (tCons te tNil) σ H fun cls d H' => Δ.W cls d σ H') (dRaiseI Δ.Wd C fn de) := by
  refine ⟨ps_raise hc xo.takes (pmk_oex T iC tI F1 hr hb .nil (fun _ _ _ _ _ _ _ h => h.elim) hg hm (pa_cons ha.1 pa_nil he) hdb he hpl), fun I M H σ env G T' Td R q => ha.2 I M H σ env G _ _ (fun d M1 I1 H1 v x1 G1 r1 q1 => ?_) q⟩
  refine ⟨by show 1 ≤ 1000; omega, fun a ha1 => ⟨a, C, v, rfl, T, hno, upd_same, fun dx hdx hne => ⟨rfl, dx, [(fn, v)], upd_same, by rw [upd_ne hne, upd_same], by rw [upd_ne hne] at hdx; exact hdx, ?_⟩⟩⟩
  have hdx' : H1 dx = none := by rw [upd_ne hne] at hdx; exact hdx
  have x2 : Ext I1 (upd I1 dx (.xd [(fn, v)])) := Ext.new (G1.at_.freeI hdx')
  refine xo.link (fs := [(fn, d)]) (d := some dx) (G1.go x2 ((G1.at_.newI hdx' (.xd [(fn, v)])).same (H' := _) fun b u hb0 => ?_)) ⟨[(fn, v)], upd_same, .cons (r1.ext x2) .nil⟩ q1
  have hda : dx ≠ a := hne
  have hba : b ≠ a := fun z => by rw [z, upd_ne hda.symm, ha1] at hb0; cases hb0
  by_cases hb : b = dx
  · subst hb
    rw [upd_same] at hb0 ⊢
    exact hb0
  · rw [upd_ne hb] at hb0
    rw [upd_ne hb, del_ne hba, upd_ne hba, upd_ne hb, upd_ne hba]
    exact hb0
end

/-! ### a def of the text keeps its promise -/
def startD (N : List Str) (ds : List D) : Env := ds.map some ++ List.replicate (N.length - ds.length) none
theorem envr_start {K : PySem.W.Frag} {I : Hp} {N : List Str} {vs : List V} {ds : List D} (r : Rps K I vs ds) : EnvR K I (L2.start N vs) (startD N ds) := by
  unfold L2.start startD
  have hl := r.length
  refine ⟨by simp [hl], fun i d h => ?_⟩
  by_cases hi : i < ds.length
  · rw [List.getElem?_append_left (by simpa using hi)] at h
    rw [List.getElem?_append_left (by rw [List.length_map, hl]; exact hi)]
    rw [List.getElem?_map] at h ⊢
    cases e : ds[i]? with
    | none => rw [e] at h; exact nomatch h
    | some d' =>
      rw [e] at h
      cases h
      obtain ⟨v, hv, rv⟩ := r.get e
      exact ⟨v, by rw [hv]; rfl, rv⟩
  · rw [List.getElem?_append_right (by simpa using hi)] at h
    rw [List.getElem?_replicate] at h
    split at h <;> cases h
section
variable {base : Heap} {mg : Str → Option Value} {K : PySem.W.Frag} {P : Program} {w : World}
/-- the ends of a def's body: what is handed back may be fixed, what is left let go -/
def ends (Q : DKt) : EndsD := { nx := fun _ M => FzV Q .non M, rt := FzV Q }
theorem fn_mk {x qual : Str} {st : Stmt} {f : Addr} {fd : FuncData} {N ps : List Str} {k : Nat} {sp : SpD} (F : Fun K x qual st f fd) (S : FnScope N ps (defScope st)) (len : ∀ ds M Q E, sp ds M Q E → ds.length = ps.length)
    (hbody : ∀ (X : Cx) (Δ : DC) (M : Mem) (ds : List D) (Q : DKt) (E : DX), (∃ cdv A outer s H Ev, X = cxOf (L2.CX P w) P w K mg base N qual (defScope st) f cdv A outer s H Ev ∧ Room k (A.deeper (envOfC qual (defScope st) s.heap.objs.size f cdv))) → XOk X Δ → (Δ.Wd = fun c fs _ M' => FzV (fun _ M'' => E c fs M'') .non M') → sp ds M Q E →
      ∃ t d, PDss X Δ (defBody st) t d ∧ d (ends Q) (startD N ds) M) : FnOk P w K mg base (L2.CX P w) (k + 1) f fd ps (liftSp K sp) := by
  refine F.okX S (fun vs H Q E ⟨F0, I, M, ds, Qd, Ed, A, r, h, _⟩ => r.length.trans (len _ _ _ _ h)) (fun cdv A outer s H vs Q E hr ⟨F0, I, M, ds, Qd, Ed, At0, r, h, hn, hx⟩ => ?_)
  have hX : ∃ X, X = cxOf (L2.CX P w) P w K mg base N qual (defScope st) f cdv A outer s H E := ⟨_, rfl⟩
  obtain ⟨X, eX⟩ := hX
  have XK : X.K = K := by rw [eX]; rfl
  have tk : Takes X (fun cls d _ H => E cls d H) := by
    subst eX
    exact takes_of rfl rfl rfl rfl
  obtain ⟨t, d, pd, q⟩ := hbody X { F := F0, I0 := I, W := fun cls d _ H => E cls d H, Wd := fun c fs _ M' => FzV (fun _ M'' => Ed c fs M'') .non M' } M ds Qd Ed ⟨cdv, A, outer, s, H, E, eX, hr⟩ ⟨tk, fun {I1 M1 H1 σ1 env1 c fs dd} G er w => by
      rw [XK] at G er
      obtain ⟨I2, M2, d', x2, A3, r3, q3⟩ := fzv w G.at_ (v := .non) .non
      refine hx c fs M2 I2 H1 dd (G.base.trans x2) A3 ?_ q3
      cases dd with
      | none => exact er
      | some dd => obtain ⟨fvs, e1, e2⟩ := er; exact ⟨fvs, x2.xd e1, e2.ext x2⟩⟩ rfl h
  subst eX
  refine ⟨t, pd.1, pd.2 I M H _ _ ⟨Ext.refl I, At0, envr_start r⟩ _ (ends Qd) ⟨fun env' M' I' H' σ' x G q' => ?_, fun _ _ _ _ _ _ _ q' => q', fun _ _ _ _ _ _ _ q' => q', fun d' M' I' H' v x b A' r' q' => ?_⟩ q⟩
  · obtain ⟨I2, M2, d', x2, A3, r3, q3⟩ := fzv q' G.at_ (v := .non) .non
    exact hn _ _ _ _ _ (x.trans x2) A3 r3 q3
  · obtain ⟨I2, M2, d', x2, A3, r3, q3⟩ := fzv q' A' r'
    exact hn _ _ _ _ _ (x.trans x2) A3 r3 q3
end
end BB

set_option maxHeartbeats 2000000

/-! enumerate of one thing, whatever begins -/
namespace BBE
open PySem
theorem meets_enum1 {v : Value} {o : Obj} {H : Heap → Prop} (B : Begins v o H) :
    Meets (Builtin.«enumerate.__new__» ⟨[.type "enumerate", v], []⟩) (fun _ R s => H s.heap ∧
      R (.ok (.ret (.ref (s.heap.push o).objs.size))) { s with heap := (s.heap.push o).push { cls := .type "enumerate", data := .fields #[.none, .bool false, .ref s.heap.objs.size, rawInt 0, .none, .none] } }) :=
  .of_wp fun prog w A R ⟨hp, g, d, tk, os⟩ ⟨hv, back⟩ => by
    have sub := sub_enumerate
    have starts : ∀ {A' : Around} {E Q : Value → Shared → Prop}, Q (.ref hp.objs.size) ⟨hp.push o, g, d, tk, os⟩ → wpAny (model prog w) A' (pyIter v) Q E ⟨hp, g, d, tk, os⟩ := fun q => B.iter prog w _ _ _ _ hv q
    wp_walk using starts
    refine wpAny_stack_any (fun _ => wpAny_pure ?_)
    split
    · rename_i c _ _ _ _ _
      rcases Bool.eq_false_or_eq_true (c == Value.type "enumerate") with z | z <;> (rw [z]; wp_walk using starts; exact ⟨_, rfl, back⟩)
    · wp_walk using starts
      exact ⟨_, rfl, back⟩
theorem enum1 {prog : Program} {w : World} {A : Around} {E : Value → Shared → Prop} {s : Shared} {v : Value} {o : Obj} {H : Heap → Prop} {Q : Value → Shared → Prop} (B : Begins v o H) (hv : H s.heap)
    (h : ∀ h', IsEnum h' (s.heap.objs.size + 1) s.heap.objs.size 0 .none → h'.get? s.heap.objs.size = some o → h'.objs.size = s.heap.objs.size + 2 → (∀ b u, s.heap.get? b = some u → h'.get? b = some u) → Q (.ref (s.heap.objs.size + 1)) { s with heap := h' }) :
    wpAny (model prog w) A (call (.type "enumerate") [v]) Q E s := by
  refine callType_new F.called_enumerate (by decide) (F.typeCall_enumerate_1 _) (F.newCall_enumerate_1 _) (fun obj => F.args_object_init_2 obj _) F.entry_enumerate_new (meets_enum1 B) ⟨hv, ?_⟩
  have sz : (s.heap.push o).objs.size = s.heap.objs.size + 1 := Heap.size_push ..
  rw [sz]
  have ie : IsEnum ((s.heap.push o).push { cls := .type "enumerate", data := .fields #[.none, .bool false, .ref s.heap.objs.size, rawInt 0, .none, .none] }) (s.heap.objs.size + 1) s.heap.objs.size 0 .none := by
    rw [← sz]
    exact Heap.get?_push_size (s.heap.push o) rfl
  exact ⟨⟨_, ie, rfl⟩, h _ ie (Heap.get?_push_of_some _ (Heap.get?_push_size _ B.free)) (by rw [Heap.size_push, sz]) fun b u x => Heap.get?_push_of_some _ (Heap.get?_push_of_some _ x)⟩
end BBE

namespace BB
open L2 PySem PySem.Spec PyProof.Rows

/-! ### rows that are walked: what zip and enumerate give out -/
/-- the sources stand as they stood -/
def SeqAt' (K : PySem.W.Frag) (H : Hp) (a : Addr) (xs : List V) : Prop := SqL K H a xs ∨ SqT K H a xs
def ItR (side : Hp → Prop) (n : Nat) (row : Nat → List V) : It :=
  ⟨fun i H => side H ∧ i < n, fun i H v H' => ∃ T, v = .ref T ∧ H T = none ∧ H' = upd H T (.tup (row i)), fun i H => side H ∧ i = n⟩
theorem turn_rows {P : Program} {w : World} {K : PySem.W.Frag} {tg : Expr} {it : Addr} {fp wr : List Addr} {n : Nat} {row : Nat → List V} {side : Hp → Prop} {tn : Nat → Heap → Prop}
    (mem : it ∈ fp) (wr_fp : ∀ b ∈ wr, b ∈ fp) (obj : ∀ i h, tn i h → ∀ b ∈ fp, ∃ o, h.get? b = some o ∧ ∀ v, o.data ≠ .cell v) (keep : ∀ i h h', tn i h → (∀ b ∈ fp, ∀ o, h.get? b = some o → h'.get? b = some o) → tn i h')
    (big : ∀ i, i < n → (row i).length ≤ 1000)
    (step : ∀ (X : Cx), X.prog = P → X.w = w → X.K = K → X.A.handled = none → ∀ i pins s σ H, Inv X pins σ H s → side H → tn i s.heap → ∃ fp' Y St, GoesN P w X.A tg it fp' wr n Y St ∧ St i s.heap ∧ (∀ h, St (i + 1) h → tn (i + 1) h) ∧
      ∀ h₀ v h, Y i h₀ v h → i < n → ∃ T vals, v = .ref T ∧ h₀.objs.size ≤ T ∧ Vals (row i) vals.toList ∧ h.IsTuple T vals)
    (slf : ∀ (A : Around) (i : Nat) (s : Shared) (Q E : Value → Shared → Prop), tn i s.heap → Q (.ref it) s → wpAny (model P w) A (pyIter (.ref it)) Q E s) : Turn P w K tg (ItR side n row) fp it tn where
  mem := mem
  obj := obj
  keep := keep
  self := slf
  item := fun X hP hw hK hc i pins s σ H E I hf st ⟨hs, hi⟩ => by
    obtain ⟨fp', Y, St, G, st', toTn, hY⟩ := step X hP hw hK (I.ok.hd hc) i pins s σ H I hs st
    subst hP hw hK
    refine G.goes i s (fun u s2 => ∃ x H', Inv X pins σ H' s2 ∧ RelV x u ∧ (ItR side n row).yld i H x H' ∧ tn (i + 1) s2.heap ∧ ∀ b ∈ fp, H' b = none) E hi st' fun v h' tk y st2 hk _ => ?_
    obtain ⟨T, vals, rfl, hT, rv, ht⟩ := hY _ _ _ y hi
    have new : ObjOk X.prog X.w (upd H T (.tup (row i))) h' T (.tup (row i)) := ⟨Nat.le_trans (big i hi) (by rw [sizeLine_eq]; omega), vals.toList, rv, (show vals.toList.toArray = vals from Array.toArray_toList) ▸ ht⟩
    refine ⟨.ref T, _, I.turnedNew (t' := tk) (ch := wr) hk (fun b hb => hf b (wr_fp b hb)) hT new, rfl, ⟨T, rfl, I.hok.fresh hT, rfl⟩, toTn _ st2, fun b hb => ?_⟩
    obtain ⟨o, ho, _⟩ := obj i s.heap st b hb
    rw [upd_ne (Nat.ne_of_lt (Nat.lt_of_lt_of_le (Heap.lt_size ho) hT))]
    exact (hf b hb).1
  done := fun X hP hw hK hc i pins s σ H E I hf st ⟨hs, atEnd⟩ => by
    subst atEnd
    obtain ⟨fp', Y, St, G, st', toTn, hY⟩ := step X hP hw hK (I.ok.hd hc) i pins s σ H I hs st
    subst hP hw hK
    exact G.stops s _ E st' fun h' tk hk _ => I.turnedL (t' := tk) (ch := wr) hk fun b hb => hf b (wr_fp b hb)
/-- a list (false) or a tuple (true): its iterator, its items -/
def itObj (t : Bool) (a : Addr) : Obj := match t with
  | true => { cls := .type "tuple_iterator", data := .fields #[.ref a, .int 0 0] }
  | false => { cls := .type "list_iterator", data := .fields #[.ref a, .int 0 0] }
def itAt (t : Bool) (h : Heap) (it a : Addr) (i : Nat) : Prop := match t with
  | true => h.IsTupleIter it a i
  | false => h.IsListIter it a i
def conAt (t : Bool) (h : Heap) (a : Addr) (its : Array Value) : Prop := match t with
  | true => h.IsTuple a its
  | false => h.IsList a its
def sqAt (t : Bool) (K : PySem.W.Frag) (H : Hp) (a : Addr) (xs : List V) : Prop := match t with
  | true => SqT K H a xs
  | false => SqL K H a xs
theorem con_of {X : Cx} {pins : List (Addr × Obj)} {σ : L2.St} {H : Hp} {s : Shared} {t : Bool} {a : Addr} {xs : List V} (I : Inv X pins σ H s) (h : sqAt t X.K H a xs) : ∃ its : List Value, Vals xs its ∧ conAt t s.heap a its.toArray := by
  cases t with
  | true => obtain ⟨its, rv, p, _⟩ := I.tuple h; exact ⟨its, rv, p⟩
  | false => obtain ⟨its, rv, p, _⟩ := I.list h; exact ⟨its, rv, p.isList⟩
theorem begins_of (t : Bool) (a : Addr) (its : Array Value) : Begins (.ref a) (itObj t a) fun h => conAt t h a its := by
  cases t with
  | true => exact begins_tuple a its
  | false => exact begins_list a its
theorem draws_of {prog : Program} {w : World} {A : Around} (t : Bool) (hh : A.handled = none) (it a : Addr) (hne : a ≠ it) (its : Array Value) : Draws prog w A it [it, a] its.size (fun i v => its[i]? = some v) fun i h => itAt t h it a i ∧ conAt t h a its := by
  cases t with
  | true => exact Draws.tuple hh it a hne its
  | false => exact Draws.list hh it a hne its
theorem itAt_obj {t : Bool} {h : Heap} {it a : Addr} {i : Nat} (x : itAt t h it a i) : ∃ o, h.get? it = some o ∧ ∀ v, o.data ≠ .cell v := by
  cases t <;> (obtain ⟨o, ho, _, hd⟩ := x; exact ⟨o, ho, fun v z => by rw [hd] at z; cases z⟩)
theorem itAt_keep {t : Bool} {h h' : Heap} {it a : Addr} {i : Nat} (x : itAt t h it a i) (k : ∀ o, h.get? it = some o → h'.get? it = some o) : itAt t h' it a i := by
  cases t <;> (obtain ⟨o, ho, hr⟩ := x; exact ⟨o, k o ho, hr⟩)
theorem itAt_new {t : Bool} {h : Heap} {it a : Addr} (e : h.get? it = some (itObj t a)) : itAt t h it a 0 := by
  cases t <;> exact ⟨_, e, rfl, rfl⟩
theorem conAt_lt {t : Bool} {h : Heap} {a : Addr} {its : Array Value} (x : conAt t h a its) : a < h.objs.size := by
  cases t with
  | true => obtain ⟨o, ho, _⟩ := x; exact Heap.lt_size ho
  | false => obtain ⟨o, ho, _⟩ := x; exact Heap.lt_size ho
theorem vals_at {xs : List V} {its : List Value} {i : Nat} {u : Value} (r : Vals xs its) (h : its.toArray[i]? = some u) : ∃ x, xs[i]? = some x ∧ RelV x u := by
  have hi : i < its.length := by
    have := (Array.getElem?_eq_some_iff.mp h).1
    simpa using this
  obtain ⟨w, hw, rw'⟩ := r.get (i := i) (x := xs[i]'(by rw [r.length]; exact hi)) (by simp [r.length, hi])
  have e : w = u := by
    have h2 : its[i]? = some u := by simpa using h
    rw [hw] at h2
    exact Option.some.inj h2
  subst e
  exact ⟨_, by simp [r.length, hi], rw'⟩
section
variable {X : Cx}
/-- an iterator's own objects, where all of them lie behind what stood -/
theorem feet {X : Cx} {pins : List (Addr × Obj)} {σ : L2.St} {H : Hp} {s : Shared} {fp : List Addr} (I : Inv X pins σ H s) (beyond : ∀ b ∈ fp, s.heap.objs.size ≤ b) : ∀ b ∈ fp, FpOk X pins H b :=
  fun b mem => have z := beyond b mem; I.fpOk z (I.hok.fresh z)
theorem turn_enumA {P : Program} {w : World} {K : PySem.W.Frag} {elts : List Expr} {kk : Nat} {tpos : Pos} {t : Bool} {a e it : Addr} {xs : List V} (hei : e ≠ it) (hea : e ≠ a) (hia : a ≠ it) :
    Turn P w K (.Tuple elts kk tpos) (ItR (fun H => sqAt t K H a xs) xs.length fun i => [.int (i : Nat), xs.getD i .non]) [e, it] e (fun i h => (∃ old, IsEnum h e it ((0 : Int) + (i : Int)) old) ∧ itAt t h it a i) := by
  refine turn_rows (wr := [e, it]) (by simp) (fun b hb => hb) (fun i h st b hb => ?_) (fun i h h' st k => ?_) (fun i _ => by simp) (fun X hP hw hK hh i pins s σ H I hs st => ?_) (fun A i s Q E st q => ?_)
  · obtain ⟨⟨old, he⟩, hit⟩ := st
    rcases (by simpa using hb : b = e ∨ b = it) with rfl | rfl
    · exact ⟨_, he, fun v z => nomatch z⟩
    · exact itAt_obj hit
  · obtain ⟨⟨old, he⟩, hit⟩ := st
    exact ⟨⟨old, k e (by simp) _ he⟩, itAt_keep hit fun o q => k it (by simp) o q⟩
  · subst hP hw hK
    obtain ⟨its, rv, hc⟩ := con_of I hs
    have D := draws_of (prog := X.prog) (w := X.w) (A := X.A.in1) t hh it a hia its.toArray
    have hl : its.toArray.size = xs.length := by rw [List.size_toArray]; exact rv.length.symm
    have G := GoesN.enumFrom (elts := elts) (x1 := kk) (pos := tpos) 0 D e hei (by simp [hei, hea]) (by simp)
    rw [hl] at G
    refine ⟨_, _, _, G, ⟨st.1, st.2, hc⟩, fun h x => ⟨x.1, x.2.1⟩, fun h₀ v h y hi => ?_⟩
    obtain ⟨T, tk, u, rfl, hT, hu, ht⟩ := y
    obtain ⟨x, hx, rx⟩ := vals_at rv hu
    refine ⟨T, _, rfl, hT, ?_, ht⟩
    have hx' : xs.getD i .non = x := by rw [List.getD_eq_getElem?_getD, hx]; rfl
    show Vals [.int (i : Nat), xs.getD i .non] [.int (0 + (i : Int)) tk, u]
    rw [hx', Int.zero_add]
    exact .cons ⟨tk, rfl⟩ (.cons rx .nil)
  · obtain ⟨⟨old, he⟩, _⟩ := st
    exact wpAny_pyIter_enum he q
def iEnumA (K : PySem.W.Frag) (ta : TA) : TI := fun σ H R => ta σ H fun vs H1 => ∃ t a xs, vs = [.ref a] ∧ sqAt t K H1 a xs ∧ R (ItR (fun H => sqAt t K H a xs) xs.length fun i => [.int (i : Nat), xs.getD i .non]) H1
theorem pi_enumA {e : Expr} {ta : TA} {p pos tpos : Pos} {elts : List Expr} {kk : Nat} (hg : Gl X "enumerate") (hm : X.mg "enumerate" = none) (ha : PA X [e] ta) (hs : starEach [e] X.env = [(false, eval e X.env)] := by rfl) :
    PI X (.Tuple elts kk tpos) (.Call (.Name "enumerate" p) [e] [] pos) (iEnumA X.K ta) := by
  constructor
  intro pins s σ H R I h
  refine Call_ (ld_blt I hg hm boot_enumerate (PyProof.Rows.callWith_type1 (thn (ha.run pos pins s σ H _ I h) fun us s1 hh => ?_) hs rfl))
  obtain ⟨vs, H1, I1, r1, t, a, xs, rfl, hq, q⟩ := hh
  cases r1 with
  | cons r rr =>
    cases rr
    cases r
    obtain ⟨its, rv, hc⟩ := con_of I1 hq
    have hlt := conAt_lt hc
    refine BBE.enum1 (begins_of t a its.toArray) hc fun h' he hit hsz hk => wpAny_pyIter_enum he ?_
    refine ⟨s1.heap.objs.size + 1, [s1.heap.objs.size + 1, s1.heap.objs.size], _, _, H1, rfl, I1.kept (t' := s1.toks) hk, turn_enumA (t := t) (a := a) (Nat.succ_ne_self _) (by have : a < s1.heap.objs.size + 1 := Nat.lt_succ_of_lt hlt; exact (Nat.ne_of_gt this)) (Nat.ne_of_lt hlt), ⟨⟨.none, he⟩, itAt_new hit⟩, feet I1 fun b mem => ?_, q⟩
    rcases (by simpa using mem : b = s1.heap.objs.size + 1 ∨ b = s1.heap.objs.size) with rfl | rfl
    · exact Nat.le_add_right _ _
    · exact Nat.le_refl _
theorem turn_zipA {P : Program} {w : World} {K : PySem.W.Frag} {elts : List Expr} {kk : Nat} {tpos : Pos} {t1 t2 : Bool} {a1 a2 N : Addr} {xs ys : List V} (h1 : a1 < N) (h2 : a2 < N) :
    Turn P w K (.Tuple elts kk tpos) (ItR (fun H => sqAt t1 K H a1 xs ∧ sqAt t2 K H a2 ys) (min xs.length ys.length) fun i => [xs.getD i .non, ys.getD i .non]) [N + 4, N + 2, N + 3, N, N + 1] (N + 4)
      (fun i h => IsZip h (N + 4) (N + 2) (N + 3) .none ∧ IsTupOf2 h (N + 2) (.ref N) (.ref (N + 1)) ∧ (∃ x y, IsTupOf2 h (N + 3) x y) ∧ itAt t1 h N a1 i ∧ itAt t2 h (N + 1) a2 i) := by
  refine turn_rows (wr := [N + 4, N + 3, N, N + 1]) (by simp) (fun b hb => ?_) (fun i h st b hb => ?_) (fun i h h' st k => ?_) (fun i _ => by simp) (fun X hP hw hK hh i pins s σ H I hs st => ?_) (fun A i s Q E st q => ?_)
  · simp only [List.mem_cons, List.not_mem_nil, or_false] at hb ⊢
    rcases hb with z | z | z | z <;> simp [z]
  · obtain ⟨z1, z2, ⟨x, y, z3⟩, z4, z5⟩ := st
    simp only [List.mem_cons, List.not_mem_nil, or_false] at hb
    rcases hb with rfl | rfl | rfl | rfl | rfl
    · exact ⟨_, z1, fun v z => nomatch z⟩
    · exact ⟨_, z2, fun v z => nomatch z⟩
    · exact ⟨_, z3, fun v z => nomatch z⟩
    · exact itAt_obj z4
    · exact itAt_obj z5
  · obtain ⟨z1, z2, ⟨x, y, z3⟩, z4, z5⟩ := st
    exact ⟨k _ (by simp) _ z1, k _ (by simp) _ z2, ⟨x, y, k _ (by simp) _ z3⟩, itAt_keep z4 fun o q => k _ (by simp) o q, itAt_keep z5 fun o q => k _ (by simp) o q⟩
  · subst hP hw hK
    obtain ⟨its1, rv1, hc1⟩ := con_of I hs.1
    obtain ⟨its2, rv2, hc2⟩ := con_of I hs.2
    have D1 := draws_of (prog := X.prog) (w := X.w) (A := X.A.in1) t1 hh N a1 (Nat.ne_of_lt h1) its1.toArray
    have D2 := draws_of (prog := X.prog) (w := X.w) (A := X.A.in1) t2 hh (N + 1) a2 (Nat.ne_of_lt (Nat.lt_succ_of_lt h2)) its2.toArray
    have G := GoesN.zip2 (elts := elts) (x1 := kk) (pos := tpos) (zip_sep2 (N := N) (fp1 := [a1]) (fp2 := [a2]) (by simpa using h1) (by simpa using h2)) D1 D2
    have l1 : its1.toArray.size = xs.length := by rw [List.size_toArray]; exact rv1.length.symm
    have l2 : its2.toArray.size = ys.length := by rw [List.size_toArray]; exact rv2.length.symm
    rw [l1, l2] at G
    obtain ⟨z1, z2, z3, z4, z5⟩ := st
    refine ⟨_, _, _, G, ⟨z1, z2, z3, ⟨z4, hc1⟩, ⟨z5, hc2⟩⟩, fun h x => ⟨x.1, x.2.1, x.2.2.1, x.2.2.2.1.1, x.2.2.2.2.1⟩, fun h₀ v h y hi => ?_⟩
    obtain ⟨T, u1, u2, rfl, hT, hu1, hu2, ht⟩ := y
    obtain ⟨x1, hx1, rx1⟩ := vals_at rv1 hu1
    obtain ⟨x2, hx2, rx2⟩ := vals_at rv2 hu2
    refine ⟨T, _, rfl, hT, ?_, ht⟩
    have e1 : xs.getD i .non = x1 := by rw [List.getD_eq_getElem?_getD, hx1]; rfl
    have e2 : ys.getD i .non = x2 := by rw [List.getD_eq_getElem?_getD, hx2]; rfl
    show Vals [xs.getD i .non, ys.getD i .non] [u1, u2]
    rw [e1, e2]
    exact .cons rx1 (.cons rx2 .nil)
  · exact wpAny_pyIter_zip st.1 q
def iZip2A (K : PySem.W.Frag) (ta : TA) : TI := fun σ H R => ta σ H fun vs H1 => ∃ t1 t2 a1 a2 xs ys, vs = [.ref a1, .ref a2] ∧ sqAt t1 K H1 a1 xs ∧ sqAt t2 K H1 a2 ys ∧
  R (ItR (fun H => sqAt t1 K H a1 xs ∧ sqAt t2 K H a2 ys) (min xs.length ys.length) fun i => [xs.getD i .non, ys.getD i .non]) H1
theorem pi_zip2A {e1 e2 : Expr} {ta : TA} {p pos tpos : Pos} {elts : List Expr} {kk : Nat} (hg : Gl X "zip") (hm : X.mg "zip" = none) (ha : PA X [e1, e2] ta)
    (hs : starEach [e1, e2] X.env = (false, eval e1 X.env) :: starEach [e2] X.env := by rfl) (hpl : (backTo pos (starEach [e2] X.env)).any (·.1) = false := by rfl) :
    PI X (.Tuple elts kk tpos) (.Call (.Name "zip" p) [e1, e2] [] pos) (iZip2A X.K ta) := by
  constructor
  intro pins s σ H R I h
  refine Call_ (ld_blt I hg hm PyProof.Rows.boot_zip (PyProof.Rows.callWith_type1 (thn (ha.run pos pins s σ H _ I h) fun us s1 hh => ?_) hs hpl))
  obtain ⟨vs, H1, I1, r1, t1, t2, a1, a2, xs, ys, rfl, hq1, hq2, q⟩ := hh
  cases r1 with
  | cons r rr =>
    cases rr with
    | cons r' rr =>
      cases rr
      cases r
      cases r'
      obtain ⟨its1, rv1, hc1⟩ := con_of I1 hq1
      obtain ⟨its2, rv2, hc2⟩ := con_of I1 hq2
      refine zip_begins2 (begins_of t1 a1 its1.toArray) (begins_of t2 a2 its2.toArray) hc1 hc2 fun h' hz hTI hTO g1 g2 hsz hk => wpAny_pyIter_zip hz ?_
      refine ⟨s1.heap.objs.size + 4, _, _, _, H1, rfl, I1.kept (t' := s1.toks) hk, turn_zipA (conAt_lt hc1) (conAt_lt hc2), ⟨hz, hTI, ⟨_, _, hTO⟩, itAt_new g1, itAt_new g2⟩, feet I1 fun b mem => ?_, q⟩
      simp only [List.mem_cons, List.not_mem_nil, or_false] at mem
      rcases mem with rfl | rfl | rfl | rfl | rfl
      · exact Nat.le_add_right _ _
      · exact Nat.le_add_right _ _
      · exact Nat.le_add_right _ _
      · exact Nat.le_refl _
      · exact Nat.le_add_right _ _
theorem turn_zip3A {P : Program} {w : World} {K : PySem.W.Frag} {elts : List Expr} {kk : Nat} {tpos : Pos} {t1 t2 t3 : Bool} {a1 a2 a3 N : Addr} {xs ys zs : List V} (h1 : a1 < N) (h2 : a2 < N) (h3 : a3 < N) :
    Turn P w K (.Tuple elts kk tpos) (ItR (fun H => sqAt t1 K H a1 xs ∧ sqAt t2 K H a2 ys ∧ sqAt t3 K H a3 zs) (min (min xs.length ys.length) zs.length) fun i => [xs.getD i .non, ys.getD i .non, zs.getD i .non]) [N + 5, N + 3, N + 4, N, N + 1, N + 2] (N + 5)
      (fun i h => IsZip h (N + 5) (N + 3) (N + 4) .none ∧ IsTupOf3 h (N + 3) (.ref N) (.ref (N + 1)) (.ref (N + 2)) ∧ (∃ x y z, IsTupOf3 h (N + 4) x y z) ∧ itAt t1 h N a1 i ∧ itAt t2 h (N + 1) a2 i ∧ itAt t3 h (N + 2) a3 i) := by
  refine turn_rows (wr := [N + 5, N + 4, N, N + 1, N + 2]) (by simp) (fun b hb => ?_) (fun i h st b hb => ?_) (fun i h h' st k => ?_) (fun i _ => by simp) (fun X hP hw hK hh i pins s σ H I hs st => ?_) (fun A i s Q E st q => ?_)
  · simp only [List.mem_cons, List.not_mem_nil, or_false] at hb ⊢
    rcases hb with z | z | z | z | z <;> simp [z]
  · obtain ⟨z1, z2, ⟨x, y, z, z3⟩, z4, z5, z6⟩ := st
    simp only [List.mem_cons, List.not_mem_nil, or_false] at hb
    rcases hb with rfl | rfl | rfl | rfl | rfl | rfl
    · exact ⟨_, z1, fun v z => nomatch z⟩
    · exact ⟨_, z2, fun v z => nomatch z⟩
    · exact ⟨_, z3, fun v z => nomatch z⟩
    · exact itAt_obj z4
    · exact itAt_obj z5
    · exact itAt_obj z6
  · obtain ⟨z1, z2, ⟨x, y, z, z3⟩, z4, z5, z6⟩ := st
    exact ⟨k _ (by simp) _ z1, k _ (by simp) _ z2, ⟨x, y, z, k _ (by simp) _ z3⟩, itAt_keep z4 fun o q => k _ (by simp) o q, itAt_keep z5 fun o q => k _ (by simp) o q, itAt_keep z6 fun o q => k _ (by simp) o q⟩
  · subst hP hw hK
    obtain ⟨its1, rv1, hc1⟩ := con_of I hs.1
    obtain ⟨its2, rv2, hc2⟩ := con_of I hs.2.1
    obtain ⟨its3, rv3, hc3⟩ := con_of I hs.2.2
    have D1 := draws_of (prog := X.prog) (w := X.w) (A := X.A.in1) t1 hh N a1 (Nat.ne_of_lt h1) its1.toArray
    have D2 := draws_of (prog := X.prog) (w := X.w) (A := X.A.in1) t2 hh (N + 1) a2 (Nat.ne_of_lt (Nat.lt_succ_of_lt h2)) its2.toArray
    have D3 := draws_of (prog := X.prog) (w := X.w) (A := X.A.in1) t3 hh (N + 2) a3 (Nat.ne_of_lt (Nat.lt_succ_of_lt (Nat.lt_succ_of_lt h3))) its3.toArray
    have G := GoesN.zip3 (elts := elts) (x1 := kk) (pos := tpos) (zip_sep3 (N := N) (fp1 := [a1]) (fp2 := [a2]) (fp3 := [a3]) (by simpa using h1) (by simpa using h2) (by simpa using h3)) D1 D2 D3
    have l1 : its1.toArray.size = xs.length := by rw [List.size_toArray]; exact rv1.length.symm
    have l2 : its2.toArray.size = ys.length := by rw [List.size_toArray]; exact rv2.length.symm
    have l3 : its3.toArray.size = zs.length := by rw [List.size_toArray]; exact rv3.length.symm
    rw [l1, l2, l3] at G
    obtain ⟨z1, z2, z3, z4, z5, z6⟩ := st
    refine ⟨_, _, _, G, ⟨z1, z2, z3, ⟨z4, hc1⟩, ⟨z5, hc2⟩, ⟨z6, hc3⟩⟩, fun h x => ⟨x.1, x.2.1, x.2.2.1, x.2.2.2.1.1, x.2.2.2.2.1.1, x.2.2.2.2.2.1⟩, fun h₀ v h y hi => ?_⟩
    obtain ⟨T, u1, u2, u3, rfl, hT, hu1, hu2, hu3, ht⟩ := y
    obtain ⟨x1, hx1, rx1⟩ := vals_at rv1 hu1
    obtain ⟨x2, hx2, rx2⟩ := vals_at rv2 hu2
    obtain ⟨x3, hx3, rx3⟩ := vals_at rv3 hu3
    refine ⟨T, _, rfl, hT, ?_, ht⟩
    have e1 : xs.getD i .non = x1 := by rw [List.getD_eq_getElem?_getD, hx1]; rfl
    have e2 : ys.getD i .non = x2 := by rw [List.getD_eq_getElem?_getD, hx2]; rfl
    have e3 : zs.getD i .non = x3 := by rw [List.getD_eq_getElem?_getD, hx3]; rfl
    show Vals [xs.getD i .non, ys.getD i .non, zs.getD i .non] [u1, u2, u3]
    rw [e1, e2, e3]
    exact .cons rx1 (.cons rx2 (.cons rx3 .nil))
  · exact wpAny_pyIter_zip st.1 q
def iZip3A (K : PySem.W.Frag) (ta : TA) : TI := fun σ H R => ta σ H fun vs H1 => ∃ t1 t2 t3 a1 a2 a3 xs ys zs, vs = [.ref a1, .ref a2, .ref a3] ∧ sqAt t1 K H1 a1 xs ∧ sqAt t2 K H1 a2 ys ∧ sqAt t3 K H1 a3 zs ∧
  R (ItR (fun H => sqAt t1 K H a1 xs ∧ sqAt t2 K H a2 ys ∧ sqAt t3 K H a3 zs) (min (min xs.length ys.length) zs.length) fun i => [xs.getD i .non, ys.getD i .non, zs.getD i .non]) H1
theorem pi_zip3A {e1 e2 e3 : Expr} {ta : TA} {p pos tpos : Pos} {elts : List Expr} {kk : Nat} (hg : Gl X "zip") (hm : X.mg "zip" = none) (ha : PA X [e1, e2, e3] ta)
    (hs : starEach [e1, e2, e3] X.env = (false, eval e1 X.env) :: starEach [e2, e3] X.env := by rfl) (hpl : (backTo pos (starEach [e2, e3] X.env)).any (·.1) = false := by rfl) :
    PI X (.Tuple elts kk tpos) (.Call (.Name "zip" p) [e1, e2, e3] [] pos) (iZip3A X.K ta) := by
  constructor
  intro pins s σ H R I h
  refine Call_ (ld_blt I hg hm PyProof.Rows.boot_zip (PyProof.Rows.callWith_type1 (thn (ha.run pos pins s σ H _ I h) fun us s1 hh => ?_) hs hpl))
  obtain ⟨vs, H1, I1, r1, t1, t2, t3, a1, a2, a3, xs, ys, zs, rfl, hq1, hq2, hq3, q⟩ := hh
  cases r1 with
  | cons r rr =>
    cases rr with
    | cons r' rr =>
      cases rr with
      | cons r'' rr =>
        cases rr
        cases r
        cases r'
        cases r''
        obtain ⟨its1, rv1, hc1⟩ := con_of I1 hq1
        obtain ⟨its2, rv2, hc2⟩ := con_of I1 hq2
        obtain ⟨its3, rv3, hc3⟩ := con_of I1 hq3
        refine zip_begins3 (begins_of t1 a1 its1.toArray) (begins_of t2 a2 its2.toArray) (begins_of t3 a3 its3.toArray) hc1 hc2 hc3 fun h' hz hTI hTO g1 g2 g3 hsz hk => wpAny_pyIter_zip hz ?_
        refine ⟨s1.heap.objs.size + 5, _, _, _, H1, rfl, I1.kept (t' := s1.toks) hk, turn_zip3A (conAt_lt hc1) (conAt_lt hc2) (conAt_lt hc3), ⟨hz, hTI, ⟨_, _, _, hTO⟩, itAt_new g1, itAt_new g2, itAt_new g3⟩, feet I1 fun b mem => ?_, q⟩
        simp only [List.mem_cons, List.not_mem_nil, or_false] at mem
        rcases mem with rfl | rfl | rfl | rfl | rfl | rfl
        · exact Nat.le_add_right _ _
        · exact Nat.le_add_right _ _
        · exact Nat.le_add_right _ _
        · exact Nat.le_refl _
        · exact Nat.le_add_right _ _
        · exact Nat.le_add_right _ _
end
end BB

set_option maxHeartbeats 4000000

namespace BBE
open L2 PySem PySem.Spec PyProof.Rows
/-- tuple * 1 is the tuple itself; tuple * 0 and less is a new, empty one -/
theorem tup_mul01 (l : Addr) (items : Array Value) (n : Nat) (dd : Option Addr) (sl : Array (Option Value)) (x : Int) (u : Tok) :
    Meets (Builtin.«tuple.__mul__» ⟨[.ref l, .int x u], []⟩) (fun _ R s => s.heap.get? l = some ⟨.type "tuple", dd, .seq items n, sl⟩ ∧
      (x = 1 ∧ R (.ok (.ret (.ref l))) s ∨ (x ≤ 0 ∧ -(2 ^ 63) ≤ x ∧ items.isEmpty = false) ∧ R (.ok (.ret (.ref s.heap.objs.size))) { s with heap := s.heap.push { cls := .type "tuple", data := .seq #[] } })) :=
  .of_wp fun prog w A R ⟨hp, g, d, tk, os⟩ ⟨at1, two⟩ => by
    have ix := AutoSeq1.idx_int
    rcases two with ⟨one, back⟩ | ⟨⟨low, least, some1⟩, back⟩
    · subst one
      have same : (items.isEmpty || (1 : Int) == 1) = true := by cases items.isEmpty <;> rfl
      wp_walk using wpAny_loadPart' at1
      repeat (first
        | exact ⟨_, rfl, back⟩
        | (refine wpAny_ite_true (decide_eq_true same) ?_
           wp_walk using wpAny_loadPart' at1))
    · have inside : (decide (x < -(2 ^ 63)) || decide (x ≥ 2 ^ 63)) = false := by simp only [Bool.or_eq_false_iff, decide_eq_false_iff_not]; omega
      have other : (items.isEmpty || x == 1) = false := by simp only [some1, Bool.false_or, beq_eq_false_iff_ne]; omega
      have none1 : (decide (x ≤ 0) || items.isEmpty) = true := by simp only [low, decide_true, Bool.true_or]
      wp_walk using wpAny_loadPart' at1
      repeat (first
        | exact ⟨_, rfl, back⟩
        | (refine wpAny_ite_false (decide_eq_false (inside ▸ Bool.false_ne_true)) ?_
           wp_walk using wpAny_loadPart' at1)
        | (refine wpAny_ite_false (decide_eq_false (other ▸ Bool.false_ne_true)) ?_
           wp_walk using wpAny_loadPart' at1)
        | (refine wpAny_ite_true (decide_eq_true none1) ?_
           wp_walk using wpAny_loadPart' at1))
end BBE

namespace BB
open L2 PySem PySem.Spec PyProof.Rows
/-! ### tuple * int, whatever the int -/
def rRep01 (K : PySem.W.Frag) : R2 := fun x y H Q => ∃ l k xs, x = .ref l ∧ y = .int k ∧ SqT K H l xs ∧ (k = 1 ∧ Q (.ref l) H ∨ (xs ≠ [] ∧ k ≤ 0 ∧ -(2 ^ 63) ≤ k) ∧ ∀ p, H p = none → Q (.ref p) (upd H p (.tup [])))
section
variable {X : Cx}
theorem op_rep01 : OpR X (binaryOp .Mult) (rRep01 X.K)
  | pins, s, σ, H, _, _, _, _, Q, I, rx, ry, ⟨l, k, xs, isRef, isInt, hT, two⟩ => by
    cases isRef; cases isInt; cases rx
    obtain ⟨t, rfl⟩ := ry
    obtain ⟨its, same, ⟨⟨cls, dd, data, sl⟩, at1, isTup, n, isSeq⟩, _⟩ := I.tuple hT
    cases isTup; cases isSeq
    have filled : xs ≠ [] → its.toArray.isEmpty = false := fun some1 => by
      cases its with
      | nil => cases same; exact absurd rfl some1
      | cons a b => rfl
    refine wpAny_binaryOp_repeat_ref (T := "tuple") (U := "int") (by decide) ⟨_, at1, rfl⟩ (fun s' => typeIs_int s' k t) noFill_tuple_mul F.fills_int_mul F.slot_int_rmul repeat_tuple F.slot_int_index.lookup ?_
    refine call_meets F.slot_int_rmul (typeIs_int s k t) F.entry_int_rmul (F.args_int_rmul_2 _ _) (int_rmul_tuple k t l its.toArray n dd sl) ⟨at1, rfl, ⟨_, at1, rfl⟩, ?_⟩
    refine call_meets F.slot_tuple_mul ⟨_, at1, rfl⟩ F.entry_tuple_mul (F.args_tuple_mul_2 _ _) (BBE.tup_mul01 l its.toArray n dd sl k t) ⟨at1, ?_⟩
    rcases two with ⟨one, q⟩ | ⟨⟨some1, low, least⟩, q⟩
    · exact .inl ⟨one, .ref l, H, I.tok _, rfl, q⟩
    · exact .inr ⟨⟨low, least, filled some1⟩, .ref s.heap.objs.size, _, I.laid (t' := s.toks) (o := .tup []) (fun _ _ e => Heap.get?_push_of_some _ e) (Nat.le_refl _) ⟨Nat.zero_le _, [], .nil, IsTup.new _ _⟩, rfl, q _ (I.hok.fresh (Nat.le_refl _))⟩
abbrev rMulB (K : PySem.W.Frag) : R2 := fun x y H Q => rRep01 K x y H Q ∨ rRepT K x y H Q ∨ rMulA x y H Q
theorem op_mulB : OpR X (binaryOp .Mult) (rMulB X.K) := OpR.or op_rep01 (OpR.or op_repT op_mulA)
def mulE (M : Mem) : D → D → Option D
  | .tup xs, .int k => if xs ≠ [] ∧ -(2 ^ 63) ≤ k ∧ k ≤ 1000 ∧ xs.length ≤ 1000 then some (.tup (List.replicate k.toNat xs).flatten) else none
  | x, y => mulD M x y
theorem mulE_tup {M : Mem} {xs : List D} {k : Int} (h : xs ≠ [] ∧ -(2 ^ 63) ≤ k ∧ k ≤ 1000 ∧ xs.length ≤ 1000) : mulE M (.tup xs) (.int k) = some (.tup (List.replicate k.toNat xs).flatten) := if_pos h
theorem snd_mulE : SndR X (rMulB X.K) (rdO mulE) := by
  intro Δ I M H σ env G x y dx dy rx ry Q Qd k ⟨d, e, q⟩
  unfold mulE at e
  split at e
  · rename_i xs z
    by_cases h : xs ≠ [] ∧ -(2 ^ 63) ≤ z ∧ z ≤ 1000 ∧ xs.length ≤ 1000
    · rw [if_pos h] at e
      cases e
      obtain ⟨hne, h1, h2, h3⟩ := h
      obtain ⟨a, vs, rfl, h4, r1⟩ := rx.tup_inv
      rw [ry.int_inv]
      have hT := G.at_.sqT h4
      have hvs : vs ≠ [] := fun z => hne (by subst z; cases r1; rfl)
      by_cases e1 : z = 1
      · subst e1
        refine .inl ⟨a, 1, vs, rfl, rfl, hT, .inl ⟨rfl, k _ _ _ _ _ (Ext.refl I) G ?_ q⟩⟩
        have : (List.replicate (Int.toNat 1) xs).flatten = xs := by simp
        rw [this]
        exact .tup h4 r1
      · by_cases e2 : z ≤ 0
        · refine .inl ⟨a, z, vs, rfl, rfl, hT, .inr ⟨⟨hvs, e2, h1⟩, fun p hp => ?_⟩⟩
          obtain ⟨x2, G2⟩ := G.newI hp (.tup [])
          have : z.toNat = 0 := by omega
          rw [this] at q
          exact k _ _ _ _ _ x2 G2 (.tup (.inl (.inl upd_same)) .nil) q
        · refine .inr (.inl ⟨a, z, vs, rfl, rfl, hT, hvs, by omega, h2, by rw [r1.length]; exact h3, fun p hp => ?_⟩)
          obtain ⟨x2, G2⟩ := G.newI hp (.tup (List.replicate z.toNat vs).flatten)
          exact k _ _ _ _ _ x2 G2 (.tup (.inl (.inl upd_same)) ((r1.rep z.toNat).ext x2)) q
    · rw [if_neg h] at e; cases e
  · exact .inr (.inr (snd_mul Δ I M H σ env G x y dx dy rx ry Q Qd k ⟨d, e, q⟩))
end

/-! ### any tuple as a tuple -/
def dN (de : DE) : DE := fun env M Q => de env M fun d M1 => Q (nrm d) M1
section
variable {X : Cx} {Δ : DC} {e a b c o : Expr} {de da db dc : DE} {dt du : DT} {pos p apos cpos : Pos} {es : List Expr}
variable {ta tb tc te to ti : TE} {t1 t2 : TT} {tl : TA} {dl : DA} {x : Str}
theorem pd_nrm (h : PDe X Δ e te de) : PDe X Δ e te (dN de) := ⟨h.1, fun I M H σ env G Q Qd k q => h.2 I M H σ env G _ _ (fun d M1 I1 H1 v x1 G1 r1 q1 => k _ _ _ _ _ x1 G1 r1.nrm q1) q⟩

/-! ### tuple(..): a tuple whose object has no dict of its own -/
def rTupN (K : PySem.W.Frag) : List V → Hp → VK → Prop := fun xs H Q => ∃ p ys, xs = [.ref p] ∧ SqL K H p ys ∧ ∀ l (ob : Obj), H l = none → ob.cls = .type "tuple" → ob.dict = none → Q (.ref l) (upd H l (.frz ob (.tup ys)))
theorem call_tupN : CallR X (.type "tuple") (rTupN X.K)
  | pins, s, σ, H, _, _, Q, I, .cons rx .nil, ⟨p, ys, one, hq, q⟩ => by
    cases one; cases rx
    obtain ⟨its, same, isLst, few⟩ := I.list hq
    refine call_tuple_list isLst.isList (fun h' kp => ?_) ?_
    · have J : Inv X pins σ H { s with heap := h' } := I.kept (t' := s.toks) kp
      let ob : Obj := { cls := .type "tuple", data := .seq its.toArray }
      have new : ObjOk X.prog X.w (upd H h'.objs.size (.frz ob (.tup ys))) (h'.push ob) h'.objs.size (.frz ob (.tup ys)) := ⟨Heap.get?_push_size _ rfl, few, its, same, IsTup.new _ _⟩
      exact ⟨.ref h'.objs.size, _, J.laid (t' := s.toks) (fun _ _ e => Heap.get?_push_of_some _ e) (Nat.le_refl _) new, rfl, q _ _ (J.hok.fresh (Nat.le_refl _)) rfl rfl⟩
    · have := same.length
      simp only [List.size_toArray] <;> omega
def rdTupN : RDC := fun ds M Q => ∃ x, ds = [x] ∧ ∃ xs, lstOf M x = some xs ∧ Q (.ntup xs) M
theorem snd_tupN : SndC X (rTupN X.K) rdTupN := by
  intro Δ I M H σ env G vs ds r Q Qd k ⟨x, e, xs, e2, q⟩
  subst e
  obtain ⟨v, rfl, rv⟩ := r.one_inv
  obtain ⟨a, us, rfl, h1, h2⟩ := lst_of G.at_ rv e2
  refine ⟨a, us, rfl, .inl (.inl h1), fun l ob hl hc hd => ?_⟩
  obtain ⟨x2, G2⟩ := G.newI hl (.frz ob (.tup us))
  exact k _ _ _ _ _ x2 G2 (.ntup upd_same hc hd (h2.ext x2)) q

/-- how o.m(e) of a built-in thing is read: on one row, one part, not starred -/
abbrev AsOne (X : Cx) (o : Expr) (m : Str) (apos cpos : Pos) (e : Expr) : Prop := attributeBase o m X.env (eval o X.env) = eval o X.env ∧ (apos.endLine == cpos.line) = true ∧ backTo cpos (starEach [e] X.env) = [(false, eval e X.env)] ∧
  ((backTo cpos (starEach [e] X.env)).all (fun x => !x.1) && (backToKw cpos (keywordEach [] X.env)).all (fun x => x.1.isSome) && decide ([e].length + ([] : List Keyword).length + (if ([] : List Keyword).isEmpty then 0 else 1) < 30)) = true
/-! ### t.index(x) of a tuple of texts -/
def tTupIx (K : PySem.W.Frag) (to te : TE) : TE := fun σ H Q => to σ H fun x H1 => ∃ p ob ys0, x = .ref p ∧ H1 p = some (.frz ob (.tup ys0)) ∧ ob.cls = .type "tuple" ∧ ob.dict = none ∧ te σ H1 fun y H2 =>
  ∃ ys : List Str, ∃ z j, y = .str z ∧ SqT K H2 p (ys.map V.str) ∧ ys[j]? = some z ∧ (∀ m, m < j → ys[m]? ≠ some z) ∧ Q (.int (j : Nat)) H2
theorem pe_tupIx (ho : PE X o to) (ha : PE X e te)
    (read : AsOne X o "index" apos cpos e := by exact ⟨rfl, rfl, rfl, rfl⟩) : PE X (.Call (.Attribute o "index" apos) [e] [] cpos) (tTupIx X.K to te) := by
  constructor
  intro pins s σ H Q I h
  have h1 := ho.run pins s σ H _ I h
  refine wpAny_Call_method_late read.1 read.2.2.2 read.2.1 read.2.2.1 (thn h1 fun v s1 q1 => ?_)
  obtain ⟨x, H1, I1, r1, p, ob, ys0, ex, hp, hc, hd, q1⟩ := q1
  subst ex
  cases r1
  have hob : s1.heap.get? p = some ob := (I1.hok p _ hp).1
  refine ⟨"tuple", "tuple.index", F.plainAttrs_tuple, F.slot_tuple_index, F.type_tuple_index, ⟨ob, hob, hc⟩, fun a ea => ⟨ob, by cases ea; exact hob, hd⟩, ?_⟩
  refine Calls.callWith_builtin rfl (Calls.evalArgs_plain (Calls.spliced_cons ?_))
  refine thn (ha.run pins s1 σ H1 _ I1 q1) fun u s2 q2 => ?_
  obtain ⟨y, H2, I2, r2, ys, z, j, ey, hT, hy, hno, q2⟩ := q2
  subst ey
  exact Calls.spliced_nil (mt_tup_index pins s2 σ H2 (.ref p) [.str z] (.ref p) [u] Q I2 rfl (.cons r2 .nil) ⟨p, ys, z, j, rfl, rfl, hT, hy, hno, q2⟩)
/-- the first place of a text -/
def ixOf (z : Str) : List Str → Nat
  | [] => 0
  | y :: ys => if y = z then 0 else ixOf z ys + 1
theorem ixOf_lt {z : Str} : ∀ {ys : List Str}, z ∈ ys → ixOf z ys < ys.length
  | y :: ys, h => by
    unfold ixOf
    by_cases e : y = z
    · rw [if_pos e]; simp
    · rw [if_neg e, List.length_cons]
      have : z ∈ ys := by
        rcases List.mem_cons.mp h with h | h
        · exact absurd h.symm e
        · exact h
      exact Nat.succ_lt_succ (ixOf_lt this)
theorem ixOf_get {z : Str} : ∀ {ys : List Str}, z ∈ ys → ys[ixOf z ys]? = some z
  | y :: ys, h => by
    unfold ixOf
    by_cases e : y = z
    · rw [if_pos e]; simp [e]
    · rw [if_neg e, List.getElem?_cons_succ]
      have : z ∈ ys := by
        rcases List.mem_cons.mp h with h | h
        · exact absurd h.symm e
        · exact h
      exact ixOf_get this
theorem ixOf_no {z : Str} : ∀ {ys : List Str} {m : Nat}, m < ixOf z ys → ys[m]? ≠ some z
  | [], m, h => by simp
  | y :: ys, 0, h => by
    unfold ixOf at h
    by_cases e : y = z
    · rw [if_pos e] at h; omega
    · simpa using e
  | y :: ys, m + 1, h => by
    unfold ixOf at h
    by_cases e : y = z
    · rw [if_pos e] at h; omega
    · rw [if_neg e] at h
      rw [List.getElem?_cons_succ]
      exact ixOf_no (by omega)
def dTupIx (da de : DE) : DE := fun env M Q => da env M fun x M1 => ∃ ys : List Str, x = .ntup (ys.map .str) ∧ de env M1 fun y M2 => ∃ z, y = .str z ∧ z ∈ ys ∧ Q (.int (ixOf z ys : Nat)) M2
theorem pd_tupIx (ho : PDe X Δ o to da) (ha : PDe X Δ e te de)
    (read : AsOne X o "index" apos cpos e := by exact ⟨rfl, rfl, rfl, rfl⟩) : PDe X Δ (.Call (.Attribute o "index" apos) [e] [] cpos) (tTupIx X.K to te) (dTupIx da de) :=
  ⟨pe_tupIx ho.1 ha.1 read, fun I M H σ env G Q Qd k q => ho.2 I M H σ env G _ _ (fun d M1 I1 H1 v x1 G1 r1 q1 => by
    obtain ⟨ys, e1, q1⟩ := q1
    subst e1
    obtain ⟨a, ob, vs, rfl, h1, hc, hd, rs⟩ := r1.ntup_inv
    have hv := rs.strs
    subst hv
    refine ⟨a, ob, _, rfl, G1.at_.ex _ _ h1, hc, hd, ha.2 I1 M1 H1 σ env G1 _ _ (fun d2 M2 I2 H2 u x2 G2 r2 q2 => ?_) q1⟩
    obtain ⟨z, e2, hz, q2⟩ := q2
    subst e2
    exact ⟨ys, z, ixOf z ys, r2.str_inv, .inl (.inr ⟨ob, G2.at_.ex _ _ (x2.frzT h1)⟩), ixOf_get hz, fun m hm => ixOf_no hm, k _ _ _ _ _ (x1.trans x2) G2 (.int _) q2⟩) q⟩

/-! ### isinstance -/
def tyD (M : Mem) : D → Option String
  | .non => some "NoneType"
  | .bl _ => some "bool"
  | .int _ => some "int"
  | .str _ => some "str"
  | .tup _ => some "tuple"
  | .ntup _ => some "tuple"
  | .lst _ => some "list"
  | .frz _ => some "list"
  | .ref p => match M p with
    | .some (.lst _) => some "list"
    | some (.dK _) => some "dict"
    | some (.dT _) => some "dict"
    | _ => none
  | _ => none
theorem sqT_ty {K : PySem.W.Frag} {H : Hp} {a : Addr} {xs : List V} (h : SqT K H a xs) : TyX K H (.ref a) (.type "tuple") := by
  rcases h with (h | ⟨o, h⟩) | ⟨o, its, n, h, hc, _⟩
  · exact .base (.tup h)
  · exact .fTuple h
  · exact .kTuple h hc
theorem sqL_ty {K : PySem.W.Frag} {H : Hp} {a : Addr} {xs : List V} (h : SqL K H a xs) : TyX K H (.ref a) (.type "list") := by
  rcases h with (h | ⟨o, h⟩) | ⟨o, its, n, h, hc, _⟩
  · exact .base (.lst h)
  · exact .base (.frz h)
  · exact .kList h hc
theorem ty_of {K : PySem.W.Frag} {F I H : Hp} {M : Mem} (A : At K F I M H) {v : V} {d : D} {T : String} (r : Rp K I v d) (h : tyD M d = some T) : TyX K H v (.type T) := by
  cases d with
  | non => cases h; rw [r.non_inv]; exact .base .non
  | bl b => cases h; rw [r.bl_inv]; exact .base (.bl b)
  | int b => cases h; rw [r.int_inv]; exact .base (.int b)
  | str b => cases h; rw [r.str_inv]; exact .base (.str b)
  | tup xs => cases h; obtain ⟨a, vs, rfl, h1, h2⟩ := r.tup_inv; exact sqT_ty (A.sqT h1)
  | ntup xs => cases h; obtain ⟨a, ob, vs, rfl, h1, _⟩ := r.ntup_inv; exact .fTuple (A.ex _ _ h1)
  | lst xs => cases h; obtain ⟨a, vs, rfl, h1, h2⟩ := r.lst_inv; exact .base (.lst (A.ex _ _ h1))
  | frz xs => cases h; obtain ⟨a, vs, rfl, h1, h2⟩ := r.frz_inv; exact sqL_ty (A.sqL h1)
  | ref p =>
    rw [r.ref_inv]
    have h' : (match M p with | some (.lst _) => some "list" | some (.dK _) => some "dict" | some (.dT _) => some "dict" | _ => none) = some T := h
    split at h'
    · rename_i e; cases h'; obtain ⟨_, vs, h1, _⟩ := A.mem _ _ e; exact .base (.lst h1)
    · rename_i e; cases h'; obtain ⟨_, vs, h1, _⟩ := A.mem _ _ e; exact .base (.dK h1)
    · rename_i e; cases h'; obtain ⟨_, vs, h1, _⟩ := A.mem _ _ e; exact .base (.dT h1)
    · cases h'
  | _ => cases h
/-- of a built-in type -/
def rdIsi : RDC := fun ds M Q => ∃ x n, ds = [x, .ty n] ∧ ∃ T b, tyD M x = some T ∧ kitB T n = some b ∧ Q (.bl b) M
theorem snd_isi : SndC X (rIsi X.K) rdIsi := by
  intro Δ I M H σ env G vs ds r Q Qd k ⟨x, n, e, T, b, e1, e2, q⟩
  subst e
  obtain ⟨v, u, rfl, rv, ru⟩ := r.two_inv
  rw [ru.ty_inv]
  exact ⟨v, .ty n, .type T, .type n, b, rfl, .ty n, ty_of G.at_ rv e1, kit_ty e2, k _ _ _ _ _ (Ext.refl I) G (.bl b) q⟩
end

/-! ### own classes -/
/-- what isinstance asks of an own class's instances, and of other things -/
structure IsiC (K : PySem.W.Frag) (C : Addr) : Prop where
  cl : Cls K C
  atr : PySem.W.findIn K (.ref C) "__class__" = some (.some (.builtin "object.__class__"))
  got : PySem.W.specialIn K (.builtin "object.__class__") "__get__" = some (.some (.builtin "getset_descriptor.__get__"))
  tak : PySem.W.takesIn K (.builtin "object.__class__") = .some true
  all : PySem.W.mroIn K C (.type "object") = .some true
section
variable {X : Cx}
/-- isinstance(x, C), of instances and built-in things -/
def rdIsiO (K : PySem.W.Frag) : RDC := fun ds M Q => ∃ x C, ds = [x, .ref C] ∧ ((∃ C' fs b, insOf M x = some (C', fs) ∧ IsiC K C' ∧ PySem.W.kitOne K (.ref C') (.ref C) = some b ∧ Q (.bl b) M) ∨
  ∃ T b, tyD M x = some T ∧ PySem.W.kitOne K (.type T) (.ref C) = some b ∧ Q (.bl b) M)
theorem snd_isiO : SndC X (rIsi X.K) (rdIsiO X.K) := by
  intro Δ I M H σ env G vs ds r Q Qd k ⟨x, C, e, q⟩
  subst e
  obtain ⟨v, u, rfl, rv, ru⟩ := r.two_inv
  rw [ru.ref_inv]
  rcases q with ⟨C', fs, b, e1, c, e2, q⟩ | ⟨T, b, e1, e2, q⟩
  · obtain ⟨a, dx, fvs, rfl, h1, _⟩ := ins_of G.at_ rv e1
    exact ⟨.ref a, .ref C, .ref C', .ref C, b, rfl, .own C, .base (.ins h1 c.cl c.atr c.got c.tak c.all), e2, k _ _ _ _ _ (Ext.refl I) G (.bl b) q⟩
  · exact ⟨v, .ref C, .type T, .ref C, b, rfl, .own C, ty_of G.at_ rv e1, e2, k _ _ _ _ _ (Ext.refl I) G (.bl b) q⟩
/-- an own instance and a built-in type -/
def rdIsiB (K : PySem.W.Frag) : RDC := fun ds M Q => ∃ x n, ds = [x, .ty n] ∧ ((∃ C' fs b, insOf M x = some (C', fs) ∧ IsiC K C' ∧ PySem.W.kitOne K (.ref C') (.type n) = some b ∧ Q (.bl b) M) ∨
  ∃ T b, tyD M x = some T ∧ kitB T n = some b ∧ Q (.bl b) M)
theorem snd_isiB : SndC X (rIsi X.K) (rdIsiB X.K) := by
  intro Δ I M H σ env G vs ds r Q Qd k ⟨x, n, e, q⟩
  subst e
  obtain ⟨v, u, rfl, rv, ru⟩ := r.two_inv
  rw [ru.ty_inv]
  rcases q with ⟨C', fs, b, e1, c, e2, q⟩ | ⟨T, b, e1, e2, q⟩
  · obtain ⟨a, dx, fvs, rfl, h1, _⟩ := ins_of G.at_ rv e1
    exact ⟨.ref a, .ty n, .ref C', .type n, b, rfl, .ty n, .base (.ins h1 c.cl c.atr c.got c.tak c.all), e2, k _ _ _ _ _ (Ext.refl I) G (.bl b) q⟩
  · exact ⟨v, .ty n, .type T, .type n, b, rfl, .ty n, ty_of G.at_ rv e1, kit_ty e2, k _ _ _ _ _ (Ext.refl I) G (.bl b) q⟩
end

/-! ### xs.append(e), sep.join(xs) -/
section
variable {X : Cx} {Δ : DC} {e a b c o : Expr} {de da db dc : DE} {pos p apos cpos : Pos} {es : List Expr} {ta tb tc te to ti : TE}
def dApp (da de : DE) : DE := fun env M Q => da env M fun x M1 => ∃ q xs0, x = .ref q ∧ M1 q = some (.lst xs0) ∧ de env M1 fun d M2 => ∃ xs, M2 q = some (.lst xs) ∧ xs.length < sizeLine ∧ Q .non (mset M2 q (.lst (xs ++ [d])))
theorem pd_app (ho : PDe X Δ o to da) (ha : PDe X Δ e te de)
    (walk : PE X o to → PE X e te → PE X (.Call (.Attribute o "append" apos) [e] [] cpos) (tBM X.K "list" rAppend to (tCons te tNil)) := by exact fun a b => pe_bm PySem.F.plainAttrs_list PySem.F.slot_list_append PySem.F.type_list_append mt_append a (pa_cons b pa_nil)) :
    PDe X Δ (.Call (.Attribute o "append" apos) [e] [] cpos) (tBM X.K "list" rAppend to (tCons te tNil)) (dApp da de) :=
  ⟨walk ho.1 ha.1, fun I M H σ env G Q Qd k q => ho.2 I M H σ env G _ _ (fun x M1 I1 H1 v x1 G1 r1 q1 => by
    obtain ⟨p, xs0, e1, m1, q1⟩ := q1
    subst e1
    rw [r1.ref_inv]
    obtain ⟨_, vs0, h0, _⟩ := G1.at_.mem _ _ m1
    refine ⟨.inl ⟨rfl, vs0, .inl (.inl h0)⟩, ha.2 I1 M1 H1 σ env G1 _ _ (fun d M2 I2 H2 u x2 G2 r2 q2 => ?_) q1⟩
    obtain ⟨xs, m2, hz, q2⟩ := q2
    obtain ⟨_, vs, h2, rs⟩ := G2.at_.mem _ _ m2
    exact ⟨p, vs, u, rfl, rfl, h2, by rw [rs.length]; exact hz, k _ _ _ _ _ (x1.trans x2) (G2.go (Ext.refl I2) (G2.at_.write (m' := .lst (xs ++ [d])) m2 (fun _ z => by cases z) ⟨_, upd_same, rs.append (.cons r2 .nil)⟩)) .non q2⟩) q⟩
def dJoin (da de : DE) : DE := fun env M Q => da env M fun x M1 => ∃ a, x = .str a ∧ de env M1 fun y M2 => ∃ ys : List Str, seqOf M2 y = some (ys.map .str) ∧ (ys.map (·.length)).sum + ys.length * a.length ≤ 16777216 ∧ Q (.str (Txt.join a ys)) M2
abbrev rJn (K : PySem.W.Frag) : V → List V → Hp → VK → Prop := fun x xs H Q => ∃ a p, ∃ ys : List Str, x = .str a ∧ xs = [.ref p] ∧ (SqL K H p (ys.map V.str) ∨ SqT K H p (ys.map V.str)) ∧ (ys.map (·.length)).sum + ys.length * a.length ≤ 16777216 ∧ Q (.str (Txt.join a ys)) H
theorem pd_join (ho : PDe X Δ o to da) (he : PDe X Δ e te de) (hs : starEach [e] X.env = [(false, eval e X.env)] := by rfl) (hbase : attributeBase o "join" X.env (eval o X.env) = eval o X.env := by rfl) (hline : (apos.endLine == cpos.line) = true := by rfl) :
    PDe X Δ (.Call (.Attribute o "join" apos) [e] [] cpos) (tM1 (rJn X.K) to te) (dJoin da de) :=
  ⟨pe_join ho.1 he.1 hs hbase hline, fun I M H σ env G Q Qd k q => ho.2 I M H σ env G _ _ (fun x M1 I1 H1 v x1 G1 r1 q1 => by
    obtain ⟨a, e1, q1⟩ := q1
    subst e1
    rw [r1.str_inv]
    refine ⟨⟨a, rfl⟩, he.2 I1 M1 H1 σ env G1 _ _ (fun y M2 I2 H2 u x2 G2 r2 q2 => ?_) q1⟩
    obtain ⟨ys, e2, hz, q2⟩ := q2
    obtain ⟨p, vs, rfl, h1, h2⟩ := seq_of G2.at_ r2 e2
    have hv := h2.strs
    subst hv
    exact ⟨a, p, ys, rfl, rfl, h1, hz, k _ _ _ _ _ (x1.trans x2) G2 (.str _) q2⟩) q⟩
end
end BB

set_option maxHeartbeats 4000000
namespace BB
open L2 PySem PySem.Spec PyProof.Rows

/-! ### enumerate and zip over fixed sequences -/
def fixOf : D → Option (List D)
  | .tup xs => some xs
  | .ntup xs => some xs
  | .lst xs => some xs
  | .frz xs => some xs
  | _ => none
def sqI (t : Bool) (K : PySem.W.Frag) (I : Hp) (a : Addr) (vs : List V) : Prop := match t with
  | true => SqT K I a vs
  | false => SqL K I a vs
theorem sqI_at {K : PySem.W.Frag} {F I J H : Hp} {M : Mem} {t : Bool} {a : Addr} {vs : List V} (h : sqI t K I a vs) (x : Ext I J) (A : At K F J M H) : sqAt t K H a vs := by
  cases t with
  | true => exact A.sqT (x.sqT h)
  | false => exact A.sqL (x.sqL h)
theorem fix_of {K : PySem.W.Frag} {I : Hp} {v : V} {d : D} {xs : List D} (r : Rp K I v d) (h : fixOf d = some xs) : ∃ t a vs, v = .ref a ∧ sqI t K I a vs ∧ Rps K I vs xs := by
  cases d with
  | tup ys => cases h; obtain ⟨a, vs, rfl, h1, h2⟩ := r.tup_inv; exact ⟨true, a, vs, rfl, h1, h2⟩
  | ntup ys => cases h; obtain ⟨a, ob, vs, rfl, h1, _, _, h2⟩ := r.ntup_inv; exact ⟨true, a, vs, rfl, .inl (.inr ⟨ob, h1⟩), h2⟩
  | lst ys => cases h; obtain ⟨a, vs, rfl, h1, h2⟩ := r.lst_inv; exact ⟨false, a, vs, rfl, .inl (.inl h1), h2⟩
  | frz ys => cases h; obtain ⟨a, vs, rfl, h1, h2⟩ := r.frz_inv; exact ⟨false, a, vs, rfl, h1, h2⟩
  | _ => cases h
theorem Rps.getD {K : PySem.W.Frag} {I : Hp} {vs : List V} {ds : List D} (r : Rps K I vs ds) {i : Nat} (h : i < ds.length) : Rp K I (vs.getD i .non) (ds.getD i .non) := by
  obtain ⟨v, hv, rv⟩ := r.get (i := i) (d := ds[i]) (by simp [h])
  rw [List.getD_eq_getElem?_getD, hv, List.getD_eq_getElem?_getD]
  rw [show ds[i]? = some ds[i] by simp [h]]
  exact rv
def rowsD (n : Nat) (f : Nat → List D) : List D := (List.range n).map fun i => .tup (f i)
theorem rowsD_len {n : Nat} {f : Nat → List D} : (rowsD n f).length = n := by simp [rowsD]
theorem rowsD_get {n : Nat} {f : Nat → List D} {i : Nat} {d : D} (h : (rowsD n f)[i]? = some d) : i < n ∧ d = .tup (f i) := by
  have hlt : i < n := by
    have := (List.getElem?_eq_some_iff.mp h).1
    rwa [rowsD_len] at this
  refine ⟨hlt, ?_⟩
  simp only [rowsD, List.getElem?_map, List.getElem?_range hlt] at h
  simpa using h.symm
theorem rows_ok {K : PySem.W.Frag} {I1 : Hp} {side : Hp → Prop} {n : Nat} {row : Nat → List V} {f : Nat → List D} (hs : ∀ F I M H, Ext I1 I → At K F I M H → side H) (hr : ∀ i, i < n → Rps K I1 (row i) (f i)) :
    ItOk K I1 (ItR side n row) (rowsD n f) (fun _ => True) := by
  refine ⟨fun F i I M H x A _ hi => ⟨hs F I M H x A, by rwa [rowsD_len] at hi⟩, fun F I M H x A _ => ⟨hs F I M H x A, rowsD_len⟩, fun F i d x' I M H H' x A _ hd y => ?_⟩
  obtain ⟨hlt, e⟩ := rowsD_get hd
  obtain ⟨T, rfl, hT, rfl⟩ := y
  subst e
  have hI := A.freeI hT
  exact ⟨upd I T (.tup (row i)), Ext.new hI, A.newI hT _, .tup (.inl (.inl upd_same)) ((hr i hlt).ext (x.trans (Ext.new hI)))⟩
section
variable {X : Cx} {Δ : DC} {e e1 e2 e3 : Expr} {pos p tpos : Pos} {elts : List Expr} {kk : Nat} {tl : TA} {dl : DA}
def enumD (xs : List D) : List D := rowsD xs.length fun i => [.int (i : Nat), xs.getD i .non]
def zip2D (xs ys : List D) : List D := rowsD (min xs.length ys.length) fun i => [xs.getD i .non, ys.getD i .non]
def zip3D (xs ys zs : List D) : List D := rowsD (min (min xs.length ys.length) zs.length) fun i => [xs.getD i .non, ys.getD i .non, zs.getD i .non]
def dEnum (dl : DA) : DI := fun env M R => dl env M fun ds M1 => ∃ x xs, ds = [x] ∧ fixOf x = some xs ∧ R (enumD xs) (fun _ => True) M1
theorem pdi_enum (hg : Gl X "enumerate") (hm : X.mg "enumerate" = none) (ha : PDa X Δ [e] tl dl) (hs : starEach [e] X.env = [(false, eval e X.env)] := by rfl) :
    PDi X Δ (.Tuple elts kk tpos) (.Call (.Name "enumerate" p) [e] [] pos) (iEnumA X.K tl) (dEnum dl) :=
  ⟨pi_enumA hg hm ha.1 hs, fun I M H σ env G R Rd k q => ha.2 I M H σ env G _ _ (fun ds M1 I1 H1 vs x1 G1 r1 q1 => by
    obtain ⟨x, xs, e1, e2, q1⟩ := q1
    subst e1
    obtain ⟨v, rfl, rv⟩ := r1.one_inv
    obtain ⟨t, a, us, rfl, h1, h2⟩ := fix_of rv e2
    refine ⟨t, a, us, rfl, sqI_at h1 (Ext.refl I1) G1.at_, k _ _ M1 _ I1 H1 x1 G1 ?_ q1⟩
    have hl := h2.length
    rw [hl]
    exact rows_ok (fun F I M H x A => sqI_at h1 x A) fun i hi => .cons (.int _) (.cons (h2.getD hi) .nil)) q⟩
def dZip2 (dl : DA) : DI := fun env M R => dl env M fun ds M1 => ∃ x y xs ys, ds = [x, y] ∧ fixOf x = some xs ∧ fixOf y = some ys ∧ R (zip2D xs ys) (fun _ => True) M1
theorem pdi_zip2 (hg : Gl X "zip") (hm : X.mg "zip" = none) (ha : PDa X Δ [e1, e2] tl dl)
    (hs : starEach [e1, e2] X.env = (false, eval e1 X.env) :: starEach [e2] X.env := by rfl) (hpl : (backTo pos (starEach [e2] X.env)).any (·.1) = false := by rfl) :
    PDi X Δ (.Tuple elts kk tpos) (.Call (.Name "zip" p) [e1, e2] [] pos) (iZip2A X.K tl) (dZip2 dl) :=
  ⟨pi_zip2A hg hm ha.1 hs hpl, fun I M H σ env G R Rd k q => ha.2 I M H σ env G _ _ (fun ds M1 I1 H1 vs x1 G1 r1 q1 => by
    obtain ⟨x, y, xs, ys, e1, e2, e3, q1⟩ := q1
    subst e1
    obtain ⟨v, u, rfl, rv, ru⟩ := r1.two_inv
    obtain ⟨t1, a1, us1, rfl, h1, h2⟩ := fix_of rv e2
    obtain ⟨t2, a2, us2, rfl, h3, h4⟩ := fix_of ru e3
    refine ⟨t1, t2, a1, a2, us1, us2, rfl, sqI_at h1 (Ext.refl I1) G1.at_, sqI_at h3 (Ext.refl I1) G1.at_, k _ _ M1 _ I1 H1 x1 G1 ?_ q1⟩
    rw [h2.length, h4.length]
    exact rows_ok (fun F I M H x A => ⟨sqI_at h1 x A, sqI_at h3 x A⟩) fun i hi => .cons (h2.getD (by omega)) (.cons (h4.getD (by omega)) .nil)) q⟩
def dZip3 (dl : DA) : DI := fun env M R => dl env M fun ds M1 => ∃ x y z xs ys zs, ds = [x, y, z] ∧ fixOf x = some xs ∧ fixOf y = some ys ∧ fixOf z = some zs ∧ R (zip3D xs ys zs) (fun _ => True) M1
theorem pdi_zip3 (hg : Gl X "zip") (hm : X.mg "zip" = none) (ha : PDa X Δ [e1, e2, e3] tl dl)
    (hs : starEach [e1, e2, e3] X.env = (false, eval e1 X.env) :: starEach [e2, e3] X.env := by rfl) (hpl : (backTo pos (starEach [e2, e3] X.env)).any (·.1) = false := by rfl) :
    PDi X Δ (.Tuple elts kk tpos) (.Call (.Name "zip" p) [e1, e2, e3] [] pos) (iZip3A X.K tl) (dZip3 dl) :=
  ⟨pi_zip3A hg hm ha.1 hs hpl, fun I M H σ env G R Rd k q => ha.2 I M H σ env G _ _ (fun ds M1 I1 H1 vs x1 G1 r1 q1 => by
    obtain ⟨x, y, z, xs, ys, zs, e1, e2, e3, e4, q1⟩ := q1
    subst e1
    obtain ⟨v, r, rfl, rv, rr⟩ := r1.cons_inv
    obtain ⟨u, w, rfl, ru, rw'⟩ := rr.two_inv
    obtain ⟨t1, a1, us1, rfl, h1, h2⟩ := fix_of rv e2
    obtain ⟨t2, a2, us2, rfl, h3, h4⟩ := fix_of ru e3
    obtain ⟨t3, a3, us3, rfl, h5, h6⟩ := fix_of rw' e4
    refine ⟨t1, t2, t3, a1, a2, a3, us1, us2, us3, rfl, sqI_at h1 (Ext.refl I1) G1.at_, sqI_at h3 (Ext.refl I1) G1.at_, sqI_at h5 (Ext.refl I1) G1.at_, k _ _ M1 _ I1 H1 x1 G1 ?_ q1⟩
    rw [h2.length, h4.length, h6.length]
    exact rows_ok (fun F I M H x A => ⟨sqI_at h1 x A, sqI_at h3 x A, sqI_at h5 x A⟩) fun i hi => .cons (h2.getD (by omega)) (.cons (h4.getD (by omega)) (.cons (h6.getD (by omega)) .nil))) q⟩
end
end BB

set_option maxHeartbeats 4000000
namespace BB
open L2 PySem PySem.Spec PyProof.Rows

/-! ### try .. except C as n: .., try .. except C: .. -/
abbrev DC.try_ (Δ : DC) (I0 : Hp) (W : WX) (Wd : DW) : DC := { F := Δ.F, I0 := I0, W := W, Wd := Wd }
abbrev noW : WX := fun _ _ _ _ => False
abbrev noD : DW := fun _ _ _ _ => False
/-- what the clause wishes, over data -/
def wAsD (K : PySem.W.Frag) (c : Value) (i : Nat) (us : Addr → Value → List (Str × D) → DS) (Wout : DW) (T : EndsD) : DW := fun cls fs env M =>
  ∃ b, PySem.W.exmOne K cls c = some b ∧ (b = true → ∀ a, us a cls fs { nx := fun env' M' => T.nx (env'.set i none) M', rt := T.rt, bk := fun env' M' => T.bk (env'.set i none) M', ct := fun env' M' => T.ct (env'.set i none) M' } (env.set i (some (.ref a))) M) ∧
    (b = false → Wout cls fs env M)
def wOnlyD (K : PySem.W.Frag) (c : Value) (us : Addr → Value → List (Str × D) → DS) (Wout : DW) (T : EndsD) : DW := fun cls fs env M =>
  ∃ b, PySem.W.exmOne K cls c = some b ∧ (b = true → ∀ a, us a cls fs T env M) ∧ (b = false → Wout cls fs env M)
section
variable {X : Cx} {Δ : DC} {x n : Str} {c : Value} {i : Nat} {body suite : List Stmt} {b₀ : Stmt} {np pos pos' : Pos} {tb : WX → TS} {db : DW → DS} {ts : Addr → Value → Option Addr → TS} {us : Addr → Value → List (Str × D) → DS}
/-- some context in which a wish is taken -/
theorem some_xe (hs : X.stack = X.env :: X.outer) (hf : X.env.frame = some X.env.locals) (hex : X.ex = []) (W : WX) : ∃ xe, Takes (X.tr X.pn xe) W ∧ PassesOwn (model X.prog X.w) X.A X.env xe := by
  obtain ⟨xe, e⟩ : ∃ xe, xe = fun e s' => wpAny (model X.prog X.w) X.A (leaving X.env e) (fun _ s'' => CX X.prog X.w X.outer X.H_0 X.s_0 (fun cls d H => ∃ σ, W cls d σ H) e s'') (fun _ _ => True) s' := ⟨_, rfl⟩
  refine ⟨xe, ?_, passes_of (X := X.tr X.pn xe) (E₁ := fun _ _ => True) e⟩
  have t := takes_of (X := X.tr X.pn xe) (E := fun cls d H => ∃ σ, W cls d σ H) (E₁ := fun _ _ => True) hs hf hex e
  exact t.imp fun _ _ σ _ h => ⟨σ, h⟩
theorem exc_some (K : PySem.W.Frag) (d : Option Addr) : ∃ I fs, ExcR K I fs d := by
  cases d with
  | none => exact ⟨fun _ => none, [], rfl⟩
  | some dd => exact ⟨fun a => if a = dd then some (.xd []) else none, [], [], if_pos rfl, .nil⟩
abbrev SuiteOk (X : Cx) (Δ : DC) (suite : List Stmt) (ts : Addr → Value → Option Addr → TS) (us : Addr → Value → List (Str × D) → DS) : Prop :=
  ∀ (a : Addr) (oe : Obj) (cls : Value) (d : Option Addr) (pn : List (Addr × Obj)) (I0 : Hp) (fs : List (Str × D)), Zc cls d oe → (∃ vs, oe.data = .fields vs) → ExcR X.K I0 fs d → PDss (X.suite a ((a, oe) :: pn)) (Δ.try_ I0 noW noD) suite (ts a cls d) (us a cls fs)
abbrev BodyOk (X : Cx) (Δ : DC) (body : List Stmt) (tb : WX → TS) (db : DW → DS) : Prop :=
  ∀ (I0 : Hp) (W : WX) (Wd : DW) (pn : List (Addr × Obj)) (xe : Value → Shared → Prop), XOk (X.tr pn xe) (Δ.try_ I0 W Wd) → PassesOwn (model X.prog X.w) X.A X.env xe → PDss (X.tr pn xe) (Δ.try_ I0 W Wd) body (tb W) (db Wd)
theorem suite_run (hsu : SuiteOk X Δ suite ts us) {cls : Value} {d : Option Addr} {fs : List (Str × D)} {I I' H' : Hp} {M' : Mem} {σ' : L2.St} {env' : Env} {a : Addr} (x : Ext I I') (G : Gd X.K Δ I' M' H' σ' env') (er : ExcR X.K I' fs d) {T : Ends} {Td : EndsD} (R : EndsR X Δ I T Td)
    (h : us a cls fs Td env' M') : ts a cls d T σ' H' := by
  have oe : ∃ oe : Obj, Zc cls d oe ∧ ∃ vs, oe.data = .fields vs := ⟨{ cls := cls, dict := d, data := .fields #[] }, ⟨rfl, rfl⟩, _, rfl⟩
  obtain ⟨oe, hz, hf⟩ := oe
  refine (hsu a oe cls d [] I' fs hz hf er).2 I' M' H' σ' env' ⟨Ext.refl I', G.at_, G.env⟩ T Td ⟨fun env M I2 H2 σ2 x2 G2 q => ?_, fun env M I2 H2 σ2 x2 G2 q => ?_, fun env M I2 H2 σ2 x2 G2 q => ?_, fun d M I2 H2 v x2 b2 A2 r2 q => ?_⟩ h
  · exact R.nx _ _ _ _ _ (x.trans x2) ⟨G.base.trans x2, G2.at_, G2.env⟩ q
  · exact R.bk _ _ _ _ _ (x.trans x2) ⟨G.base.trans x2, G2.at_, G2.env⟩ q
  · exact R.ct _ _ _ _ _ (x.trans x2) ⟨G.base.trans x2, G2.at_, G2.env⟩ q
  · exact R.rt _ _ _ _ _ (x.trans x2) (G.base.trans x2) A2 r2 q
theorem body_run (hs : X.stack = X.env :: X.outer) (hf : X.env.frame = some X.env.locals) (hex : X.ex = []) (hb : BodyOk X Δ body tb db) {W : WX} {Wd : DW} {I H : Hp} {M : Mem} {σ : L2.St} {env : Env} (G : Gd X.K Δ I M H σ env)
    (link : ∀ {I' M' H' σ' env' c fs d}, Ext I I' → Gd X.K Δ I' M' H' σ' env' → ExcR X.K I' fs d → Wd c fs env' M' → W c d σ' H') {T : Ends} {Td : EndsD} (R : EndsR X Δ I T Td) (h : db Wd Td env M) : tb W T σ H := by
  obtain ⟨xe, tk, po⟩ := some_xe hs hf hex W
  refine (hb I W Wd X.pn xe ⟨tk, fun {I' M' H' σ' env' c fs d} G' er w => link G'.base ⟨G.base.trans G'.base, G'.at_, G'.env⟩ er w⟩ po).2 I M H σ env ⟨Ext.refl I, G.at_, G.env⟩ T Td ⟨fun env M I2 H2 σ2 x2 G2 q => ?_, fun env M I2 H2 σ2 x2 G2 q => ?_, fun env M I2 H2 σ2 x2 G2 q => ?_, fun d M I2 H2 v x2 b2 A2 r2 q => ?_⟩ h
  · exact R.nx _ _ _ _ _ x2 ⟨G.base.trans x2, G2.at_, G2.env⟩ q
  · exact R.bk _ _ _ _ _ x2 ⟨G.base.trans x2, G2.at_, G2.env⟩ q
  · exact R.ct _ _ _ _ _ x2 ⟨G.base.trans x2, G2.at_, G2.env⟩ q
  · exact R.rt _ _ _ _ _ x2 (G.base.trans x2) A2 r2 q
def dTryAs (K : PySem.W.Frag) (c : Value) (i : Nat) (us : Addr → Value → List (Str × D) → DS) (Wd : DW) (db : DW → DS) : DS := fun T env M => db (wAsD K c i us Wd T) T env M
theorem pds_tryAs (hs : X.stack = X.env :: X.outer) (hf : X.env.frame = some X.env.locals) (hex : X.ex = []) (hN : X.N.Nodup) (hi : X.N[i]? = some n) (hln : X.env.kindOf n = some .local) (hc : Names X x c) (xo : XOk X Δ)
    (hb : BodyOk X Δ body tb db) (hsu : SuiteOk X Δ (b₀ :: suite) ts us) :
    PDs X Δ (.Try body [.ExceptHandler (some (.Name x np)) (some n) (b₀ :: suite) pos'] [] [] pos) (fun D σ H => tb (wAs X.K c i ts Δ.W D) D σ H) (dTryAs X.K c i us Δ.Wd db) := by
  refine ⟨ps_try_as hs hf hN hi hln hc xo.takes (fun W pn xe tk po => (hb (fun _ => none) W noD pn xe ⟨tk, fun _ _ h => h.elim⟩ po).1) (fun a oe cls d pn hz hd => ?_), fun I M H σ env G T Td R h => ?_⟩
  · obtain ⟨I0, fs, er⟩ := exc_some X.K d
    exact (hsu a oe cls d pn I0 fs hz hd er).1
  · refine body_run hs hf hex hb G (fun {I' M' H' σ' env' cls fs d} x G' er w => ?_) R h
    obtain ⟨b, e, yes, no⟩ := w
    refine ⟨b, e, fun hy a ha => ?_, fun hn => xo.link G' er (no hn)⟩
    refine suite_run hsu (I := I) (Td := { nx := fun env' M' => Td.nx (env'.set i none) M', rt := Td.rt, bk := fun env' M' => Td.bk (env'.set i none) M', ct := fun env' M' => Td.ct (env'.set i none) M' }) x (G'.set (.ref a)) er ⟨fun env M I2 H2 σ2 x2 G2 q => ?_, fun env M I2 H2 σ2 x2 G2 q => ?_, fun env M I2 H2 σ2 x2 G2 q => ?_, R.rt⟩ (yes hy a)
    · exact R.nx _ _ _ _ _ x2 ⟨G2.base, G2.at_, G2.env.setN⟩ q
    · exact R.bk _ _ _ _ _ x2 ⟨G2.base, G2.at_, G2.env.setN⟩ q
    · exact R.ct _ _ _ _ _ x2 ⟨G2.base, G2.at_, G2.env.setN⟩ q
def dTryOnly (K : PySem.W.Frag) (c : Value) (us : Addr → Value → List (Str × D) → DS) (Wd : DW) (db : DW → DS) : DS := fun T env M => db (wOnlyD K c us Wd T) T env M
theorem pds_tryOnly (hs : X.stack = X.env :: X.outer) (hf : X.env.frame = some X.env.locals) (hex : X.ex = []) (hc : Names X x c) (xo : XOk X Δ)
    (hb : BodyOk X Δ body tb db) (hsu : SuiteOk X Δ (b₀ :: suite) ts us) :
    PDs X Δ (.Try body [.ExceptHandler (some (.Name x np)) none (b₀ :: suite) pos'] [] [] pos) (fun D σ H => tb (wOnly X.K c ts Δ.W D) D σ H) (dTryOnly X.K c us Δ.Wd db) := by
  refine ⟨ps_try_only hs hf hc xo.takes (fun W pn xe tk po => (hb (fun _ => none) W noD pn xe ⟨tk, fun _ _ h => h.elim⟩ po).1) (fun a oe cls d pn hz hd => ?_), fun I M H σ env G T Td R h => ?_⟩
  · obtain ⟨I0, fs, er⟩ := exc_some X.K d
    exact (hsu a oe cls d pn I0 fs hz hd er).1
  · refine body_run hs hf hex hb G (fun {I' M' H' σ' env' cls fs d} x G' er w => ?_) R h
    obtain ⟨b, e, yes, no⟩ := w
    exact ⟨b, e, fun hy a ha => suite_run hsu x G' er R (yes hy a), fun hn => xo.link G' er (no hn)⟩
/-- e.f in the suite, e the caught exception -/
def dXf (a : Addr) (cls : Value) (C : Addr) (fs : List (Str × D)) (f : Str) (de : DE) : DE := fun env M Q => de env M fun x M1 => x = .ref a ∧ cls = .ref C ∧ ∃ d, fs.lookup f = some d ∧ Q d M1
theorem pd_xf {a C : Addr} {oe : Obj} {cls : Value} {d : Option Addr} {pn : List (Addr × Obj)} {e : Expr} {te : TE} {de : DE} {f : Str} {I0 : Hp} {fs : List (Str × D)} (T : XfC X.K C) (hno : PySem.W.findIn X.K (.ref C) f = some none)
    (hz : Zc cls d oe) (hf : ∃ vs, oe.data = .fields vs) (er : ExcR X.K I0 fs d) (he : PDe (X.suite a ((a, oe) :: pn)) (Δ.try_ I0 noW noD) e te de) (hb : attributeBase e f X.env (eval e X.env) = eval e X.env := by rfl) :
    PDe (X.suite a ((a, oe) :: pn)) (Δ.try_ I0 noW noD) (.Attribute e f pos) (tXf a cls d C f te) (dXf a cls C fs f de) :=
  ⟨pe_xf T hno hz hf he.1 hb, fun I M H σ env G Q Qd k q => he.2 I M H σ env G _ _ (fun x M1 I1 H1 v x1 G1 r1 q1 => by
    obtain ⟨e1, e2, y, e3, q1⟩ := q1
    subst e1
    refine ⟨r1.ref_inv, e2, ?_⟩
    cases d with
    | none => cases er; cases e3
    | some dd =>
      obtain ⟨fvs, h1, h2⟩ := er
      obtain ⟨u, h3, ru⟩ := h2.look e3
      exact ⟨dd, fvs, u, rfl, G1.at_.ex _ _ (G1.base.xd h1), h3, k _ _ _ _ _ x1 G1 (ru.ext G1.base) q1⟩) q⟩
end
end BB

set_option maxHeartbeats 4000000
namespace BB
open L2 PySem PySem.Spec PyProof.Rows

/-! ### further facts of the written part, as truths -/
def oexB (K : PySem.W.Frag) (C : Addr) : Bool := (match K.lookup C with
  | some ⟨.type c, _, .cls cd, sl⟩ => (match cd.mro, sl.toList with
    | .ref C' :: bm, [_, _, _, _, some (.builtin n), _] => decide (c = "type") && (decide (C' = C) && (decide (n = "ValueError.__new__") && (cd.hasDict && (!cd.hasDel && PySem.HandSPX.refsVE bm))))
    | _, _ => false)
  | _ => false) && (He.eqO (PySem.W.findIn K (.ref C) "__setattr__") (some (some (.builtin "object.__setattr__"))) && (decide (PySem.W.subIn K (.ref C) (.type "BaseException") = some true) &&
    (decide (PySem.W.typeIn K (.ref C) = some (.type "type")) && PySem.W.keepIn K (.ref C))))
theorem oexB_ok {K : PySem.W.Frag} {C : Addr} (h : oexB K C = true) : OexC K C := by
  obtain ⟨h1, h⟩ := He.ba h
  obtain ⟨h2, h⟩ := He.ba h
  obtain ⟨h3, h⟩ := He.ba h
  obtain ⟨h4, h5⟩ := He.ba h
  refine ⟨?_, He.eqO_ok h2, of_decide_eq_true h3, of_decide_eq_true h4, h5⟩
  split at h1
  · rename_i c dd cd sl ho
    split at h1
    · rename_i C' bm k0 k1 k2 k3 n k5 hm hs
      obtain ⟨e1, h1⟩ := He.ba h1
      obtain ⟨e2, h1⟩ := He.ba h1
      obtain ⟨e3, h1⟩ := He.ba h1
      obtain ⟨e4, h1⟩ := He.ba h1
      obtain ⟨e5, e6⟩ := He.ba h1
      have e1 := of_decide_eq_true e1
      have e2 := of_decide_eq_true e2
      have e3 := of_decide_eq_true e3
      subst e1 e2 e3
      obtain ⟨nm, bs, mro, ns, qn, hd, sn, sub, ab, col, del⟩ := cd
      dsimp only at hm e4 e5
      subst hm e4
      have e5 : del = false := by simpa using e5
      subst e5
      have hsl : sl = #[k0, k1, k2, k3, some (.builtin "ValueError.__new__"), k5] := by
        obtain ⟨l⟩ := sl
        simp only at hs
        rw [hs]
      subst hsl
      exact ⟨_, _, _, _, _, _, _, _, _, _, _, _, _, _, _, ho, e6⟩
    · cases h1
  · cases h1
inductive Bf where
  | oex (x : Str) | xf (x : Str) | isi (x : Str)
  | fnty (x m : Str)
  | kit (x y : Str) (b : Bool)
  | kitT (T : String) (x : Str) (b : Bool)
  | kitB (x : Str) (T : String) (b : Bool)
  | mthd (x m : Str)
  | bme (x m : Str) (id : String)
  | all (x : Str)
def Bf.ok (K : PySem.W.Frag) : Bf → Bool
  | .oex x => oexB K (He.ga K x)
  | .xf x => xfB K (He.ga K x)
  | .isi x => He.eqO (PySem.W.findIn K (.ref (He.ga K x)) "__class__") (some (some (.builtin "object.__class__"))) && (He.eqO (PySem.W.specialIn K (.builtin "object.__class__") "__get__") (some (some (.builtin "getset_descriptor.__get__"))) &&
      (decide (PySem.W.takesIn K (.builtin "object.__class__") = some true) && decide (PySem.W.mroIn K (He.ga K x) (.type "object") = some true)))
  | .fnty x m => decide (PySem.W.typeIn K (.ref (He.ma K (He.ga K x) m)) = some (.type "function"))
  | .kit x y b => decide (PySem.W.kitOne K (.ref (He.ga K x)) (.ref (He.ga K y)) = some b)
  | .kitT T x b => decide (PySem.W.kitOne K (.type T) (.ref (He.ga K x)) = some b)
  | .kitB x T b => decide (PySem.W.kitOne K (.ref (He.ga K x)) (.type T) = some b)
  | .mthd x m => He.eqO (PySem.W.findIn K (.ref (He.ga K x)) m) (some (some (.ref (He.ma K (He.ga K x) m))))
  | .bme x m id => He.eqO (PySem.W.findIn K (.ref (He.ga K x)) m) (some (some (.builtin id)))
  | .all x => decide (PySem.W.mroIn K (He.ga K x) (.type "object") = some true)
section
variable {K : PySem.W.Frag} {x y m : Str} {T : String} {b : Bool}
theorem oex_ok (c : (Bf.oex x).ok K = true) : OexC K (He.ga K x) := oexB_ok c
theorem xf_ok (c : (Bf.xf x).ok K = true) : XfC K (He.ga K x) := xfB_ok c
theorem isi_ok (cl : (He.Fa.cls x).ok K = true) (c : (Bf.isi x).ok K = true) : IsiC K (He.ga K x) := by
  obtain ⟨h1, c⟩ := He.ba c
  obtain ⟨h2, c⟩ := He.ba c
  obtain ⟨h3, h4⟩ := He.ba c
  exact ⟨He.cls_ok cl, He.eqO_ok h1, He.eqO_ok h2, of_decide_eq_true h3, of_decide_eq_true h4⟩
theorem fnty_ok (c : (Bf.fnty x m).ok K = true) : PySem.W.typeIn K (.ref (He.ma K (He.ga K x) m)) = some (.type "function") := of_decide_eq_true c
theorem kit_ok (c : (Bf.kit x y b).ok K = true) : PySem.W.kitOne K (.ref (He.ga K x)) (.ref (He.ga K y)) = some b := of_decide_eq_true c
theorem kitT_ok (c : (Bf.kitT T x b).ok K = true) : PySem.W.kitOne K (.type T) (.ref (He.ga K x)) = some b := of_decide_eq_true c
theorem kitB_ok (c : (Bf.kitB x T b).ok K = true) : PySem.W.kitOne K (.ref (He.ga K x)) (.type T) = some b := of_decide_eq_true c
theorem mthd_ok (c : (Bf.mthd x m).ok K = true) : PySem.W.findIn K (.ref (He.ga K x)) m = some (some (.ref (He.ma K (He.ga K x) m))) := He.eqO_ok c
theorem bme_ok {id : String} (c : (Bf.bme x m id).ok K = true) : PySem.W.findIn K (.ref (He.ga K x)) m = some (some (.builtin id)) := He.eqO_ok c
theorem all_ok (c : (Bf.all x).ok K = true) : PySem.W.mroIn K (He.ga K x) (.type "object") = some true := of_decide_eq_true c
end
def exB (fs : List Bf) (K : PySem.W.Frag) : Bool := fs.all fun f => f.ok K
theorem exB_ok {fs : List Bf} {K : PySem.W.Frag} (h : exB fs K = true) (i : Nat) {f : Bf} (e : fs[i]? = some f := by rfl) : f.ok K = true := List.all_eq_true.mp h f (List.mem_of_getElem? e)
/-- a class raised by place -/
theorem raises_fa {X : Cx} {x : Str} (c : (He.Fa.exc x).ok X.K = true) : Raises X (.ref (He.ga X.K x)) := raises_own (He.exc_ok c).2.2.1 (He.exc_ok c).2.2.2

/-! ### a def with what may be left out keeps its promise -/
section
variable {base : Heap} {mg : Str → Option Value} {K : PySem.W.Frag} {P : Program} {w : World}
/-- the context of a def's body -/
def CxOf (P : Program) (w : World) (K : PySem.W.Frag) (mg : Str → Option Value) (base : Heap) (N : List Str) (qual : Str) (scope : Scope) (f : Addr) (k : Nat) (X : Cx) : Prop :=
  ∃ cdv A outer s H Ev, X = cxOf (L2.CX P w) P w K mg base N qual scope f cdv A outer s H Ev ∧ Room k (A.deeper (envOfC qual scope s.heap.objs.size f cdv))
theorem fn_mkD {x qual : Str} {params : Arguments} {body : List Stmt} {scope : Scope} {dvs : List V} {kws : List (Str × V)} {f : Addr} {fd : FuncData} {N ps : List Str} {k : Nat} {sp : SpD} (F : FunD K x qual params body scope dvs kws f fd) (S : FnScope N ps scope)
    (len : ∀ ds M Q E, sp ds M Q E → ds.length = ps.length)
    (hbody : ∀ (X : Cx) (Δ : DC) (M : Mem) (ds : List D) (Q : DKt) (E : DX), CxOf P w K mg base N qual scope f k X → XOk X Δ → (Δ.Wd = fun c fs _ M' => FzV (fun _ M'' => E c fs M'') .non M') → sp ds M Q E →
      ∃ t d, PDss X Δ body t d ∧ d (ends Q) (startD N ds) M) : FnOk P w K mg base (L2.CX P w) (k + 1) f fd ps (liftSp K sp) := by
  refine F.ok S (fun vs H Q E ⟨F0, I, M, ds, Qd, Ed, A, r, h, _⟩ => r.length.trans (len _ _ _ _ h)) (fun cdv A outer s H vs Q E hr ⟨F0, I, M, ds, Qd, Ed, At0, r, h, hn, hx⟩ => ?_)
  obtain ⟨X, eX⟩ : ∃ X, X = cxOf (L2.CX P w) P w K mg base N qual scope f cdv A outer s H E := ⟨_, rfl⟩
  have XK : X.K = K := by rw [eX]; rfl
  have tk : Takes X (fun cls d _ H => E cls d H) := by
    subst eX
    exact takes_of rfl rfl rfl rfl
  obtain ⟨t, d, pd, q⟩ := hbody X { F := F0, I0 := I, W := fun cls d _ H => E cls d H, Wd := fun c fs _ M' => FzV (fun _ M'' => Ed c fs M'') .non M' } M ds Qd Ed ⟨cdv, A, outer, s, H, E, eX, hr⟩ ⟨tk, fun {I1 M1 H1 σ1 env1 c fs dd} G er w => by
      rw [XK] at G er
      obtain ⟨I2, M2, d', x2, A3, r3, q3⟩ := fzv w G.at_ (v := .non) .non
      refine hx c fs M2 I2 H1 dd (G.base.trans x2) A3 ?_ q3
      cases dd with
      | none => exact er
      | some dd => obtain ⟨fvs, e1, e2⟩ := er; exact ⟨fvs, x2.xd e1, e2.ext x2⟩⟩ rfl h
  subst eX
  refine ⟨t, pd.1, pd.2 I M H _ _ ⟨Ext.refl I, At0, envr_start r⟩ _ (ends Qd) ⟨fun env' M' I' H' σ' x G q' => ?_, fun _ _ _ _ _ _ _ q' => q', fun _ _ _ _ _ _ _ q' => q', fun d' M' I' H' v x b A' r' q' => ?_⟩ q⟩
  · obtain ⟨I2, M2, d', x2, A3, r3, q3⟩ := fzv q' G.at_ (v := .non) .non
    exact hn _ _ _ _ _ (x.trans x2) A3 r3 q3
  · obtain ⟨I2, M2, d', x2, A3, r3, q3⟩ := fzv q' A' r'
    exact hn _ _ _ _ _ (x.trans x2) A3 r3 q3
end
end BB

set_option maxHeartbeats 4000000
namespace BB
open L2 PySem PySem.Spec PyProof.Rows

/-! ### len(o), o of a class with its own __len__ -/
def rLenO (C : Addr) (sp : Sp) : List V → Hp → VK → Prop := fun xs H Q => ∃ a dx fs, xs = [.ref a] ∧ H a = some (.ins C dx fs) ∧ sp [.ref a] H (fun v H' => ∃ n : Int, v = .int n ∧ 0 ≤ n ∧ n < 2 ^ 62 ∧ Q (.int n) H') (fun _ _ _ => False)
theorem never_at {X : Cx} : Passes (L2.CX X.prog X.w) X (fun _ _ _ => False) := fun _ _ _ _ _ _ _ c => by
  obtain ⟨_, _, _, _, _, _, _, _, _, _, _, _, h⟩ := c
  exact h.elim
section
variable {X : Cx} {Δ : DC} {C f : Addr} {fd : FuncData} {ps : List Str} {k : Nat}
theorem call_lenO {sp : Sp} (F : FnOk X.prog X.w X.K X.mg X.base (L2.CX X.prog X.w) k f fd ps sp) (hr : Room (k + 1) X.A) (hm : Meth X.K C "__len__" f) (hb : Binds X.K fd ps []) : CallR X (.builtin "len") (rLenO C sp) := by
  rintro pins s σ H xs us Q I r ⟨a, dx, fs, rfl, ea, h⟩
  obtain ⟨_, rfl, same⟩ := vals1 r
  cases same
  have ⟨mA, O, _⟩ := ins_get I.hok ea
  have ⟨od, J, _⟩ := O.look
  obtain ⟨m, fr⟩ := I.fr
  refine PySem.W.len_K fr I.ok.mod.kin J hm.at_ hm.fn ?_
  have hl := F.len _ _ _ _ h
  refine wpAny_call (codeAny_mono (F.run X.A.in1 X.stack s H ⟨[.ref a], []⟩ [.ref a] [.ref a] _ _ hr.in1 I.env0.in1 (by
    have := hb s [.ref a] I.kIn (by simpa using hl)
    simpa using this) (.cons rfl .nil) h) fun r s' hq => ?_)
  cases r with
  | error e => exact never_at pins σ H s e s' I hq
  | ok fl =>
    cases fl with
    | ret u =>
      obtain ⟨v, H', I', rv, n, ev, h0, h1, q⟩ := I.after hq
      subst ev
      obtain ⟨t, rfl⟩ := rv
      exact ⟨⟨h0, by omega⟩, .int n, H', I'.tok _, ⟨_, rfl⟩, q⟩
    | next => exact False.elim hq
    | brk => exact False.elim hq
    | cont => exact False.elim hq
def rdLenO (C : Addr) (sp : SpD) : RDC := fun ds M Q => ∃ x fs, ds = [x] ∧ insOf M x = some (C, fs) ∧ sp [x] M (fun v M' => ∃ n : Int, v = .int n ∧ 0 ≤ n ∧ n < 2 ^ 62 ∧ Q (.int n) M') (fun _ _ _ => False)
theorem snd_lenO {sp : SpD} : SndC X (rLenO C (liftSp X.K sp)) (rdLenO C sp) := by
  intro Δ I M H σ env G vs ds r Q Qd k ⟨x, fs, e, e1, q⟩
  subst e
  obtain ⟨v, rfl, rv⟩ := r.one_inv
  obtain ⟨a, dx, fvs, rfl, h1, h2⟩ := ins_of G.at_ rv e1
  refine ⟨a, dx, fvs, rfl, h1, Δ.F, I, M, [x], _, _, G.at_, .cons rv .nil, q, fun d M' I' H' v x A r' q => ?_, fun _ _ _ _ _ _ _ _ _ w => w⟩
  obtain ⟨n, e2, h0, h3, q⟩ := q
  subst e2
  exact ⟨n, r'.int_inv, h0, h3, k _ _ _ _ _ x (G.go x A) (.int n) q⟩
/-- a negative constant -/
def dNeg (de : DE) : DE := fun env M Q => de env M fun x M1 => ∃ i, x = .int i ∧ Q (.int (-i)) M1
theorem pd_neg {e : Expr} {te : TE} {de : DE} {pos : Pos} (h : PDe X Δ e te de) : PDe X Δ (.UnaryOp .USub e pos) (tUn (rU fun i => .int (-i)) te) (dNeg de) :=
  ⟨pe_un un_neg h.1, fun I M H σ env G Q Qd k q => h.2 I M H σ env G _ _ (fun x M1 I1 H1 v x1 G1 r1 ⟨i, e, q1⟩ => by
    subst e
    exact ⟨i, r1.int_inv, k _ _ _ _ _ x1 G1 (.int _) q1⟩) q⟩
end
/-- a comprehension's block, by one look -/
def blkB (N : List Str) (sc scope : Scope) (own : List (Str × Nat)) : Bool := decide (scope.kind = .function) && (scope.names.all (fun y => decide (scope.names.lookup y.1 = some y.2)) && (own.all (fun p => decide (N[p.2]? = some p.1)) &&
  (scope.names.all (fun y => !decide (y.2 = .free) || (decide (sc.names.lookup y.1 = some .cell) || decide (sc.names.lookup y.1 = some .free))) &&
    scope.names.all (fun y => !(decide (y.2 = .local) || decide (y.2 = .cell)) || (decide (y.1 ∈ own.map (·.1)) || decide (y.1 ∉ N))))))
theorem blkB_ok {N : List Str} {sc scope : Scope} {own : List (Str × Nat)} (h : blkB N sc scope own = true) : BlkOk N sc scope own := by
  obtain ⟨h1, h⟩ := He.ba h
  obtain ⟨h2, h⟩ := He.ba h
  obtain ⟨h3, h⟩ := He.ba h
  obtain ⟨h4, h5⟩ := He.ba h
  refine ⟨of_decide_eq_true h1, fun y hy => of_decide_eq_true (List.all_eq_true.mp h2 y hy), fun p hp => of_decide_eq_true (List.all_eq_true.mp h3 p hp), fun y hy e => ?_, fun y hy e => ?_⟩
  · have := List.all_eq_true.mp h4 y hy
    simpa [e] using this
  · have := List.all_eq_true.mp h5 y hy
    rcases e with e | e <;> simpa [e] using this
/-- f(e, .., k = v, ..) of a def without positional defaults -/
theorem kbn_of {K : PySem.W.Frag} {x qual : Str} {params : Arguments} {body : List Stmt} {scope : Scope} {kws : List (Str × V)} {f : Addr} {fd : FuncData} {ps : List Str} (F : FunD K x qual params body scope [] kws f fd) (n : Nat) (ks : List Str)
    (h : ∀ (kV doc pm : Value) (an : Option Addr) (cdv ct : Value) (us ws : List Value), us.length = n → ws.length = ks.length → bindArgs (PySem.W.fnOf x qual params body scope .none kV doc pm an cdv ct) ⟨us, ks.zip ws⟩ = pure (ps.zip (us ++ ws))) :
    KBn K fd ps n ks (fun us ws => us ++ ws) (fun vs zs => vs ++ zs) := by
  obtain ⟨_, _, _, kV, doc, pm, an, cdv, ct, _, rfl, _, _, dflt, _⟩ := F.ex
  rcases dflt with ⟨_, rfl⟩ | ⟨e, _⟩
  · exact ⟨fun s us ws _ l1 l2 => .of_eq (h kV doc pm an cdv ct us ws l1 l2), fun r rz => r.append rz⟩
  · exact absurd rfl e
end BB

set_option maxHeartbeats 4000000
namespace BB
open L2 PySem PySem.Spec PyProof.Rows

/-! ### a reading told by its data alone -/
abbrev still (F I0 : Hp) : DC := { F := F, I0 := I0, W := fun _ _ _ _ => False, Wd := fun _ _ _ _ => False }
def lfE (K : PySem.W.Frag) (I0 : Hp) (de : DE) : TE := fun σ H Q => ∃ F I M env Qd, Gd K (still F I0) I M H σ env ∧ de env M Qd ∧ ∀ d M' I' H' v, Ext I I' → Gd K (still F I0) I' M' H' σ env → Rp K I' v d → Qd d M' → Q v H'
def lfT (K : PySem.W.Frag) (I0 : Hp) (dt : DT) : TT := fun σ H Q => ∃ F I M env Qd, Gd K (still F I0) I M H σ env ∧ dt env M Qd ∧ ∀ b M' I' H', Ext I I' → Gd K (still F I0) I' M' H' σ env → Qd b M' → Q b H'
def lfW (K : PySem.W.Frag) (I0 : Hp) (vs : List Nat) (dg : DG) : TG := fun v σ H Q => ∃ F I M env d Qd, Gd K (still F I0) I M H σ env ∧ Rp K I v d ∧ dg d env M Qd ∧
  ∀ env' M' I' H' σ', Ext I I' → Gd K (still F I0) I' M' H' σ' env' → L2.wipe σ' vs = L2.wipe σ vs → Qd env' M' → Q σ' H'
section
variable {X : Cx} {I0 : Hp} {e tg : Expr} {ifs : List Expr} {de : DE} {dt : DT} {dg : DG} {vs : List Nat}
theorem lf_e (h : ∀ F, ∃ te, PDe X (still F I0) e te de) (F : Hp) : PDe X (still F I0) e (lfE X.K I0 de) de :=
  ⟨⟨fun pins s σ H Q I ⟨F', I1, M, env, Qd, G, q, k⟩ => by
    obtain ⟨te, p, sn⟩ := h F'
    exact p.run pins s σ H Q I (sn I1 M H σ env G Q Qd k q)⟩, fun I M H σ env G Q Qd k q => ⟨F, I, M, env, Qd, G, q, k⟩⟩
theorem lf_t (h : ∀ F, ∃ t, PDts X (still F I0) ifs t dt) (F : Hp) : PDts X (still F I0) ifs (lfT X.K I0 dt) dt :=
  ⟨⟨fun pins s σ H Q I ⟨F', I1, M, env, Qd, G, q, k⟩ => by
    obtain ⟨te, p, sn⟩ := h F'
    exact p.run pins s σ H Q I (sn I1 M H σ env G Q Qd k q)⟩, fun I M H σ env G Q Qd k q => ⟨F, I, M, env, Qd, G, q, k⟩⟩
theorem lf_w (h : ∀ F, ∃ g, PDgw X (still F I0) vs tg g dg) (F : Hp) : PDgw X (still F I0) vs tg (lfW X.K I0 vs dg) dg :=
  ⟨⟨fun pins s σ H v u Q I r ⟨F', I1, M, env, d, Qd, G, rd, q, k⟩ => by
    obtain ⟨te, p, sn⟩ := h F'
    exact p.run pins s σ H v u Q I r (sn I1 M H σ env G v d rd Q Qd k q)⟩, fun I M H σ env G v d r Q Qd k q => ⟨F, I, M, env, d, Qd, G, r, q, k⟩⟩
end
section
variable {X : Cx} {Δ : DC} {de : DE} {dt : DT} {dg : DG} {wi : TI} {di : DI}
theorem pd_lcX {elt tg iter : Expr} {ifs : List Expr} {scope : Scope} {own : List (Str × Nat)} {pos : Pos} (hc : X.calm = true) (hN : X.N.Nodup) (hi : PDi X Δ tg iter wi di) (ok : BlkOk X.N X.env.scope scope own)
    (hg : ∀ (s : Shared) (H : Hp) (C : Addr) (cl : List (Str × Addr)) (fp : List Addr) (F : Hp), ∃ g, PDgw (X.blk s H scope (compEnvC scope cl C X.env) fp) (still F Δ.I0) (own.map (·.2)) tg g dg)
    (ht : ∀ (s : Shared) (H : Hp) (C : Addr) (cl : List (Str × Addr)) (fp : List Addr) (F : Hp), ∃ t, PDts (X.blk s H scope (compEnvC scope cl C X.env) fp) (still F Δ.I0) ifs t dt)
    (he : ∀ (s : Shared) (H : Hp) (C : Addr) (cl : List (Str × Addr)) (fp : List Addr) (F : Hp), ∃ te, PDe (X.blk s H scope (compEnvC scope cl C X.env) fp) (still F Δ.I0) elt te de) (hs : ∀ x, foldedSetIterable iter X.env x = pure x := by intro _; rfl) :
    PDe X Δ (.ListComp elt [⟨tg, iter, ifs, 0⟩] scope pos) (tLc wi (lfW X.K Δ.I0 (own.map (·.2)) dg) (lfT X.K Δ.I0 dt) (lfE X.K Δ.I0 de) (own.map (·.2))) (dLc di dg dt de (own.map (·.2))) :=
  pd_lc hc hN hi ok (fun s H C cl fp F => lf_w (hg s H C cl fp) F) (fun s H C cl fp F => lf_t (ht s H C cl fp) F) (fun s H C cl fp F => lf_e (he s H C cl fp) F) hs
theorem pds_setLcX {i : Nat} {y : Str} {py : Pos} {elt tg iter : Expr} {ifs : List Expr} {scope : Scope} {own : List (Str × Nat)} {pos spos : Pos} (hc : X.calm = true) (hN : X.N.Nodup) (hy : X.N[i]? = some y) (hyl : X.env.scope.names.lookup y = some .local)
    (hsw : swapsWith (.ListComp elt [⟨tg, iter, ifs, 0⟩] scope pos) (some (.Name y py)) spos.line X.env = pure true) (hi : PDi X Δ tg iter wi di) (ok : BlkOk X.N X.env.scope scope own)
    (hg : ∀ (s : Shared) (H : Hp) (C : Addr) (cl : List (Str × Addr)) (fp : List Addr) (F : Hp), ∃ g, PDgw (X.blk s H scope (compEnvC scope cl C X.env) fp) (still F Δ.I0) (own.map (·.2)) tg g dg)
    (ht : ∀ (s : Shared) (H : Hp) (C : Addr) (cl : List (Str × Addr)) (fp : List Addr) (F : Hp), ∃ t, PDts (X.blk s H scope (compEnvC scope cl C X.env) fp) (still F Δ.I0) ifs t dt)
    (he : ∀ (s : Shared) (H : Hp) (C : Addr) (cl : List (Str × Addr)) (fp : List Addr) (F : Hp), ∃ te, PDe (X.blk s H scope (compEnvC scope cl C X.env) fp) (still F Δ.I0) elt te de) (hs : ∀ x, foldedSetIterable iter X.env x = pure x := by intro _; rfl) :
    PDs X Δ (.Assign [.Name y py] (.ListComp elt [⟨tg, iter, ifs, 0⟩] scope pos) spos) (tAsg (tLc wi (lfW X.K Δ.I0 (own.map (·.2)) dg) (lfT X.K Δ.I0 dt) (lfE X.K Δ.I0 de) (own.map (·.2))) (gName i)) (dSet i (dLc di dg dt de (own.map (·.2)))) :=
  pds_setLc hc hN hy hyl hsw hi ok (fun s H C cl fp F => lf_w (hg s H C cl fp) F) (fun s H C cl fp F => lf_t (ht s H C cl fp) F) (fun s H C cl fp F => lf_e (he s H C cl fp) F) hs

/-! ### try -/
variable {x n : Str} {c : Value} {i : Nat} {body suite : List Stmt} {b₀ : Stmt} {np pos pos' : Pos} {db : DW → DS} {us : Addr → Value → List (Str × D) → DS}
abbrev LinkOk (K : PySem.W.Frag) (Δ : DC) : Prop := ∀ {I M H σ env c fs d}, Gd K Δ I M H σ env → ExcR K I fs d → Δ.Wd c fs env M → Δ.W c d σ H
def lfB (X : Cx) (Δ : DC) (db : DW → DS) : WX → TS := fun W T σ H => ∃ I0 Wd I M env Td, LinkOk X.K (Δ.try_ I0 W Wd) ∧ Gd X.K (Δ.try_ I0 W Wd) I M H σ env ∧ EndsR X (Δ.try_ I0 W Wd) I T Td ∧ db Wd Td env M
def lfU (X : Cx) (Δ : DC) (us : Addr → Value → List (Str × D) → DS) : Addr → Value → Option Addr → TS := fun a cls d T σ H => ∃ I0 fs I M env Td, ExcR X.K I0 fs d ∧ Gd X.K (Δ.try_ I0 noW noD) I M H σ env ∧ EndsR X (Δ.try_ I0 noW noD) I T Td ∧ us a cls fs Td env M
abbrev BodyX (X : Cx) (Δ : DC) (body : List Stmt) (db : DW → DS) : Prop :=
  ∀ (I0 : Hp) (W : WX) (Wd : DW) (pn : List (Addr × Obj)) (xe : Value → Shared → Prop), XOk (X.tr pn xe) (Δ.try_ I0 W Wd) → PassesOwn (model X.prog X.w) X.A X.env xe → ∃ t, PDss (X.tr pn xe) (Δ.try_ I0 W Wd) body t (db Wd)
abbrev SuiteX (X : Cx) (Δ : DC) (suite : List Stmt) (us : Addr → Value → List (Str × D) → DS) : Prop :=
  ∀ (a : Addr) (oe : Obj) (cls : Value) (d : Option Addr) (pn : List (Addr × Obj)) (I0 : Hp) (fs : List (Str × D)), Zc cls d oe → (∃ vs, oe.data = .fields vs) → ExcR X.K I0 fs d → ∃ t, PDss (X.suite a ((a, oe) :: pn)) (Δ.try_ I0 noW noD) suite t (us a cls fs)
theorem bodyX (h : BodyX X Δ body db) : BodyOk X Δ body (lfB X Δ db) db := fun I0 W Wd pn xe xo po =>
  ⟨⟨fun pins s σ H D I ⟨I0', Wd', I1, M, env, Td, lk, G, R, q⟩ => by
    obtain ⟨t, p, sn⟩ := h I0' W Wd' pn xe ⟨xo.takes, fun {I M H σ env c fs d} G' er w => lk G' er w⟩ po
    exact p.run pins s σ H D I (sn I1 M H σ env G D Td ⟨R.nx, R.bk, R.ct, R.rt⟩ q)⟩, fun I M H σ env G T Td R q => ⟨I0, Wd, I, M, env, Td, fun {I M H σ env c fs d} G' er w => xo.link G' er w, G, ⟨R.nx, R.bk, R.ct, R.rt⟩, q⟩⟩
theorem suiteX (h : SuiteX X Δ suite us) : SuiteOk X Δ suite (lfU X Δ us) us := fun a oe cls d pn I0 fs hz hf er =>
  ⟨⟨fun pins s σ H D I ⟨I0', fs', I1, M, env, Td, er', G, R, q⟩ => by
    obtain ⟨t, p, sn⟩ := h a oe cls d pn I0' fs' hz hf er'
    exact p.run pins s σ H D I (sn I1 M H σ env G D Td ⟨R.nx, R.bk, R.ct, R.rt⟩ q)⟩, fun I M H σ env G T Td R q => ⟨I0, fs, I, M, env, Td, er, G, ⟨R.nx, R.bk, R.ct, R.rt⟩, q⟩⟩
theorem pds_tryAsX (hs : X.stack = X.env :: X.outer) (hf : X.env.frame = some X.env.locals) (hex : X.ex = []) (hN : X.N.Nodup) (hi : X.N[i]? = some n) (hln : X.env.kindOf n = some .local) (hc : Names X x c) (xo : XOk X Δ)
    (hb : BodyX X Δ body db) (hsu : SuiteX X Δ (b₀ :: suite) us) :
    PDs X Δ (.Try body [.ExceptHandler (some (.Name x np)) (some n) (b₀ :: suite) pos'] [] [] pos) (fun D σ H => lfB X Δ db (wAs X.K c i (lfU X Δ us) Δ.W D) D σ H) (dTryAs X.K c i us Δ.Wd db) :=
  pds_tryAs hs hf hex hN hi hln hc xo (bodyX hb) (suiteX hsu)
theorem pds_tryOnlyX (hs : X.stack = X.env :: X.outer) (hf : X.env.frame = some X.env.locals) (hex : X.ex = []) (hc : Names X x c) (xo : XOk X Δ)
    (hb : BodyX X Δ body db) (hsu : SuiteX X Δ (b₀ :: suite) us) :
    PDs X Δ (.Try body [.ExceptHandler (some (.Name x np)) none (b₀ :: suite) pos'] [] [] pos) (fun D σ H => lfB X Δ db (wOnly X.K c (lfU X Δ us) Δ.W D) D σ H) (dTryOnly X.K c us Δ.Wd db) :=
  pds_tryOnly hs hf hex hc xo (bodyX hb) (suiteX hsu)
end
end BB

set_option maxHeartbeats 4000000
namespace BB
open L2 PySem PySem.Spec PyProof.Rows

/-! ### stepping through a reading -/
section
variable {env : Env} {M : Mem} {Q : DKt} {T : EndsD} {de da db dc : DE} {dt du : DT} {dl dr : DA} {d : D} {i : Nat}
theorem i_var (h : env[i]? = some (some d)) (q : Q d M) : dVar i env M Q := ⟨d, h, q⟩
theorem i_c (q : Q d M) : dC d env M Q := q
theorem i_n (q : de env M fun x M1 => Q (nrm x) M1) : dN de env M Q := q
theorem i_op {rd : RD2} (q : da env M fun x M1 => db env M1 fun y M2 => rd x y M2 Q) : dOp rd da db env M Q := q
theorem i_rdo {f : Mem → D → D → Option D} {x y : D} (h : f M x y = some d) (q : Q d M) : rdO f x y M Q := ⟨d, h, q⟩
theorem i_test {P : Bool → Mem → Prop} (q : de env M fun x M1 => ∃ k, x = .bl k ∧ P k M1) : dTest de env M P := q
theorem i_chain {rd rd' : RD2} (q : da env M fun x M1 => db env M1 fun y M2 => rd x y M2 fun z M3 => ∃ k, z = .bl k ∧ (if k = true then dc env M3 fun w M4 => rd' y w M4 Q else Q (.bl false) M3)) : dChain rd rd' da db dc env M Q := q
theorem i_tru {P : Bool → Mem → Prop} (q : de env M fun d M1 => ∃ b, dTruth M1 d = some b ∧ P b M1) : dTru de env M P := q
theorem i_and {P : Bool → Mem → Prop} (q : dt env M fun c M1 => if c = true then du env M1 P else P false M1) : dAnd dt du env M P := q
theorem i_or {P : Bool → Mem → Prop} (q : dt env M fun c M1 => if c = true then P true M1 else du env M1 P) : dOr dt du env M P := q
theorem i_not {P : Bool → Mem → Prop} (q : dt env M fun c M1 => P (!c) M1) : dNot dt env M P := q
theorem i_andv (q : da env M fun x M1 => ∃ c, x = .bl c ∧ if c = true then db env M1 Q else Q (.bl false) M1) : dAndV da db env M Q := q
theorem i_orv (q : da env M fun x M1 => ∃ c, x = .bl c ∧ if c = true then Q (.bl true) M1 else db env M1 Q) : dOrV da db env M Q := q
theorem i_notv (q : da env M fun x M1 => ∃ c, dTruth M1 x = some c ∧ Q (.bl (!c)) M1) : dNotV da env M Q := q
theorem i_ifx (q : dt env M fun c M1 => if c = true then da env M1 Q else db env M1 Q) : dIf dt da db env M Q := q
theorem i_nil {P : List D → Mem → Prop} (q : P [] M) : dNil env M P := q
theorem i_cons {P : List D → Mem → Prop} (q : da env M fun x M1 => dr env M1 fun xs M2 => P (x :: xs) M2) : dCons da dr env M P := q
theorem i_tup (q : dl env M fun xs M1 => xs.length ≤ sizeLine ∧ Q (.tup xs) M1) : dTup dl env M Q := q
theorem i_lst (q : dl env M fun xs M1 => xs.length ≤ sizeLine ∧ Q (.lst xs) M1) : dLst dl env M Q := q
theorem i_lstM (q : dl env M fun xs M1 => xs.length ≤ sizeLine ∧ ∀ p, M1 p = none → Q (.ref p) (mset M1 p (.lst xs))) : dLstM dl env M Q := q
theorem i_neg (q : de env M fun x M1 => ∃ i, x = .int i ∧ Q (.int (-i)) M1) : dNeg de env M Q := q
theorem i_cb {rd : RDC} (q : dl env M fun ds M1 => rd ds M1 Q) : dCB rd dl env M Q := q
theorem i_rd1 {f : Mem → D → Option D} {x : D} (h : f M x = some d) (q : Q d M) : rd1 f [x] M Q := ⟨x, rfl, d, h, q⟩
theorem i_call {Wd : DW} {sp : SpD} {dds : List D} (q : dl env M fun us M1 => sp (us ++ dds) M1 Q fun c fs M' => Wd c fs env M') : dCall Wd sp dds dl env M Q := q
theorem i_callK {Wd : DW} {n m : Nat} {sp : SpD} {gD : List D → List D → List D} {dk : DA} (q : dl env M fun us M1 => dk env M1 fun zs M2 => us.length = n ∧ zs.length = m ∧ sp (gD us zs) M2 Q fun c fs M' => Wd c fs env M') : dCallK Wd n m sp gD dl dk env M Q := q
theorem i_meth {Wd : DW} {C : Addr} {m : Str} {sp : SpD} {dds : List D} (q : da env M fun x M1 => ∃ fs, insOf M1 x = some (C, fs) ∧ fs.lookup m = none ∧ dl env M1 fun us M2 => sp (x :: (us ++ dds)) M2 Q fun c fs M' => Wd c fs env M') : dMeth Wd C m sp dds da dl env M Q := q
theorem i_fld {C : Addr} {f : Str} (q : da env M fun x M1 => ∃ fs, insOf M1 x = some (C, fs) ∧ ∃ d, fs.lookup f = some d ∧ Q d M1) : dFld C f da env M Q := q
theorem i_tupIx (q : da env M fun x M1 => ∃ ys : List Str, x = .ntup (ys.map .str) ∧ de env M1 fun y M2 => ∃ z, y = .str z ∧ z ∈ ys ∧ Q (.int (ixOf z ys : Nat)) M2) : dTupIx da de env M Q := q
theorem i_app (q : da env M fun x M1 => ∃ q xs0, x = .ref q ∧ M1 q = some (.lst xs0) ∧ de env M1 fun d M2 => ∃ xs, M2 q = some (.lst xs) ∧ xs.length < sizeLine ∧ Q .non (mset M2 q (.lst (xs ++ [d])))) : dApp da de env M Q := q
theorem i_join (q : da env M fun x M1 => ∃ a, x = .str a ∧ de env M1 fun y M2 => ∃ ys : List Str, seqOf M2 y = some (ys.map .str) ∧ (ys.map (·.length)).sum + ys.length * a.length ≤ 16777216 ∧ Q (.str (Txt.join a ys)) M2) : dJoin da de env M Q := q
theorem i_sl {dlo dhi : DO} (q : de env M fun x M1 => dlo env M1 fun l M2 => dhi env M2 fun u M3 => ∃ d, slD M3 x l u = some d ∧ Q d M3) : dSl de dlo dhi env M Q := q
theorem i_part {P : Option Int → Mem → Prop} (q : de env M fun x M1 => ∃ i, x = .int i ∧ P (some i) M1) : dPart de env M P := q
theorem i_nopart {P : Option Int → Mem → Prop} (q : P none M) : dNoPart env M P := q
/-! statements -/
variable {ds ds' : DS} {dg : DG} {dgs : DGs} {di : DI}
theorem i_next (q : T.nx env M) : dNext T env M := q
theorem i_seq (q : ds { T with nx := FzS (ds' T) } env M) : dSeq ds ds' T env M := q
theorem i_drop (q : de env M fun _ M1 => T.nx env M1) : dDrop de T env M := q
theorem i_ret (q : de env M T.rt) : dRet de T env M := q
theorem i_retN (q : T.rt .non M) : dRetN T env M := q
theorem i_if (q : dt env M fun b M1 => if b = true then ds T env M1 else ds' T env M1) : dIfS dt ds ds' T env M := q
theorem i_raise {Wd : DW} {C : Addr} (q : Wd (.ref C) [] env M) : dRaise Wd C T env M := q
theorem i_raiseI {Wd : DW} {C : Addr} {fn : Str} (q : de env M fun d M1 => Wd (.ref C) [(fn, d)] env M1) : dRaiseI Wd C fn de T env M := q
theorem i_setF {C : Addr} {f : Str} (q : de env M fun d M1 => da env M1 fun x M2 => ∃ p fs, x = .ref p ∧ M2 p = some (.ins C fs) ∧ fs.length < 1000 ∧ T.nx env (mset M2 p (.ins C (putD f d fs)))) : dSetF C f da de T env M := q
theorem i_set (q : de env M fun d M1 => T.nx (env.set i (some d)) M1) : dSet i de T env M := q
theorem i_asg (q : de env M fun d M1 => dg d env M1 T.nx) : dAsg de dg T env M := q
theorem i_gname {P : Env → Mem → Prop} (q : P (env.set i (some d)) M) : gdName i d env M P := q
theorem i_gtup {P : Env → Mem → Prop} {n : Nat} {xs : List D} (h : xs.length = n) (q : dgs xs env M P) : gdTup n dgs (.tup xs) env M P := ⟨xs, rfl, h, q⟩
theorem i_gcons {P : Env → Mem → Prop} {x : D} {xs : List D} (q : dg x env M fun env' M' => dgs xs env' M' P) : gdCons dg dgs (x :: xs) env M P := ⟨x, xs, rfl, q⟩
theorem i_gnil {P : Env → Mem → Prop} (q : P env M) : gdNil [] env M P := ⟨rfl, q⟩
/-- what is walked of a value -/
def wkD (M : Mem) (d : D) (R : List D → (Mem → Prop) → Mem → Prop) : Prop := match d with
  | .tup xs => R xs (fun _ => True) M
  | .lst xs => R xs (fun _ => True) M
  | .frz xs => R xs (fun _ => True) M
  | .str z => R (signs z) (fun _ => True) M
  | .ref p => ∃ xs, M p = some (.lst xs) ∧ R xs (fun M => M p = some (.lst xs)) M
  | _ => False
theorem wk_tup {xs : List D} {R : List D → (Mem → Prop) → Mem → Prop} (q : R xs (fun _ => True) M) : wkD M (.tup xs) R := q
theorem wk_lst {xs : List D} {R : List D → (Mem → Prop) → Mem → Prop} (q : R xs (fun _ => True) M) : wkD M (.lst xs) R := q
theorem wk_str {z : Str} {R : List D → (Mem → Prop) → Mem → Prop} (q : R (signs z) (fun _ => True) M) : wkD M (.str z) R := q
theorem wk_ref {p : Addr} {xs : List D} {R : List D → (Mem → Prop) → Mem → Prop} (h : M p = some (.lst xs)) (q : R xs (fun M => M p = some (.lst xs)) M) : wkD M (.ref p) R := ⟨xs, h, q⟩
theorem i_seqI {R : List D → (Mem → Prop) → Mem → Prop} (q : de env M fun d M1 => wkD M1 d R) : dSeqI de env M R := q
theorem i_yes {P : Bool → Mem → Prop} (q : P true M) : dYes env M P := q
theorem i_all {bs : List Bool} {x : D} (h : lstOf M x = some (bs.map D.bl)) (q : Q (.bl (bs.all id)) M) : rdAll [x] M Q := ⟨x, rfl, bs, h, q⟩
theorem signs_at {z : Str} {i : Nat} {d : D} (h : (signs z)[i]? = some d) : ∃ c, z.cps.toList[i]? = some c ∧ d = .str ⟨#[c]⟩ := by
  unfold signs at h
  rw [List.getElem?_map] at h
  cases e : z.cps.toList[i]? with
  | none => rw [e] at h; exact nomatch h
  | some c => rw [e] at h; exact ⟨c, rfl, (Option.some.inj h).symm⟩
theorem atI_nat {α : Type} {xs : List α} {i : Nat} {x : α} (h : xs[i]? = some x) : atI xs (i : Int) = some x := by
  have hl : i < xs.length := (List.getElem?_eq_some_iff.mp h).1
  unfold atI ixN
  rw [if_pos (by omega), if_pos (by omega)]
  show xs[((i : Nat) : Int).toNat]? = some x
  rw [Int.toNat_natCast]
  exact h
theorem ix_seq_of {x : D} {xs : List D} {i : Nat} (h1 : ∀ z, x ≠ .str z) (h : seqOf M x = some xs) (e : xs[i]? = some d) : ixD M x (.int (i : Nat)) = some d := by
  have : ixD M x (.int (i : Nat)) = (seqOf M x).bind fun xs => atI xs (i : Int) := by
    cases x <;> first | rfl | exact absurd rfl (h1 _)
  rw [this, h]
  exact atI_nat e
theorem ix_tup {xs : List D} {i : Nat} (e : xs[i]? = some d) : ixD M (.tup xs) (.int (i : Nat)) = some d := ix_seq_of (fun _ z => by cases z) rfl e
theorem ix_lst {xs : List D} {i : Nat} (e : xs[i]? = some d) : ixD M (.lst xs) (.int (i : Nat)) = some d := ix_seq_of (fun _ z => by cases z) rfl e
theorem i_rng1 {R : List D → (Mem → Prop) → Mem → Prop} (q : dl env M fun ds M1 => ∃ j : Int, ds = [.int j] ∧ -(2 ^ 62) ≤ j ∧ j < 2 ^ 62 ∧ R (rngD 0 j.toNat) (fun _ => True) M1) : dRng1 dl env M R := q
theorem i_enum {R : List D → (Mem → Prop) → Mem → Prop} (q : dl env M fun ds M1 => ∃ x xs, ds = [x] ∧ fixOf x = some xs ∧ R (enumD xs) (fun _ => True) M1) : dEnum dl env M R := q
theorem i_zip2 {R : List D → (Mem → Prop) → Mem → Prop} (q : dl env M fun ds M1 => ∃ x y xs ys, ds = [x, y] ∧ fixOf x = some xs ∧ fixOf y = some ys ∧ R (zip2D xs ys) (fun _ => True) M1) : dZip2 dl env M R := q
/-- for: by an invariant -/
theorem i_for (q : di env M fun xs keep M1 => ∃ P : Nat → Env → Mem → Prop, P 0 env M1 ∧ (∀ i env M, P i env M → keep M) ∧
  (∀ i d env M, xs[i]? = some d → P i env M → dg d env M fun env' M' => ds { T with nx := FzS (P (i + 1)), ct := FzS (P (i + 1)), bk := T.nx } env' M') ∧ ∀ env M, P xs.length env M → T.nx env M) : dFor di dg ds T env M := q
theorem i_lc {vs : List Nat} (q : di env M fun xs keep M1 => xs.length ≤ sizeLine ∧ ∃ P : Nat → List D → Mem → Prop, P 0 [] M1 ∧ (∀ i acc M, P i acc M → keep M) ∧
  (∀ i d acc M, xs[i]? = some d → P i acc M → dg d (wipeD env vs) M fun env2 M2 => dt env2 M2 fun b M3 => if b = true then de env2 M3 fun y M4 => P (i + 1) (acc ++ [y]) M4 else P (i + 1) acc M3) ∧ ∀ acc M, P xs.length acc M → Q (.lst acc) M) : dLc di dg dt de vs env M Q := q
theorem i_itt {A B : Prop} (q : A) : if true = true then A else B := by rw [if_pos rfl]; exact q
theorem i_itf {A B : Prop} (q : B) : if false = true then A else B := by rw [if_neg Bool.false_ne_true]; exact q
theorem i_nf {A B : Prop} (q : A) : if (!false) = true then A else B := q
theorem i_nt {A B : Prop} (q : B) : if (!true) = true then A else B := q
theorem i_dt {p : Prop} [Decidable p] {A B : Prop} (h : p) (q : A) : if decide p = true then A else B := by rw [if_pos (decide_eq_true h)]; exact q
theorem i_df {p : Prop} [Decidable p] {A B : Prop} (h : ¬p) (q : B) : if decide p = true then A else B := by rw [if_neg (by simpa using h)]; exact q
theorem i_isi {x : D} {n T : String} {b : Bool} (h1 : tyD M x = some T) (h2 : kitB T n = some b) (q : Q (.bl b) M) : rdIsi [x, .ty n] M Q := ⟨x, n, rfl, T, b, h1, h2, q⟩
theorem take_map_succ {α β : Type} {xs : List α} {i : Nat} {d : α} (f : α → β) (h : xs[i]? = some d) : (xs.take i).map f ++ [f d] = (xs.take (i + 1)).map f := by
  rw [List.take_succ, h, List.map_append]; rfl
theorem take_succ_of {α : Type} {xs : List α} {i : Nat} {d : α} (h : xs[i]? = some d) : xs.take i ++ [d] = xs.take (i + 1) := by
  rw [List.take_succ, h]; rfl
end
theorem kb_int_int : kitB "int" "int" = some true := by decide +kernel
theorem kb_int_bool : kitB "int" "bool" = some false := by decide +kernel
theorem kb_str_str : kitB "str" "str" = some true := by decide +kernel
theorem kb_tup_tup : kitB "tuple" "tuple" = some true := by decide +kernel
theorem kb_int_tup : kitB "int" "tuple" = some false := by decide +kernel
theorem kb_int_str : kitB "int" "str" = some false := by decide +kernel
end BB

set_option maxHeartbeats 4000000
namespace BB
open L2 PySem PySem.Spec PyProof.Rows
section
variable {M : Mem} {Q : DKt}
theorem i_eqI {i j : Int} (q : Q (.bl (decide (i = j))) M) : rdEq (.int i) (.int j) M Q := ⟨.int i, .int j, rfl, rfl, rfl, rfl, q⟩
theorem i_neI {i j : Int} (q : Q (.bl (!decide (i = j))) M) : rdNe (.int i) (.int j) M Q := ⟨.int i, .int j, rfl, rfl, rfl, rfl, q⟩
theorem i_neB {a b : Bool} (q : Q (.bl (!decide (a = b))) M) : rdNe (.bl a) (.bl b) M Q := ⟨.bool a, .bool b, rfl, rfl, rfl, rfl, by
  have : PyData.eqv (.bool a) (.bool b) = decide (a = b) := by cases a <;> cases b <;> rfl
  rw [this]; exact q⟩
/-- the same data, told apart from itself -/
theorem i_neSame {x y : D} {p : PyData} (h1 : pyOf M x = some p) (h2 : pyOf M y = some p) (h : SeqAt.shaped p = true) (q : Q (.bl false) M) : rdNe x y M Q := ⟨p, p, h1, h2, h, h, by
  rw [SeqAt.eqv_refl p (SeqAt.canLay_of_shaped h)]; exact q⟩
theorem i_eqSame {x y : D} {p : PyData} (h1 : pyOf M x = some p) (h2 : pyOf M y = some p) (h : SeqAt.shaped p = true) (q : Q (.bl true) M) : rdEq x y M Q := ⟨p, p, h1, h2, h, h, by
  rw [SeqAt.eqv_refl p (SeqAt.canLay_of_shaped h)]; exact q⟩
theorem cut_none {α : Type} {xs : List α} : cutD xs none none = xs := sIx_whole ⟨rfl, rfl⟩
theorem cut_to {α : Type} (xs : List α) (n : Nat) : cutD xs none (some (n : Int)) = xs.take n := by
  unfold cutD
  rw [HT.sIx_none, HT.sIx_nat, List.drop_zero, Nat.sub_zero]
  by_cases h : n ≤ xs.length
  · rw [Nat.min_eq_left h]
  · rw [Nat.min_eq_right (by omega), List.take_of_length_le (Nat.le_refl _), List.take_of_length_le (by omega)]
theorem cut_from {α : Type} (xs : List α) (n : Nat) : cutD xs (some (n : Int)) none = xs.drop n := by
  unfold cutD
  rw [HT.sIx_none, HT.sIx_nat]
  by_cases h : n ≤ xs.length
  · rw [Nat.min_eq_left h, List.take_of_length_le (by rw [List.length_drop]; omega)]
  · rw [Nat.min_eq_right (by omega), List.drop_eq_nil_of_le (Nat.le_refl _), List.drop_eq_nil_of_le (by omega), List.take_nil]
theorem cut_mid {α : Type} (xs : List α) (m n : Nat) (h : m ≤ n) : cutD xs (some (m : Int)) (some (n : Int)) = (xs.take n).drop m := by
  unfold cutD
  rw [HT.sIx_nat, HT.sIx_nat, ← List.drop_take]
  by_cases h1 : n ≤ xs.length
  · rw [Nat.min_eq_left h1, Nat.min_eq_left (by omega)]
  · rw [Nat.min_eq_right (by omega : xs.length ≤ n), List.take_of_length_le (Nat.le_refl _), List.take_of_length_le (show xs.length ≤ n by omega)]
    by_cases h2 : m ≤ xs.length
    · rw [Nat.min_eq_left h2]
    · rw [Nat.min_eq_right (by omega), List.drop_eq_nil_of_le (Nat.le_refl _), List.drop_eq_nil_of_le (by omega)]
theorem eqF_str (a b : Str) : eqF (.str a) (.str b) = decide (a = b) := by
  show (a == b) = _
  by_cases h : a = b
  · rw [decide_eq_true h, h]; exact beq_self_eq_true b
  · rw [decide_eq_false h]; exact beq_eq_false_iff_ne.mpr h
theorem inF_strs (z : Str) : ∀ zs : List Str, inF (.str z) (zs.map .str) = decide (z ∈ zs)
  | [] => rfl
  | y :: ys => by
    have ih := inF_strs z ys
    unfold inF at ih ⊢
    rw [List.map_cons, List.any_cons, ih, eqF_str]
    by_cases h : y = z
    · rw [decide_eq_true h, Bool.true_or, decide_eq_true (by rw [h]; exact List.mem_cons_self)]
    · rw [decide_eq_false h, Bool.false_or]
      by_cases h2 : z ∈ ys
      · rw [decide_eq_true h2, decide_eq_true (List.mem_cons_of_mem _ h2)]
      · rw [decide_eq_false h2, decide_eq_false (by intro w; rcases List.mem_cons.mp w with w | w; exact h w.symm; exact h2 w)]
theorem flat_strs' (zs : List Str) : (zs.map D.str).all flatD = true := by rw [List.all_map]; exact List.all_eq_true.mpr fun _ _ => rfl
theorem i_inS {z : Str} {zs : List Str} {neg : Bool} {y : D} (h : seqOf M y = some (zs.map .str)) (q : Q (.bl (if neg then !decide (z ∈ zs) else decide (z ∈ zs))) M) : rdIn neg (.str z) y M Q :=
  .inl ⟨zs.map .str, h, rfl, flat_strs' zs, by rw [inF_strs]; exact q⟩
theorem strs_at {zs : List Str} {i : Nat} {d : D} (h : (zs.map D.str)[i]? = some d) : ∃ z, zs[i]? = some z ∧ d = .str z := by
  rw [List.getElem?_map] at h
  cases e : zs[i]? with
  | none => rw [e] at h; exact nomatch h
  | some c => rw [e] at h; exact ⟨c, rfl, (Option.some.inj h).symm⟩
theorem enum_at {zs : List Str} {i : Nat} {d : D} (h : (enumD (zs.map D.str))[i]? = some d) : ∃ z, zs[i]? = some z ∧ d = .tup [.int (i : Nat), .str z] := by
  obtain ⟨hlt, e⟩ := rowsD_get h
  rw [List.length_map] at hlt
  refine ⟨zs[i], by simp [hlt], ?_⟩
  rw [e]
  simp [hlt]
theorem zip2_at {xs ys : List Str} {i : Nat} {d : D} (h : (zip2D (xs.map D.str) (ys.map D.str))[i]? = some d) : ∃ x y, xs[i]? = some x ∧ ys[i]? = some y ∧ d = .tup [.str x, .str y] := by
  obtain ⟨hlt, e⟩ := rowsD_get h
  rw [List.length_map, List.length_map] at hlt
  have h1 : i < xs.length := by omega
  have h2 : i < ys.length := by omega
  exact ⟨xs[i], ys[i], by simp [h1], by simp [h2], by rw [e]; simp [h1, h2]⟩
theorem rng_at {lo : Int} {n i : Nat} {d : D} (h : (rngD lo n)[i]? = some d) : i < n ∧ d = .int (lo + (i : Nat)) := by
  have hlt : i < n := by
    have := (List.getElem?_eq_some_iff.mp h).1
    simpa [rngD] using this
  refine ⟨hlt, ?_⟩
  simp only [rngD, List.getElem?_map, List.getElem?_range hlt] at h
  simpa using h.symm
theorem rng_len {lo : Int} {n : Nat} : (rngD lo n).length = n := by simp [rngD]
theorem drop_at {α : Type} {xs : List α} {i : Nat} {x : α} (h : xs[i]? = some x) : xs.drop i = x :: xs.drop (i + 1) := by
  have hl : i < xs.length := (List.getElem?_eq_some_iff.mp h).1
  rw [List.drop_eq_getElem_cons hl]
  congr 1
  exact (List.getElem?_eq_some_iff.mp h).2
end
end BB

set_option maxHeartbeats 2000000
namespace BB
open L2 PySem PySem.Spec PyProof.Rows
/-! repr of plain things, where nothing is under way -/
def rRepr (K : PySem.W.Frag) : List V → Hp → VK → Prop := fun xs H Q => ∃ a d, xs = [.ref a] ∧ Dp K H (.ref a) d ∧ (d.showable = true ∧ d.hasDict = false ∧ d.depth ≤ 32 ∧ d.shown.length ≤ sizeLine) ∧ Q (.str d.shown) H
theorem call_repr {X : Cx} (quiet : X.A.guards = some []) (few : X.A.units + 64 < cLine) : CallR X (.builtin "repr") (rRepr X.K)
  | pins, s, σ, H, _, _, Q, I, .cons same .nil, ⟨a, d, one, stands, ⟨shows, noDict, flat, short⟩, q⟩ => by
    cases one; cases same
    have ⟨_, reads⟩ := stands.reads I _ _ _ rfl
    exact repr_of_reads' (h₀ := s.heap) reads shows (fun z => by rw [noDict] at z; cases z) quiet (by omega) (fun _ _ e => e) (fun h' u tk kp => ⟨.str _, H, I.kept (t' := tk) kp, ⟨u, rfl⟩, q⟩) short
def isSeqP : PyData → Bool
  | .list _ | .tuple _ => true
  | _ => false
def rdRepr : RDC := fun ds M Q => ∃ x p, ds = [x] ∧ pyOf M x = some p ∧ isSeqP p = true ∧ (p.showable = true ∧ p.hasDict = false ∧ p.depth ≤ 32 ∧ p.shown.length ≤ sizeLine) ∧ Q (.str p.shown) M
theorem snd_repr {X : Cx} : SndC X (rRepr X.K) rdRepr := by
  intro Δ I M H σ env G vs ds r Q Qd k ⟨x, p, e, hp, seq, ok, q⟩
  subst e
  obtain ⟨v, rfl, rv⟩ := r.one_inv
  have dp := pyOf_dp G.at_ rv hp
  have fin := k (.str p.shown) M I H (.str p.shown) (Ext.refl I) G (.str _) q
  cases dp with
  | lst h1 h2 => exact ⟨_, _, rfl, .lst h1 h2, ok, fin⟩
  | tup h1 h2 => exact ⟨_, _, rfl, .tup h1 h2, ok, fin⟩
  | _ => cases seq
end BB

set_option maxHeartbeats 2000000
namespace BB
open L2 PySem PySem.Spec PyProof.Rows
/-! a def's promise around one A alone -/
def FnAt (P : Program) (w : World) (K : PySem.W.Frag) (mg : Str → Option Value) (base : Heap) (CX : CXT) (A : Around) (f : Addr) (fd : FuncData) (ps : List Str) (sp : Sp) : Prop :=
  ∀ (outer : List PySem.Env) (s : Shared) (H : Hp) (args : Args) (us : List Value) (vs : List V) (Q : VK) (E : XK), Env0 P w K mg base A outer s H → BindsTo s fd args (ps.zip us) → Vals vs us → sp vs H Q E →
    codeAny (model P w) A (.call (.ref f) args) (CR CX outer P w H s Q E) s
theorem fnAt_of {CX : CXT} {P : Program} {w : World} {K : PySem.W.Frag} {mg : Str → Option Value} {base : Heap} {k : Nat} {f : Addr} {name qual : Str} {params : Arguments} {body : List Stmt} {scope : Scope} {dV kV doc pm cdv ct oc : Value} {an od : Option Addr}
    {osl : Array (Option Value)} {N ps : List Str} {sp : Sp} {A : Around} (lk : K.lookup f = some ⟨oc, od, .func (PySem.W.fnOf name qual params body scope dV kV doc pm an cdv ct), osl⟩) (hcd : PySem.W.codeIn K cdv qual = true) (S : FnScope N ps scope)
    (len : ∀ vs H Q E, sp vs H Q E → vs.length = ps.length) (hr : Room (k + 1) A)
    (inner : ∀ (outer : List PySem.Env) (s : Shared) (H : Hp) (vs : List V) (Q : VK) (E : XK), sp vs H Q E →
      ∃ t, PSs (cxOf CX P w K mg base N qual scope f cdv A outer s H E) body t ∧ t { nx := fun _ H' => Q .non H', rt := Q } (L2.start N vs) H) :
    FnAt P w K mg base CX A f (PySem.W.fnOf name qual params body scope dV kV doc pm an cdv ct) ps sp := by
  intro outer s H args us vs Q E at0 binds same asked
  have stands : ∀ {b : Addr} {o : Obj}, base.get? b = some o → s.heap.get? b = some o := fun e => (at0.bs _ _ e).1
  have inK : K.In s.heap := at0.mod.kin.keeps fun _ _ => stands
  have kinds : ∀ y ∈ ps.zip us, scope.names.lookup y.1 = some .local ∨ (scope.names.lookup y.1 = some .cell ∧ ((cellsFrom (s.heap.objs.size + 1) scope.names []).lookup y.1).isSome = true) :=
    fun y mem => (S.par y.1 (List.of_mem_zip (a := y.1) (b := y.2) mem).1).imp id fun z => ⟨z, PySem.W.cellsFrom_some _ _ _ (.inl z)⟩
  refine codeAny_call_function hr.depth (inK _ _ lk) rfl S.co S.gen rfl (PySem.W.codeRec_of inK hcd) (binds _ _ _ _ (wpAny_newFunctionEnv_cells S.kind kinds fun env isEnv s1 new => ?_))
  subst isEnv
  obtain ⟨t, walked, goal⟩ := inner outer s H vs Q E asked
  have I : L2.Inv (cxOf CX P w K mg base N qual scope f cdv A outer s H E) [] (L2.start N vs) H s1 := inv_start S hr.hd at0 (len _ _ _ _ asked) same new
  refine ⟨(at0.mod.nolimit.keeps fun _ _ => stands).keeps new.toInCall.keep, codeAny_func (wpAny_mono (walked.run [] s1 (L2.start N vs) H _ I goal) (fun fl s' hs => ?_) fun _ _ hs => hs)⟩
  cases fl with
  | ret u => obtain ⟨v, _, H', J, rv, q⟩ := hs; exact ⟨v, H', J.os, J.bare, J.base, J.hok, rv, q⟩
  | next => obtain ⟨_, H', J, q⟩ := hs; exact ⟨.non, H', J.os, J.bare, J.base, J.hok, rfl, q⟩
  | brk => obtain ⟨_, _, _, q⟩ := hs; exact q.elim
  | cont => obtain ⟨_, _, _, q⟩ := hs; exact q.elim
end BB

set_option maxHeartbeats 2000000
namespace BB
open L2 PySem PySem.Spec PyProof.Rows
/-! the law, called where nothing is under way, from its promise there -/
section
variable {P : Program} {w : World} {K : PySem.W.Frag} {mg mb : Str → Option Value} {CX : CXT} {k : Nat} {fa a : Addr} {fd : FuncData} {x : Str} {sp : Sp} {s₁ : Shared} {vs : List Value} {ns : List Int}
abbrev Ends1 (s₁ : Shared) (r : Result) (s' : Shared) : Prop := r = .ok (.ret (.bool true)) ∧ OldK s₁.heap s'.heap ∧ s'.os = s₁.os ∧ AllBare s'.gens
theorem law_from (KX : K.In s₁.heap) (gl : s₁.heap.Ns mainGlobals mg) (bl : s₁.heap.Ns builtinsNs mb) (boot : ∀ x : Str, x ≠ "__name__" → mb x = bootBuiltins x) (lim : s₁.heap.NoLimit) (noGen : s₁.gens = #[])
    (at1 : s₁.heap.get? a = some { cls := .type "list", data := .seq vs.toArray })
    (F : ∀ base : Heap, K.In base → base.Ns mainGlobals mg → FnAt P w K mg base CX callerA fa fd [x] sp) (binds : ∀ (s : Shared) (u : Value), BindsTo s fd ⟨[u], []⟩ [(x, u)])
    (noExc : ∀ H e s', CX [] H s₁ (fun _ _ _ => False) e s' → False) (H : Hp) (only : Only H) (ok : HOk P w H s₁.heap) (own : ∀ b, H b ≠ none → b = a ∧ K.lookup a = none)
    (asks : sp [.ref a] H (fun v _ => v = .bl true) fun _ _ _ => False) : codeAny (model P w) callerA (.call (.ref fa) ⟨[.ref a], []⟩) (Ends1 s₁) s₁ := by
  have seen : ∀ {b : Addr} {o : Obj}, s₁.heap.get? b = some o → (b = a → H a = none) → (hidT s₁.heap H).get? b = some o := fun {b o} e n => hidT_get e (Classical.byContradiction fun z => by
    have same := (own b z).1
    subst same
    exact z (n rfl))
  have names : ∀ {b : Addr} {m : Str → Option Value}, s₁.heap.Ns b m → (hidT s₁.heap H).Ns b m := fun {b m} ⟨o, es, ep, e, d, rest⟩ => ⟨o, es, ep, seen e (fun z => by
    subst z
    rw [at1] at e
    cases e
    exact nomatch d), d, rest⟩
  have inB : K.In (hidT s₁.heap H) := fun b o e => seen (KX b o e) fun z => Classical.byContradiction fun n => by
    subst z
    rw [(own b n).2] at e
    cases e
  obtain ⟨mc, lim1, lim2⟩ := lim
  have begin0 : Env0 P w K mg (hidT s₁.heap H) callerA [] s₁ H := ⟨rfl, ⟨inB, names gl, ⟨mb, names bl, boot⟩, ⟨mc, names lim1, lim2⟩⟩, fun _ _ e => of_hidT e, Nat.le_of_eq (hidT_size _ _), trivial, fun _ z => (by cases z), ok, .of_eq noGen⟩
  refine codeAny_mono (F _ inB (names gl) [] s₁ H ⟨[.ref a], []⟩ [.ref a] [.ref a] _ _ begin0 (binds s₁ _) (.cons rfl .nil) asks) fun
    | .ok (.ret u), s', ⟨_, H', os, bare, un, ok', same, yes⟩ => ?_
    | .error e, s', h => (noExc H e s' h).elim
    | .ok .next, _, h => h.elim
    | .ok .brk, _, h => h.elim
    | .ok .cont, _, h => h.elim
  have yes' : _ = V.bl true := yes
  subst yes'
  cases same
  refine ⟨rfl, OldK.of_keep fun b o e => ?_, os, bare⟩
  rcases only b with free | ⟨ob, xs, frz⟩
  · exact un.keep b o e free (fun z => by cases z) (by simp)
  · have was := (ok b _ frz).1
    rw [was] at e
    cases e
    exact (ok' b _ (un.frzs b _ _ frz)).1
end
end BB

set_option maxHeartbeats 2000000
namespace BB
open L2 PySem PySem.Spec PyProof.Rows
/-! a law's end where its def's promise is asked at callerA alone -/
/-- the script: an own object of the module, or tracked by itself -/
theorem script_at {P : Program} {w : World} {K : PySem.W.Frag} {a : Addr} {s₁ : Shared} {vs : List Value} {ns : List Int} (KX : K.In s₁.heap) (at1 : s₁.heap.get? a = some { cls := .type "list", data := .seq vs.toArray }) (nums : IntsAre vs ns) (few : ns.length ≤ sizeLine) :
    ∃ H : Hp, Only H ∧ HOk P w H s₁.heap ∧ (∀ b, H b ≠ none → b = a ∧ K.lookup a = none) ∧ SqL K H a (ns.map V.int) := by
  have same := vals_ints nums
  have short : (ns.map V.int).length ≤ sizeLine := by rw [List.length_map]; exact few
  rcases hk : K.lookup a with _ | o
  · let ob : Obj := { cls := .type "list", data := .seq vs.toArray }
    have one : ∀ b u, (if b = a then some (HO.frz ob (.lst (ns.map V.int))) else none) = some u → b = a ∧ u = .frz ob (.lst (ns.map V.int)) := fun b u z => by
      by_cases e : b = a
      · rw [if_pos e] at z
        exact ⟨e, (Option.some.inj z).symm⟩
      · rw [if_neg e] at z
        exact nomatch z
    refine ⟨fun b => if b = a then some (.frz ob (.lst (ns.map V.int))) else none, fun b => ?_, fun b u z => ?_, fun b z => ?_, .inl (.inr ⟨ob, if_pos rfl⟩)⟩
    · by_cases e : b = a
      · exact .inr ⟨_, _, if_pos e⟩
      · exact .inl (if_neg e)
    · obtain ⟨rfl, rfl⟩ := one b u z
      exact ⟨at1, short, vs, _, same, at1⟩
    · exact ⟨Classical.byContradiction fun e => z (if_neg e), rfl⟩
  · have e := KX a o hk
    rw [at1] at e
    cases e
    refine ⟨fun _ => none, fun _ => .inl rfl, (fun _ _ z => by cases z), (fun _ z => absurd rfl z), .inr ⟨_, vs.toArray, _, hk, rfl, rfl, rfl, ?_, by simpa using same⟩⟩
    rw [List.size_toArray, nums.length]
    exact few
theorem walk_ofG {l : PySem.W.OpenLaw} {n : Nat} {q : Program} {loose : List Str} {XP : (Str → Option Value) → Heap → Prop} {YP : World → Heap → Prop} {d : DefRec} {CX : CXT} {x : Str}
    (most : l.most = some n) (inSize : n ≤ sizeLine) (plain : d.params.defaults = [])
    (F : ∀ (w : World) (mg : Str → Option Value) (fa : Addr) (h : Heap), YP w h → h.Ns mainGlobals mg → mg d.name = some (.ref fa) →
      ∃ (K : PySem.W.Frag) (fd : FuncData) (sp : Sp), K.In h ∧ (∀ (s : Shared) (u : Value), BindsTo s fd ⟨[u], []⟩ [(x, u)]) ∧
        (∀ (H : Hp) (a : Addr) (ns : List Int), ns.length ≤ n → Only H → SqL K H a (ns.map V.int) → sp [.ref a] H (fun v _ => v = .bl true) fun _ _ _ => False) ∧
        ∀ base : Heap, K.In base → base.Ns mainGlobals mg → FnAt l.prog w K mg base CX callerA fa fd [x] sp)
    (noExc : ∀ (H : Hp) (s : Shared) (e : Value) (s' : Shared), CX [] H s (fun _ _ _ => False) e s' → False) : PySem.W.WalkO q loose XP YP l.row.toRowW d [] (fun f vs => PySem.call f vs) :=
  Att.attach_call most plain fun w s₀ s₁ mg mb fa o pm cd doc a vs ns G Y _ _ _ named at1 nums len noGen => by
    obtain ⟨K, fd, sp, KX, binds, asks, promise⟩ := F w mg fa _ Y G.T.g named
    obtain ⟨H, only, ok, own, sq⟩ := script_at (P := l.prog) (w := w) KX at1 nums (Nat.le_trans len inSize)
    exact law_from KX G.T.g G.T.b G.T.builtins G.T.nolimit noGen at1 promise binds (fun H e s' => noExc H s₁ e s') H only ok own (asks H a ns len only sq)
end BB

set_option maxHeartbeats 2000000
namespace BB
open L2 PySem PySem.Spec PyProof.Rows
section
variable {base : Heap} {mg : Str → Option Value} {K : PySem.W.Frag} {P : Program} {w : World}
/-- the same, at one A; the body is told what is under way there -/
theorem fnAt_mk {x qual : Str} {params : Arguments} {body : List Stmt} {scope : Scope} {dvs : List V} {kws : List (Str × V)} {f : Addr} {fd : FuncData} {N ps : List Str} {k : Nat} {sp : SpD} {A : Around} (hr0 : Room (k + 1) A) (F : FunD K x qual params body scope dvs kws f fd) (S : FnScope N ps scope)
    (len : ∀ ds M Q E, sp ds M Q E → ds.length = ps.length)
    (hbody : ∀ (X : Cx) (Δ : DC) (M : Mem) (ds : List D) (Q : DKt) (E : DX), CxOf P w K mg base N qual scope f k X → X.A.guards = A.guards → XOk X Δ → (Δ.Wd = fun c fs _ M' => FzV (fun _ M'' => E c fs M'') .non M') → sp ds M Q E →
      ∃ t d, PDss X Δ body t d ∧ d (ends Q) (startD N ds) M) : FnAt P w K mg base (L2.CX P w) A f fd ps (liftSp K sp) := by
  obtain ⟨_, _, _, _, _, _, _, cdv, _, _, rfl, lk, hcd, _, _⟩ := F.ex
  refine fnAt_of lk hcd S (fun vs H Q E ⟨F0, I, M, ds, Qd, Ed, A, r, h, _⟩ => r.length.trans (len _ _ _ _ h)) hr0 (fun outer s H vs Q E ⟨F0, I, M, ds, Qd, Ed, At0, r, h, hn, hx⟩ => ?_)
  have hr : Room k (A.deeper (envOfC qual scope s.heap.objs.size f cdv)) := hr0.deeper _
  obtain ⟨X, eX⟩ : ∃ X, X = cxOf (L2.CX P w) P w K mg base N qual scope f cdv A outer s H E := ⟨_, rfl⟩
  have XK : X.K = K := by rw [eX]; rfl
  have tk : Takes X (fun cls d _ H => E cls d H) := by
    subst eX
    exact takes_of rfl rfl rfl rfl
  obtain ⟨t, d, pd, q⟩ := hbody X { F := F0, I0 := I, W := fun cls d _ H => E cls d H, Wd := fun c fs _ M' => FzV (fun _ M'' => Ed c fs M'') .non M' } M ds Qd Ed ⟨cdv, A, outer, s, H, E, eX, hr⟩ (by rw [eX]; rfl) ⟨tk, fun {I1 M1 H1 σ1 env1 c fs dd} G er w => by
      rw [XK] at G er
      obtain ⟨I2, M2, d', x2, A3, r3, q3⟩ := fzv w G.at_ (v := .non) .non
      refine hx c fs M2 I2 H1 dd (G.base.trans x2) A3 ?_ q3
      cases dd with
      | none => exact er
      | some dd => obtain ⟨fvs, e1, e2⟩ := er; exact ⟨fvs, x2.xd e1, e2.ext x2⟩⟩ rfl h
  subst eX
  refine ⟨t, pd.1, pd.2 I M H _ _ ⟨Ext.refl I, At0, envr_start r⟩ _ (ends Qd) ⟨fun env' M' I' H' σ' x G q' => ?_, fun _ _ _ _ _ _ _ q' => q', fun _ _ _ _ _ _ _ q' => q', fun d' M' I' H' v x b A' r' q' => ?_⟩ q⟩
  · obtain ⟨I2, M2, d', x2, A3, r3, q3⟩ := fzv q' G.at_ (v := .non) .non
    exact hn _ _ _ _ _ (x.trans x2) A3 r3 q3
  · obtain ⟨I2, M2, d', x2, A3, r3, q3⟩ := fzv q' A' r'
    exact hn _ _ _ _ _ (x.trans x2) A3 r3 q3
end
end BB

set_option maxHeartbeats 2000000
namespace BB
open L2 PySem PySem.Spec PyProof.Rows
/-! a local name that holds one of the module's defs is called, with keywords -/
section
variable {X : Cx} {Δ : DC} {e : Expr} {pos p : Pos} {es : List Expr} {tl : TA} {dl : DA} {k i n : Nat} {f : Addr} {fd : FuncData} {ps : List Str} {sp : SpD} {x : Str} {ks : List Str} {kws : List Keyword} {tk : TA} {dk : DA}
variable {g : List Value → List Value → List Value} {gV : List V → List V → List V} {gD : List D → List D → List D}
theorem by_local {args : List Expr} {t : TE} (hv : PE X (.Name x p) (tVar i))
    (go : ∀ pins s σ H Q, Inv X pins σ H s → t σ H Q → wpAny (model X.prog X.w) X.A (callWith pos (.ref f) [] (backTo pos (starEach args X.env)) (backToKw pos (keywordEach kws X.env))) (EP X pins σ Q) X.xe s) :
    PE X (.Call (.Name x p) args kws pos) (fun σ H Q => σ[i]? = some (some (.ref f)) ∧ t σ H Q) :=
  ⟨fun pins s σ H Q I ⟨slot, q⟩ => wpAny_Call_Name_kw (thn (hv.run pins s σ H (fun v H1 => v = .ref f ∧ H1 = H) I ⟨.ref f, slot, rfl, rfl⟩) fun u s1 ⟨v, H1, I1, same, isF, isH⟩ => by
    subst isF isH
    cases same
    exact go pins s1 σ _ Q I1 q)⟩
theorem pe_callLK {CX : CXT} {sp : Sp} {E : L2.St → XK} {t tk : TA} (hv : PE X (.Name x p) (tVar i)) (F : FnOk X.prog X.w X.K X.mg X.base CX k f fd ps sp) (hr : Room k X.A) (hk : PySem.W.keepIn X.K (.ref f) = true) (hb : KBn X.K fd ps n ks g gV) (hx : ∀ σ, PassesAt CX X σ (E σ))
    (ha : PA X (e :: es) t) (hkw : PK X kws tk) (read : ArgsK X pos e es kws ks) : PE X (.Call (.Name x p) (e :: es) kws pos) (fun σ H Q => σ[i]? = some (some (.ref f)) ∧ tCallKS n ks.length sp gV E t tk σ H Q) := by
  obtain ⟨first, plain, named, rfl⟩ := read
  refine by_local hv fun pins s σ H Q I q => PySem.W.callWith_KW I.ok.mod.kin hk named ?_ plain first
  refine thn (ha.run pos pins s σ H _ I q) fun _ s1 ⟨_, H1, I1, r1, q1⟩ => thn (hkw.run pos pins s1 σ H1 _ I1 q1) fun _ _ ⟨_, _, I2, r2, l1, l2, q2⟩ => ?_
  exact ⟨I2.kIn, run_fnKS F hr hb (hx σ) I2 r1 r2 l1 l2 q2⟩
def dHolds (i : Nat) (f : Addr) (d : DE) : DE := fun env M Q => env[i]? = some (some (.ref f)) ∧ d env M Q
theorem pd_callLK (hv : PE X (.Name x p) (tVar i)) (F : FnOk X.prog X.w X.K X.mg X.base (L2.CX X.prog X.w) k f fd ps (liftSp X.K sp)) (hr : Room k X.A) (hk : PySem.W.keepIn X.K (.ref f) = true) (hb : KBn X.K fd ps n ks g gV)
    (hgd : ∀ {I vs us zs ws}, Rps X.K I vs us → Rps X.K I zs ws → Rps X.K I (gV vs zs) (gD us ws)) (xo : XOk X Δ) (ha : PDa X Δ (e :: es) tl dl) (hkw : PDk X Δ kws tk dk) (read : ArgsK X pos e es kws ks := by exact ⟨rfl, rfl, rfl, rfl⟩) :
    PDe X Δ (.Call (.Name x p) (e :: es) kws pos) (fun σ H Q => σ[i]? = some (some (.ref f)) ∧ tCallKS n ks.length (liftSp X.K sp) gV (WE Δ.W) tl tk σ H Q) (dHolds i f (dCallK Δ.Wd n ks.length sp gD dl dk)) :=
  ⟨pe_callLK hv F hr hk hb (passAt xo.takes) ha.1 hkw.1 read, fun I M H σ env G Q Qd k ⟨slot, q⟩ => by
    obtain ⟨v, e1, r⟩ := G.env.get i _ slot
    rw [r.ref_inv] at e1
    refine ⟨e1, ha.2 I M H σ env G _ _ (fun us M1 I1 H1 vs x1 G1 r1 q1 => hkw.2 I1 M1 H1 σ env G1 _ _ (fun zs M2 I2 H2 ws x2 G2 r2 ⟨l1, l2, q2⟩ => ?_) q1) q⟩
    exact ⟨r1.length.trans l1, r2.length.trans l2, lift_at xo G2 (hgd (r1.ext x2) r2) q2 fun d M' I' H' v x => k d M' I' H' v ((x1.trans x2).trans x)⟩⟩
/-- two readings of one expression: by cases -/
def dEither (a b : DE) : DE := fun env M Q => a env M Q ∨ b env M Q
theorem pd_either {t u : TE} {a b : DE} (ha : PDe X Δ e t a) (hb : PDe X Δ e u b) : PDe X Δ e (fun σ H Q => t σ H Q ∨ u σ H Q) (dEither a b) :=
  ⟨⟨fun pins s σ H Q I q => q.elim (ha.1.run pins s σ H Q I) (hb.1.run pins s σ H Q I)⟩, fun I M H σ env G Q Qd k q => q.imp (ha.2 I M H σ env G Q Qd k) (hb.2 I M H σ env G Q Qd k)⟩
end
end BB

set_option maxHeartbeats 2000000
namespace BB
open L2 PySem PySem.Spec PyProof.Rows
/-! defs whose promise is asked where no guard is under way -/
def OkG (P : Program) (w : World) (K : PySem.W.Frag) (mg : Str → Option Value) (base : Heap) (k : Nat) (f : Addr) (fd : FuncData) (ps : List Str) (sp : SpD) : Prop :=
  ∀ A : Around, Room k A → A.guards = some [] → FnAt P w K mg base (L2.CX P w) A f fd ps (liftSp K sp)
section
variable {X : Cx} {Δ : DC} {e : Expr} {pos p : Pos} {es : List Expr} {tl : TA} {dl : DA} {k : Nat} {f : Addr} {fd : FuncData} {ps : List Str} {sp : SpD} {x : Str}
theorem pe_callG (F : OkG X.prog X.w X.K X.mg X.base k f fd ps sp) (hr : Room k X.A) (hq : X.A.guards = some []) (len : ∀ ds M Q E, sp ds M Q E → ds.length = ps.length) (hg : Gl X x) (hm : X.mg x = some (.ref f)) (hk : PySem.W.keepIn X.K (.ref f) = true) (hb : Binds X.K fd ps []) {E : L2.St → XK} (hx : ∀ σ, PassesAt (L2.CX X.prog X.w) X σ (E σ))
    (ha : PA X (e :: es) tl) (own : OwnName x) (read : Args1 X pos e es) : PE X (.Call (.Name x p) (e :: es) [] pos) (tCallSD (liftSp X.K sp) [] E tl) := by
  refine by_name hg hm own fun pins s σ H Q I h => PySem.W.callWith_K I.ok.mod.kin hk (thn (ha.run pos pins s σ H _ I h) fun us s1 ⟨vs, H1, I1, r, q⟩ => ⟨I1.kIn, ?_⟩) read.1 read.2
  replace q : liftSp X.K sp vs H1 Q (E σ) := by
    have q' : liftSp X.K sp (vs ++ []) H1 Q (E σ) := q
    rw [List.append_nil] at q'
    exact q'
  have l1 : vs.length = ps.length := by
    obtain ⟨_, _, _, ds, _, _, _, rs, hs, _⟩ := q
    exact rs.length.trans (len _ _ _ _ hs)
  have bd := hb s1 us I1.kIn (by rw [List.append_nil, ← r.length]; exact l1)
  rw [List.append_nil] at bd
  exact wpAny_call (codeAny_mono (F X.A hr hq X.stack s1 H1 ⟨us, []⟩ us vs Q (E σ) I1.env0 bd r q) (at_end (hx σ) I1 fun _ _ q => q))
theorem pd_callG (F : OkG X.prog X.w X.K X.mg X.base k f fd ps sp) (hr : Room k X.A) (hq : X.A.guards = some []) (len : ∀ ds M Q E, sp ds M Q E → ds.length = ps.length) (hg : Gl X x) (hm : X.mg x = some (.ref f)) (hk : PySem.W.keepIn X.K (.ref f) = true) (hb : Binds X.K fd ps []) (xo : XOk X Δ)
    (ha : PDa X Δ (e :: es) tl dl) (own : OwnName x := by decide) (read : Args1 X pos e es := by exact ⟨rfl, rfl⟩) : PDe X Δ (.Call (.Name x p) (e :: es) [] pos) (tCallSD (liftSp X.K sp) [] (WE Δ.W) tl) (dCall Δ.Wd sp [] dl) :=
  ⟨pe_callG F hr hq len hg hm hk hb (passAt xo.takes) ha.1 own read, snd_call xo (fun _ => .nil) ha.2⟩
end
section
variable {base : Heap} {mg : Str → Option Value} {K : PySem.W.Frag} {P : Program} {w : World}
theorem okG_mk {x qual : Str} {params : Arguments} {body : List Stmt} {scope : Scope} {dvs : List V} {kws : List (Str × V)} {f : Addr} {fd : FuncData} {N ps : List Str} {k : Nat} {sp : SpD} (F : FunD K x qual params body scope dvs kws f fd) (S : FnScope N ps scope)
    (len : ∀ ds M Q E, sp ds M Q E → ds.length = ps.length)
    (hbody : ∀ (X : Cx) (Δ : DC) (M : Mem) (ds : List D) (Q : DKt) (E : DX), CxOf P w K mg base N qual scope f k X → X.A.guards = some [] → XOk X Δ → (Δ.Wd = fun c fs _ M' => FzV (fun _ M'' => E c fs M'') .non M') → sp ds M Q E →
      ∃ t d, PDss X Δ body t d ∧ d (ends Q) (startD N ds) M) : OkG P w K mg base (k + 1) f fd ps sp := fun A hr hA =>
  fnAt_mk hr F S len fun X Δ M ds Q E cx hg xo hW h => hbody X Δ M ds Q E cx (hg.trans hA) xo hW h
/-- what is let out is not asked -/
theorem fnAt_quiet {A : Around} {f : Addr} {fd : FuncData} {ps : List Str} {sp : Sp} (F : FnAt P w K mg base (L2.CX P w) A f fd ps sp) : FnAt P w K mg base CX0 A f fd ps (fun vs H Q _ => sp vs H Q fun _ _ _ => False) :=
  fun outer s H args us vs Q E he hb hv h => codeAny_mono (F outer s H args us vs Q (fun _ _ _ => False) he hb hv h) fun r s' hq => by
    cases r with
    | error e =>
      obtain ⟨_, _, _, _, _, _, _, _, _, _, _, _, z⟩ := hq
      exact z.elim
    | ok fl =>
      cases fl with
      | ret u => exact hq
      | next => exact hq
      | brk => exact hq
      | cont => exact hq
end
end BB

set_option maxHeartbeats 2000000
namespace BB
open L2 PySem PySem.Spec PyProof.Rows
/-! keywords in any order, and calls with keywords alone -/
def perm {α : Type} (idx : List Nat) (us ws : List α) : List α := idx.filterMap fun i => (us ++ ws)[i]?
theorem vals_get : ∀ {vs : List V} {us : List Value} (i : Nat), Vals vs us → (vs[i]? = none ∧ us[i]? = none) ∨ ∃ v u, vs[i]? = some v ∧ us[i]? = some u ∧ RelV v u
  | _, _, i, .nil => .inl ⟨rfl, rfl⟩
  | _, _, 0, .cons a _ => .inr ⟨_, _, rfl, rfl, a⟩
  | _, _, i + 1, .cons _ r => by simpa using vals_get i r
theorem vals_pick {vs : List V} {us : List Value} (r : Vals vs us) : ∀ idx : List Nat, Vals (idx.filterMap fun i => vs[i]?) (idx.filterMap fun i => us[i]?)
  | [] => .nil
  | i :: idx => by
    rcases vals_get i r with ⟨e1, e2⟩ | ⟨v, u, e1, e2, rv⟩
    · simp only [List.filterMap_cons, e1, e2]; exact vals_pick r idx
    · simp only [List.filterMap_cons, e1, e2]; exact .cons rv (vals_pick r idx)
theorem rps_pick {K : PySem.W.Frag} {I : Hp} {vs : List V} {ds : List D} (r : Rps K I vs ds) : ∀ idx : List Nat, Rps K I (idx.filterMap fun i => vs[i]?) (idx.filterMap fun i => ds[i]?)
  | [] => .nil
  | i :: idx => by
    cases e : vs[i]? with
    | none =>
      have e2 : ds[i]? = none := by
        rw [List.getElem?_eq_none_iff] at e ⊢
        rw [← r.length]; exact e
      simp only [List.filterMap_cons, e, e2]; exact rps_pick r idx
    | some v =>
      obtain ⟨d, e2, rv⟩ := r.get' e
      simp only [List.filterMap_cons, e, e2]; exact .cons rv (rps_pick r idx)
theorem perm_rps {K : PySem.W.Frag} {idx : List Nat} {I : Hp} {vs : List V} {us : List D} {zs : List V} {ws : List D} (r : Rps K I vs us) (s : Rps K I zs ws) : Rps K I (perm idx vs zs) (perm idx us ws) := rps_pick (r.append s) idx
theorem kbnP_of {K : PySem.W.Frag} {x qual : Str} {params : Arguments} {body : List Stmt} {scope : Scope} {kws : List (Str × V)} {f : Addr} {fd : FuncData} {ps : List Str} (F : FunD K x qual params body scope [] kws f fd) (n : Nat) (ks : List Str) (idx : List Nat)
    (h : ∀ (kV doc pm : Value) (an : Option Addr) (cdv ct : Value) (us ws : List Value), us.length = n → ws.length = ks.length → bindArgs (PySem.W.fnOf x qual params body scope .none kV doc pm an cdv ct) ⟨us, ks.zip ws⟩ = pure (ps.zip (perm idx us ws))) :
    KBn K fd ps n ks (perm idx) (perm idx) := by
  obtain ⟨_, _, _, kV, doc, pm, an, cdv, ct, _, rfl, _, _, dflt, _⟩ := F.ex
  rcases dflt with ⟨_, rfl⟩ | ⟨e, _⟩
  · exact ⟨fun s us ws _ l1 l2 => .of_eq (h kV doc pm an cdv ct us ws l1 l2), fun r rz => vals_pick (r.append rz) idx⟩
  · exact absurd rfl e
section
variable {X : Cx} {Δ : DC} {e : Expr} {pos p : Pos} {es : List Expr} {tl : TA} {dl : DA} {k i n : Nat} {f : Addr} {fd : FuncData} {ps : List Str} {sp : SpD} {x : Str} {ks : List Str} {kws : List Keyword} {tk : TA} {dk : DA}
variable {g : List Value → List Value → List Value} {gV : List V → List V → List V} {gD : List D → List D → List D}
abbrev ArgsK0 (X : Cx) (pos : Pos) (kws : List Keyword) (ks : List Str) : Prop :=
  (((backTo pos (starEach [] X.env)).any (·.1) || (backToKw pos (keywordEach kws X.env)).any (·.1.isNone)) = false) ∧ ((backToKw pos (keywordEach kws X.env)).all (·.1.isSome) = true) ∧ (backToKw pos (keywordEach kws X.env)).filterMap (·.1) = ks
theorem pe_callKS0 {CX : CXT} {sp : Sp} {E : L2.St → XK} {tk : TA} (F : FnOk X.prog X.w X.K X.mg X.base CX k f fd ps sp) (hr : Room k X.A) (hg : Gl X x) (hm : X.mg x = some (.ref f)) (hk : PySem.W.keepIn X.K (.ref f) = true) (hb : KBn X.K fd ps 0 ks g gV) (hx : ∀ σ, PassesAt CX X σ (E σ))
    (hkw : PK X kws tk) (own : OwnName x) (read : ArgsK0 X pos kws ks) : PE X (.Call (.Name x p) [] kws pos) (tCallKS 0 ks.length sp gV E tNil tk) := by
  obtain ⟨plain, named, rfl⟩ := read
  refine by_name hg hm own fun pins s σ H Q I q => PySem.W.callWith_KW0 I.ok.mod.kin hk named ?_ plain
  exact thn (hkw.run pos pins s σ H _ I q) fun _ _ ⟨_, _, I2, r2, l1, l2, q2⟩ => ⟨I2.kIn, run_fnKS F hr hb (hx σ) I2 .nil r2 l1 l2 q2⟩
theorem pd_callK0 (F : FnOk X.prog X.w X.K X.mg X.base (L2.CX X.prog X.w) k f fd ps (liftSp X.K sp)) (hr : Room k X.A) (hg : Gl X x) (hm : X.mg x = some (.ref f)) (hk : PySem.W.keepIn X.K (.ref f) = true) (hb : KBn X.K fd ps 0 ks g gV)
    (hgd : ∀ {I vs us zs ws}, Rps X.K I vs us → Rps X.K I zs ws → Rps X.K I (gV vs zs) (gD us ws)) (xo : XOk X Δ) (hkw : PDk X Δ kws tk dk) (own : OwnName x := by decide) (read : ArgsK0 X pos kws ks := by exact ⟨rfl, rfl, rfl⟩) :
    PDe X Δ (.Call (.Name x p) [] kws pos) (tCallKS 0 ks.length (liftSp X.K sp) gV (WE Δ.W) tNil tk) (dCallK Δ.Wd 0 ks.length sp gD dNil dk) :=
  ⟨pe_callKS0 F hr hg hm hk hb (passAt xo.takes) hkw.1 own read, fun I M H σ env G Q Qd k q => hkw.2 I M H σ env G _ _ (fun zs M2 I2 H2 ws x2 G2 r2 ⟨l1, l2, q2⟩ =>
    ⟨rfl, r2.length.trans l2, lift_at xo G2 (hgd .nil r2) q2 fun d M' I' H' v x => k d M' I' H' v (x2.trans x)⟩) q⟩
end
end BB

set_option maxHeartbeats 2000000
namespace BB
open L2 PySem PySem.Spec PyProof.Rows
/-! texts that repr makes: how long, which signs -/
def Fine (n : Nat) (t : Str) : Prop := t.length ≤ n ∧ ∀ c ∈ t.cps.toList, c < 0x110000
theorem Fine.mono {m n : Nat} {t : Str} (h : Fine m t) (l : m ≤ n) : Fine n t := ⟨Nat.le_trans h.1 l, h.2⟩
theorem Fine.app {m n : Nat} {a b : Str} (h : Fine m a) (k : Fine n b) : Fine (m + n) (a ++ b) := by
  refine ⟨by rw [strLen_append]; exact Nat.add_le_add h.1 k.1, fun c hc => ?_⟩
  replace hc : c ∈ TL.tl (a ++ b) := hc
  rw [TL.tl_append] at hc
  rcases List.mem_append.mp hc with hc | hc
  · exact h.2 c hc
  · exact k.2 c hc
theorem Fine.ok {n : Nat} {t : Str} (h : Fine n t) : PyData.strOk t = true := by
  unfold PyData.strOk
  rw [← Array.all_toList]
  exact List.all_eq_true.mpr fun c hc => decide_eq_true (h.2 c hc)
theorem fine_join {n : Nat} : ∀ {ts : List Str}, (∀ t ∈ ts, Fine n t) → Fine (ts.length * (n + 2)) (Str.join ", " ts)
  | [], _ => ⟨Nat.zero_le _, fun c hc => by cases hc⟩
  | [x], h => (h x List.mem_cons_self).mono (by simp)
  | x :: y :: r, h => by
    have ih := fine_join (ts := y :: r) fun t ht => h t (List.mem_cons_of_mem _ ht)
    have sep : Fine 2 (", " : Str) := ⟨by decide, by decide⟩
    exact (((h x List.mem_cons_self).app sep).app ih).mono (by simp only [List.length_cons, Nat.add_mul]; omega)
theorem fine_char {q c : Nat} (hq : q < 0x110000) (hc : c < 0x110000) : ∀ x ∈ Builtin.Str.reprChar q c, x < 0x110000 := by
  have hex : ∀ (k : Nat) (x : Nat), x ∈ List.replicate k 48 ++ (Nat.toDigits 16 c).map Char.toNat → x < 0x110000 := fun k x hx => by
    rcases List.mem_append.mp hx with hx | hx
    · rw [(List.mem_replicate.mp hx).2]; decide
    · obtain ⟨d, _, rfl⟩ := List.mem_map.mp hx
      have := d.valid
      rcases this with h | h
      · exact Nat.lt_trans h (by decide)
      · exact h.2
  intro x hx
  unfold Builtin.Str.reprChar at hx
  dsimp only at hx
  repeat' split at hx
  all_goals simp only [List.mem_cons, List.not_mem_nil, or_false, List.mem_append, List.cons_append, List.nil_append] at hx
  all_goals first
    | omega
    | (rcases hx with hx | hx | hx
       · omega
       · omega
       · exact hex _ x (List.mem_append.mpr hx))
theorem fine_repr {z : Str} (h : ∀ c ∈ z.cps.toList, c < 0x110000) : Fine (10 * z.length + 2) (reprText z) := by
  refine ⟨StrLaws.reprText_len z fun c hc => Nat.lt_trans (h c hc) (by decide), ?_⟩
  have hq : reprQuote z < 0x110000 := by unfold reprQuote; split <;> decide
  have key : ∀ (l : List Nat) (acc : Array Nat), (∀ c ∈ l, c < 0x110000) → (∀ c ∈ acc.toList, c < 0x110000) → ∀ c ∈ (l.foldl (fun out c => out ++ (Builtin.Str.reprChar (reprQuote z) c).toArray) acc).toList, c < 0x110000 := by
    intro l
    induction l with
    | nil => intro acc _ ha; exact ha
    | cons d r ih =>
      intro acc hl ha
      refine ih _ (fun c hc => hl c (List.mem_cons_of_mem _ hc)) fun c hc => ?_
      rw [Array.toList_append] at hc
      rcases List.mem_append.mp hc with hc | hc
      · exact ha c hc
      · exact fine_char hq (hl d List.mem_cons_self) c hc
  intro c hc
  unfold reprText at hc
  simp only [Array.toList_push, ← Array.foldl_toList] at hc
  rcases List.mem_append.mp hc with hc | hc
  · exact key _ _ h (fun c hc => by
      simp only [List.mem_cons, List.not_mem_nil, or_false] at hc
      omega) c hc
  · simp only [List.mem_cons, List.not_mem_nil, or_false] at hc
    omega
/-- what repr takes, and what comes of it -/
structure ReprOk (p : PyData) : Prop where
  shows : p.showable = true
  noD : p.hasDict = false
  flat : p.depth ≤ 32
  fits : p.shown.length ≤ sizeLine
  ok : SeqAt.shaped (.str p.shown) = true
theorem shaped_str {t : Str} (h : PyData.strOk t = true) : SeqAt.shaped (.str t) = true := by
  unfold SeqAt.shaped
  rw [PyData.canLay0, h, PyData.depth]
  rfl
theorem i_repr {M : Mem} {Q : DKt} {x : D} {p : PyData} (h : pyOf M x = some p) (s : isSeqP p = true) (ok : ReprOk p) (q : Q (.str p.shown) M) : rdRepr [x] M Q := ⟨x, p, rfl, h, s, ⟨ok.shows, ok.noD, ok.flat, ok.fits⟩, q⟩
theorem i_neShown {M : Mem} {Q : DKt} {p : PyData} (ok : ReprOk p) (q : Q (.bl false) M) : rdNe (.str p.shown) (.str p.shown) M Q := ⟨_, _, rfl, rfl, ok.ok, ok.ok, by
  rw [SeqAt.eqv_refl _ (SeqAt.canLay_of_shaped ok.ok)]; exact q⟩
theorem repr_bools : ∀ a b : Bool, ReprOk (.list [.bool a, .bool b])
  | false, false => ⟨by decide +kernel, by decide +kernel, by decide +kernel, by decide +kernel, by decide +kernel⟩
  | false, true => ⟨by decide +kernel, by decide +kernel, by decide +kernel, by decide +kernel, by decide +kernel⟩
  | true, false => ⟨by decide +kernel, by decide +kernel, by decide +kernel, by decide +kernel, by decide +kernel⟩
  | true, true => ⟨by decide +kernel, by decide +kernel, by decide +kernel, by decide +kernel, by decide +kernel⟩
end BB

set_option maxHeartbeats 4000000
namespace BB
open L2 PySem PySem.Spec PyProof.Rows
/-! [elt for a in xs if .. for b in ys if ..] -/
def lfI (K : PySem.W.Frag) (I0 : Hp) (di : DI) : TI := fun σ H R => ∃ F I M env Rd, Gd K (still F I0) I M H σ env ∧ di env M Rd ∧ ∀ xs keep M1 J I1 H1, Ext I I1 → Gd K (still F I0) I1 M1 H1 σ env → ItOk K I1 J xs keep → Rd xs keep M1 → R J H1
theorem lf_i {X : Cx} {I0 : Hp} {tg iter : Expr} {di : DI} (h : ∀ F, ∃ wi, PDi X (still F I0) tg iter wi di) (F : Hp) : PDi X (still F I0) tg iter (lfI X.K I0 di) di :=
  ⟨⟨fun pins s σ H R I ⟨F', I1, M, env, Rd, G, q, k⟩ => by
    obtain ⟨wi, p, sn⟩ := h F'
    exact p.run pins s σ H R I (sn I1 M H σ env G R Rd k q)⟩, fun I M H σ env G R Rd k q => ⟨F, I, M, env, Rd, G, q, k⟩⟩
def dLc2 (di : DI) (dg : DG) (dt : DT) (di1 : DI) (dg1 : DG) (dt1 : DT) (de : DE) (vs vs1 : List Nat) : DE := fun env M Q => di env M fun xs keep M1 => ∃ P : Nat → List D → Mem → Prop, P 0 [] M1 ∧ (∀ i acc M, P i acc M → keep M) ∧
  (∀ i d acc M, xs[i]? = some d → P i acc M → dg d (wipeD env vs) M fun env2 M2 => dt env2 M2 fun b M3 => if b = true then
    di1 env2 M3 fun ys keep1 M4 => ∃ P1 : Nat → List D → Mem → Prop, P1 0 acc M4 ∧ (∀ j acc M, P1 j acc M → keep1 M) ∧
      (∀ j e acc M, ys[j]? = some e → P1 j acc M → dg1 e (wipeD env2 vs1) M fun env3 M5 => dt1 env3 M5 fun b M6 => if b = true then acc.length < sizeLine ∧ de env3 M6 fun y M7 => P1 (j + 1) (acc ++ [y]) M7 else P1 (j + 1) acc M6) ∧
      ∀ acc M, P1 ys.length acc M → P (i + 1) acc M
    else P (i + 1) acc M3) ∧ ∀ acc M, P xs.length acc M → Q (.lst acc) M
section
variable {X : Cx} {Δ : DC} {de : DE} {dt dt1 : DT} {te : TE} {t1 t2 : TT} {wi wi1 : TI} {di di1 : DI} {g g1 : TG} {dg dg1 : DG}
theorem snd_lc2 {vs vs1 : List Nat} (si : SndI X Δ wi di) (sg : ∀ F, SndW X (Δ.blk F) vs g dg) (st : ∀ F, SndT X (Δ.blk F) t1 dt) (si1 : ∀ F, SndI X (Δ.blk F) wi1 di1) (sg1 : ∀ F, SndW X (Δ.blk F) vs1 g1 dg1) (st1 : ∀ F, SndT X (Δ.blk F) t2 dt1) (se : ∀ F, SndE X (Δ.blk F) te de) :
    SndE X Δ (tLc2 wi g t1 wi1 g1 t2 te vs vs1) (dLc2 di dg dt di1 dg1 dt1 de vs vs1) := fun I M H σ env G Q Qd k q =>
  si I M H σ env G _ _ (fun xs keep M1 J I1 H1 x1 G1 ok ⟨P, p0, pk, ps, pd⟩ => by
    intro D hD
    have A1 := G1.at_.newF hD (.lst [])
    have F0 : ∀ (o : HO) b u, Δ.F b = some u → b ≠ D ∧ (upd Δ.F D o) b = some u := fun o b u e => by
      have hb : b ≠ D := ne_of_none (G1.at_.fr _ _ e).1 hD
      exact ⟨hb, by rw [upd_ne hb]; exact e⟩
    refine ⟨fun i m H => m = xs.length - i ∧ i ≤ xs.length ∧ ∃ I M acc us, Ext I1 I ∧ Gd X.K (Δ.blk (upd Δ.F D (.lst us))) I M H (L2.wipe σ vs) (wipeD env vs) ∧ Rps X.K I us acc ∧ P i acc M,
      ⟨xs.length, by simp, Nat.zero_le _, I1, M1, [], [], Ext.refl _, ⟨G1.base, A1, G1.env.wipe vs⟩, .nil, p0⟩, ?_⟩
    rintro i m H2 ⟨rfl, hi, I2, M2, acc, us, x2, G2, r2, p2⟩
    have hk := pk i acc M2 p2
    by_cases hlt : i < xs.length
    · refine .inr ⟨ok.go _ i I2 M2 H2 x2 G2.at_ hk hlt, fun H => ∃ I M acc us, Ext I1 I ∧ Gd X.K (Δ.blk (upd Δ.F D (.lst us))) I M H (L2.wipe σ vs) (wipeD env vs) ∧ Rps X.K I us acc ∧ P (i + 1) acc M, fun H' w => ⟨xs.length - (i + 1), by omega, rfl, hlt, w⟩, fun x H' y => ?_⟩
      have hd : xs[i]? = some xs[i] := by simp [hlt]
      obtain ⟨I3, x3, A3, r3⟩ := ok.yld _ i xs[i] x I2 M2 H2 H' x2 G2.at_ hk hd y
      have G3 := G2.go x3 A3
      refine sg _ I3 M2 H' _ _ G3 x xs[i] r3 _ _ (fun env4 M4 I4 H4 σ4 x4 G4 w4 q4 => ⟨w4.trans wipe_idem, ?_⟩) (ps i xs[i] acc M2 hd p2)
      refine st _ I4 M4 H4 σ4 env4 G4 _ _ (fun b M5 I5 H5 x5 G5 q5 => ?_) q4
      cases b with
      | true =>
        rw [if_pos rfl] at q5 ⊢
        refine si1 _ I5 M5 H5 σ4 env4 G5 _ _ (fun ys keep1 M6 J1 I6 H6 x6 G6 ok1 ⟨P1, p10, pk1, ps1, pd1⟩ => ?_) q5
        have x26 := ((x3.trans x4).trans x5).trans x6
        refine ⟨fun j m H => m = ys.length - j ∧ j ≤ ys.length ∧ ∃ I M acc us, Ext I6 I ∧ Gd X.K (Δ.blk (upd Δ.F D (.lst us))) I M H (L2.wipe σ4 vs1) (wipeD env4 vs1) ∧ Rps X.K I us acc ∧ P1 j acc M,
          ⟨ys.length, by simp, Nat.zero_le _, I6, M6, acc, us, Ext.refl _, ⟨G6.base, G6.at_, G6.env.wipe vs1⟩, r2.ext x26, p10⟩, ?_⟩
        rintro j m H7 ⟨rfl, hj, I7, M7, acc7, us7, x7, G7, r7, p7⟩
        have hk1 := pk1 j acc7 M7 p7
        by_cases hlt1 : j < ys.length
        · refine .inr ⟨ok1.go _ j I7 M7 H7 x7 G7.at_ hk1 hlt1, fun H => ∃ I M acc us, Ext I6 I ∧ Gd X.K (Δ.blk (upd Δ.F D (.lst us))) I M H (L2.wipe σ4 vs1) (wipeD env4 vs1) ∧ Rps X.K I us acc ∧ P1 (j + 1) acc M, fun H' w => ⟨ys.length - (j + 1), by omega, rfl, hlt1, w⟩, fun x' H' y' => ?_⟩
          have he : ys[j]? = some ys[j] := by simp [hlt1]
          obtain ⟨I8, x8, A8, r8⟩ := ok1.yld _ j ys[j] x' I7 M7 H7 H' x7 G7.at_ hk1 he y'
          have G8 := G7.go x8 A8
          refine sg1 _ I8 M7 H' _ _ G8 x' ys[j] r8 _ _ (fun env9 M9 I9 H9 σ9 x9 G9 w9 q9 => ⟨w9.trans wipe_idem, ?_⟩) (ps1 j ys[j] acc7 M7 he p7)
          refine st1 _ I9 M9 H9 σ9 env9 G9 _ _ (fun b M10 I10 H10 x10 G10 q10 => ?_) q9
          cases b with
          | true =>
            rw [if_pos rfl] at q10 ⊢
            refine se _ I10 M10 H10 σ9 env9 G10 _ _ (fun y M11 I11 H11 u x11 G11 r11 q11 => ?_) q10.2
            have hFD : (upd Δ.F D (.lst us7)) D = some (.lst us7) := upd_same
            obtain ⟨hD1, hD2, hD3⟩ := G11.at_.fr _ _ hFD
            have xx := ((x8.trans x9).trans x10).trans x11
            refine ⟨us7, hD1, by rw [r7.length]; exact q10.1, I11, M11, acc7 ++ [y], us7 ++ [u], x7.trans xx, ?_, (r7.ext xx).append (.cons r11 .nil), q11⟩
            have A11 := G11.at_.writeF (o' := .lst (us7 ++ [u])) hFD
            have e : upd (upd Δ.F D (.lst us7)) D (.lst (us7 ++ [u])) = upd Δ.F D (.lst (us7 ++ [u])) := upd_upd
            rw [e] at A11
            exact ⟨G11.base, A11, G7.env.ext xx⟩
          | false =>
            rw [if_neg Bool.false_ne_true] at q10 ⊢
            have xx := (x8.trans x9).trans x10
            exact ⟨I10, M10, acc7, us7, x7.trans xx, ⟨G10.base, G10.at_, G7.env.ext xx⟩, r7.ext xx, q10⟩
        · have e : j = ys.length := by omega
          subst e
          exact .inl ⟨ok1.stop _ I7 M7 H7 x7 G7.at_ hk1, I7, M7, acc7, us7, (x2.trans x26).trans x7, ⟨G7.base, G7.at_, G2.env.ext (x26.trans x7)⟩, r7, pd1 acc7 M7 p7⟩
      | false =>
        rw [if_neg Bool.false_ne_true] at q5 ⊢
        have xx := (x3.trans x4).trans x5
        exact ⟨I5, M5, acc, us, x2.trans xx, ⟨G5.base, G5.at_, G2.env.ext xx⟩, r2.ext xx, q5⟩
    · have e : i = xs.length := by omega
      subst e
      refine .inl ⟨ok.stop _ I2 M2 H2 x2 G2.at_ hk, ?_⟩
      obtain ⟨A7, x7⟩ := G2.at_.fixF (F0 := Δ.F) (p := D) upd_same (F0 _)
      exact k _ _ _ _ _ ((x1.trans x2).trans x7) ⟨G1.base.trans (x2.trans x7), A7, G1.env.ext (x2.trans x7)⟩ (.lst upd_same (r2.ext x7)) (pd acc M2 p2)) q
theorem pd_lc2X {elt tg iter tg1 iter1 : Expr} {ifs ifs1 : List Expr} {scope : Scope} {own : List (Str × Nat)} {vs1 : List Nat} {pos : Pos} (hc : X.calm = true) (hN : X.N.Nodup) (hi : PDi X Δ tg iter wi di) (ok : BlkOk X.N X.env.scope scope own) (hv : ∀ i ∈ vs1, i ∈ own.map (·.2))
    (hg : ∀ (s : Shared) (H : Hp) (C : Addr) (cl : List (Str × Addr)) (fp : List Addr) (F : Hp), ∃ g, PDgw (X.blk s H scope (compEnvC scope cl C X.env) fp) (still F Δ.I0) (own.map (·.2)) tg g dg)
    (ht : ∀ (s : Shared) (H : Hp) (C : Addr) (cl : List (Str × Addr)) (fp : List Addr) (F : Hp), ∃ t, PDts (X.blk s H scope (compEnvC scope cl C X.env) fp) (still F Δ.I0) ifs t dt)
    (hi1 : ∀ (s : Shared) (H : Hp) (C : Addr) (cl : List (Str × Addr)) (fp : List Addr) (F : Hp), ∃ wi, PDi (X.blk s H scope (compEnvC scope cl C X.env) fp) (still F Δ.I0) tg1 iter1 wi di1)
    (hg1 : ∀ (s : Shared) (H : Hp) (C : Addr) (cl : List (Str × Addr)) (fp : List Addr) (F : Hp), ∃ g, PDgw (X.blk s H scope (compEnvC scope cl C X.env) fp) (still F Δ.I0) vs1 tg1 g dg1)
    (ht1 : ∀ (s : Shared) (H : Hp) (C : Addr) (cl : List (Str × Addr)) (fp : List Addr) (F : Hp), ∃ t, PDts (X.blk s H scope (compEnvC scope cl C X.env) fp) (still F Δ.I0) ifs1 t dt1)
    (he : ∀ (s : Shared) (H : Hp) (C : Addr) (cl : List (Str × Addr)) (fp : List Addr) (F : Hp), ∃ te, PDe (X.blk s H scope (compEnvC scope cl C X.env) fp) (still F Δ.I0) elt te de)
    (hs : ∀ x, foldedSetIterable iter X.env x = pure x := by intro _; rfl) (hs1 : ∀ env x, foldedSetIterable iter1 env x = pure x := by intro _ _; rfl) :
    PDe X Δ (.ListComp elt [⟨tg, iter, ifs, 0⟩, ⟨tg1, iter1, ifs1, 0⟩] scope pos) (tLc2 wi (lfW X.K Δ.I0 (own.map (·.2)) dg) (lfT X.K Δ.I0 dt) (lfI X.K Δ.I0 di1) (lfW X.K Δ.I0 vs1 dg1) (lfT X.K Δ.I0 dt1) (lfE X.K Δ.I0 de) (own.map (·.2)) vs1) (dLc2 di dg dt di1 dg1 dt1 de (own.map (·.2)) vs1) :=
  ⟨pe_lc2 hc hN hi.1 ok hv (fun s H C cl fp => (lf_w (hg s H C cl fp) Δ.F).1) (fun s H C cl fp => (lf_t (ht s H C cl fp) Δ.F).1) (fun s H C cl fp => (lf_i (hi1 s H C cl fp) Δ.F).1) (fun s H C cl fp => (lf_w (hg1 s H C cl fp) Δ.F).1) (fun s H C cl fp => (lf_t (ht1 s H C cl fp) Δ.F).1) (fun s H C cl fp => (lf_e (he s H C cl fp) Δ.F).1) hs hs1,
    snd_lc2 hi.2 (fun F => (lf_w (hg X.s_0 X.H_0 0 [] []) F).2) (fun F => (lf_t (ht X.s_0 X.H_0 0 [] []) F).2) (fun F => (lf_i (hi1 X.s_0 X.H_0 0 [] []) F).2) (fun F => (lf_w (hg1 X.s_0 X.H_0 0 [] []) F).2) (fun F => (lf_t (ht1 X.s_0 X.H_0 0 [] []) F).2) (fun F => (lf_e (he X.s_0 X.H_0 0 [] []) F).2)⟩
theorem pds_setLc2X {i : Nat} {y : Str} {py : Pos} {elt tg iter tg1 iter1 : Expr} {ifs ifs1 : List Expr} {scope : Scope} {own : List (Str × Nat)} {vs1 : List Nat} {pos spos : Pos} (hc : X.calm = true) (hN : X.N.Nodup) (hy : X.N[i]? = some y) (hyl : X.env.scope.names.lookup y = some .local)
    (hsw : swapsWith (.ListComp elt [⟨tg, iter, ifs, 0⟩, ⟨tg1, iter1, ifs1, 0⟩] scope pos) (some (.Name y py)) spos.line X.env = pure true) (hi : PDi X Δ tg iter wi di) (ok : BlkOk X.N X.env.scope scope own) (hv : ∀ i ∈ vs1, i ∈ own.map (·.2))
    (hg : ∀ (s : Shared) (H : Hp) (C : Addr) (cl : List (Str × Addr)) (fp : List Addr) (F : Hp), ∃ g, PDgw (X.blk s H scope (compEnvC scope cl C X.env) fp) (still F Δ.I0) (own.map (·.2)) tg g dg)
    (ht : ∀ (s : Shared) (H : Hp) (C : Addr) (cl : List (Str × Addr)) (fp : List Addr) (F : Hp), ∃ t, PDts (X.blk s H scope (compEnvC scope cl C X.env) fp) (still F Δ.I0) ifs t dt)
    (hi1 : ∀ (s : Shared) (H : Hp) (C : Addr) (cl : List (Str × Addr)) (fp : List Addr) (F : Hp), ∃ wi, PDi (X.blk s H scope (compEnvC scope cl C X.env) fp) (still F Δ.I0) tg1 iter1 wi di1)
    (hg1 : ∀ (s : Shared) (H : Hp) (C : Addr) (cl : List (Str × Addr)) (fp : List Addr) (F : Hp), ∃ g, PDgw (X.blk s H scope (compEnvC scope cl C X.env) fp) (still F Δ.I0) vs1 tg1 g dg1)
    (ht1 : ∀ (s : Shared) (H : Hp) (C : Addr) (cl : List (Str × Addr)) (fp : List Addr) (F : Hp), ∃ t, PDts (X.blk s H scope (compEnvC scope cl C X.env) fp) (still F Δ.I0) ifs1 t dt1)
    (he : ∀ (s : Shared) (H : Hp) (C : Addr) (cl : List (Str × Addr)) (fp : List Addr) (F : Hp), ∃ te, PDe (X.blk s H scope (compEnvC scope cl C X.env) fp) (still F Δ.I0) elt te de)
    (hs : ∀ x, foldedSetIterable iter X.env x = pure x := by intro _; rfl) (hs1 : ∀ env x, foldedSetIterable iter1 env x = pure x := by intro _ _; rfl) :
    PDs X Δ (.Assign [.Name y py] (.ListComp elt [⟨tg, iter, ifs, 0⟩, ⟨tg1, iter1, ifs1, 0⟩] scope pos) spos) (tAsg (tLc2 wi (lfW X.K Δ.I0 (own.map (·.2)) dg) (lfT X.K Δ.I0 dt) (lfI X.K Δ.I0 di1) (lfW X.K Δ.I0 vs1 dg1) (lfT X.K Δ.I0 dt1) (lfE X.K Δ.I0 de) (own.map (·.2)) vs1) (gName i)) (dSet i (dLc2 di dg dt di1 dg1 dt1 de (own.map (·.2)) vs1)) :=
  ⟨ps_setLc2 hc hN hy hyl hsw hi.1 ok hv (fun s H C cl fp => (lf_w (hg s H C cl fp) Δ.F).1) (fun s H C cl fp => (lf_t (ht s H C cl fp) Δ.F).1) (fun s H C cl fp => (lf_i (hi1 s H C cl fp) Δ.F).1) (fun s H C cl fp => (lf_w (hg1 s H C cl fp) Δ.F).1) (fun s H C cl fp => (lf_t (ht1 s H C cl fp) Δ.F).1) (fun s H C cl fp => (lf_e (he s H C cl fp) Δ.F).1) hs hs1,
    fun I M H σ env G T Td R q => snd_lc2 hi.2 (fun F => (lf_w (hg X.s_0 X.H_0 0 [] []) F).2) (fun F => (lf_t (ht X.s_0 X.H_0 0 [] []) F).2) (fun F => (lf_i (hi1 X.s_0 X.H_0 0 [] []) F).2) (fun F => (lf_w (hg1 X.s_0 X.H_0 0 [] []) F).2) (fun F => (lf_t (ht1 X.s_0 X.H_0 0 [] []) F).2) (fun F => (lf_e (he X.s_0 X.H_0 0 [] []) F).2) I M H σ env G _ _
      (fun d M1 I1 H1 v x1 G1 r1 q1 => R.nx _ _ _ _ _ x1 (G1.set r1) q1) q⟩
end
end BB

set_option maxHeartbeats 4000000
namespace BB
open L2 PySem PySem.Spec PyProof.Rows
/-! x == y, x != y, x of a class with its own ==; things in tuples and lists of data -/
theorem sub_ty {K : PySem.W.Frag} {C : Addr} {T : String} {bm : List Value} (e : fastBuiltinMro T = some bm) (h : bm.contains (.ref C) = false) : PySem.W.subIn K (.type T) (.ref C) = some false := by
  show (fastBuiltinMro T).map (·.contains (.ref C)) = some false
  rw [e]
  show some (bm.contains (.ref C)) = _
  rw [h]
theorem first_tuple {K : PySem.W.Frag} {C : Addr} : PySem.W.notFirst K C (.type "tuple") = true := by
  unfold PySem.W.notFirst
  rw [sub_ty (bm := [.type "tuple", .type "object"]) (by decide +kernel) (by first | rfl | simp)]
  exact Bool.or_true _
theorem first_int {K : PySem.W.Frag} {C : Addr} : PySem.W.notFirst K C (.type "int") = true := by
  unfold PySem.W.notFirst
  rw [sub_ty (bm := [.type "int", .type "object"]) (by decide +kernel) (by first | rfl | simp)]
  exact Bool.or_true _
theorem first_own {K : PySem.W.Frag} {C : Addr} : PySem.W.notFirst K C (.ref C) = true := by unfold PySem.W.notFirst; simp
def rOwn (K : PySem.W.Frag) (C : Addr) (sp : Sp) (neg : Bool) : R2 := fun x y H Q => ∃ a dx fs t, x = .ref a ∧ H a = some (.ins C dx fs) ∧ TyX K H y t ∧ PySem.W.notFirst K C t = true ∧ sp [x, y] H (fun v H' => ∃ b : Bool, v = .bl b ∧ Q (.bl (if neg then !b else b)) H') (fun _ _ _ => False)
section
variable {X : Cx} {C f : Addr} {fd : FuncData} {ps : List Str} {k : Nat} {sp : Sp}
theorem own_call {pins : List (Addr × Obj)} {σ : L2.St} {H : Hp} {s : Shared} {A : Around} {a : Addr} {u : Value} {y : V} {Qv : Bool → Hp → Prop} {R : Value → Shared → Prop} (F : FnOk X.prog X.w X.K X.mg X.base (L2.CX X.prog X.w) k f fd ps sp) (hr : Room k A) (at0 : Env0 X.prog X.w X.K X.mg X.base A X.stack s H) (hb : Binds X.K fd ps [])
    (I : Inv X pins σ H s) (ry : RelV y u) (h : sp [.ref a, y] H (fun v H' => ∃ b : Bool, v = .bl b ∧ Qv b H') (fun _ _ _ => False)) (fin : ∀ b s' H', Inv X pins σ H' s' → Qv b H' → R (.bool b) s') :
    wpAny (model X.prog X.w) A (call (.ref f) [.ref a, u]) R X.xe s := by
  have hl := F.len _ _ _ _ h
  refine wpAny_call (codeAny_mono (F.run A X.stack s H ⟨[.ref a, u], []⟩ [.ref a, u] [.ref a, y] _ _ hr at0 (by
    have := hb s [.ref a, u] I.kIn (by simpa using hl)
    simpa using this) (.cons rfl (.cons ry .nil)) h) fun r s' hq => ?_)
  cases r with
  | error e => exact never_at pins σ H s e s' I hq
  | ok fl =>
    cases fl with
    | ret w =>
      obtain ⟨z, H', I', rz, b, ez, q⟩ := I.after hq
      subst ez
      cases rz
      exact fin b s' H' I' q
    | next => exact False.elim hq
    | brk => exact False.elim hq
    | cont => exact False.elim hq
theorem op_ownEq (F : FnOk X.prog X.w X.K X.mg X.base (L2.CX X.prog X.w) k f fd ps sp) (hr : Room k X.A) (hm : Meth X.K C "__eq__" f) (hb : Binds X.K fd ps []) : OpR X (compareOp .Eq) (rOwn X.K C sp false) := by
  intro pins s σ H x y v u Q I rx ry h
  obtain ⟨a, dx, fs, t, rfl, ha, ty, nf, h⟩ := h
  cases rx
  obtain ⟨mA, J, _⟩ := ins_get I.hok ha
  obtain ⟨od, J, _⟩ := J.look
  obtain ⟨m, hF⟩ := I.fr
  obtain ⟨P, Z, p, _⟩ := kit_of I ry ty
  show wpAny _ X.A (richCompare .Eq (.ref a) u) _ _ s
  refine PySem.W.cmp_K (op := .Eq) hr.units0 hF I.ok.mod.kin J (Z.ty _ _ I.kIn p) nf hm.at_ hm.fn ?_
  exact own_call (Qv := fun b H' => Q (.bl b) H') F hr I.env0 hb I ry h fun b s' H' I' q => ⟨.bl b, H', I', rfl, q⟩
theorem ifBound_objNe {M : Model} {A : Around} {E : Value → Shared → Prop} {s : Shared} {K : PySem.W.Frag} {x C : Addr} {ox : Obj} {od : Option Obj} {args : List Value} {Q : Option Value → Shared → Prop} (X : K.In s.heap) (I : PySem.W.InstAt s.heap x ox C od) (hs : PySem.W.findIn K (.ref C) "__ne__" = some (some (.builtin "object.__ne__")))
    (h : wpAny M A (call (.builtin "object.__ne__") (.ref x :: args)) (fun v => Q (some v)) E s) : wpAny M A (callSpecialIfBound? (.ref x) "__ne__" args) Q E s := by
  simp only [callSpecialIfBound?, bindSpecialIfBound?]
  refine wpAny_holding (wpAny_bind (wpAny_bind (wpAny_bind (I.type.here ((PySem.W.looks_findIn X hs).here ?_)))))
  refine wpAny_bind (wpAny_askSetting (wpAny_ite ?_))
  have fin : wpAny M A (call (.builtin "object.__ne__") ([.ref x] ++ args) >>= fun v => pure (some v)) Q E s := wpAny_bind (wpAny_mono h (fun v s' h' => wpAny_pure h') fun _ _ h' => h')
  split
  · exact wpAny_bind (wpAny_of_eq (F.cmp_object.ne.bind _) (wpAny_pure (by exact fin)))
  · exact wpAny_tryCatch (wpAny_bind (wpAny_of_eq (F.cmp_object.ne.bind _) (wpAny_pure (by exact fin))))
theorem objNe_entry {prog : Program} {w : World} {A : Around} {E : Value → Shared → Prop} {s : Shared} {K : PySem.W.Frag} {x C f : Addr} {ox : Obj} {od : Option Obj} {u : Value} {Q : Fin → Shared → Prop} (X : K.In s.heap) (I : PySem.W.InstAt s.heap x ox C od) (hu : A.units < cLine)
    (hs : PySem.W.findIn K (.ref C) "__eq__" = some (some (.ref f))) (hf : PySem.W.isFn K (.ref f) = true) (hcall : wpAny (model prog w) A (call (.ref f) [.ref x, u]) (fun v s' => ∃ b, v = .bool b ∧ Q (.done (.ret (.bool (!b)))) s') E s) :
    wpAny (model prog w) A (Builtin.«object.__ne__» ⟨[.ref x, u], []⟩) Q E s := by
  unfold Builtin.«object.__ne__»
  repeat (first
    | with_reducible refine wpAny_cRoomFor hu ?_
    | (refine wpAny_bind (m := callSpecialIfBound? (.ref x) (Str.ofString "__eq__") [u])
        (PySem.W.ifBound_K X I hs hf (wpAny_mono hcall (fun r s' hr => by
          obtain ⟨b, rfl, hq⟩ := hr
          repeat (first | exact hq | exact wpAny_pure hq | exact wpAny_truthy_bool hq | (refine wpAny_bind (m := truthy (.bool _)) (wpAny_truthy_bool ?_)) | wp_step)) fun _ _ e => e)))
    | wp_step)
theorem op_ownNe (F : FnOk X.prog X.w X.K X.mg X.base (L2.CX X.prog X.w) k f fd ps sp) (hr : Room (k + 1) X.A) (hm : Meth X.K C "__eq__" f) (hne : PySem.W.findIn X.K (.ref C) "__ne__" = some (some (.builtin "object.__ne__"))) (hall : PySem.W.mroIn X.K C (.type "object") = some true) (hb : Binds X.K fd ps []) : OpR X (compareOp .NotEq) (rOwn X.K C sp true) := by
  intro pins s σ H x y v u Q I rx ry h
  obtain ⟨a, dx, fs, t, rfl, ha, ty, nf, h⟩ := h
  cases rx
  obtain ⟨mA, J, _⟩ := ins_get I.hok ha
  obtain ⟨od, J, _⟩ := J.look
  obtain ⟨m, hF⟩ := I.fr
  obtain ⟨P, Z, p, _⟩ := kit_of I ry ty
  have hu : X.A.units + 1 < cLine := by have := hr.un; omega
  show wpAny _ X.A (richCompare .NotEq (.ref a) u) _ _ s
  have one : wpAny (model X.prog X.w) X.A (tryCompare (.ref a) "__ne__" u) (fun r s' => ∃ b, r = some (.bool (!b)) ∧ ∃ H', Inv X pins σ H' s' ∧ Q (.bl (!b)) H') X.xe s := by
    unfold tryCompare
    refine wpAny_bind (ifBound_objNe I.kIn J hne (wpAny_call (codeAny_call_builtin PySem.F.cmp_object.ne.plain PySem.F.cmpEntry_ne (PySem.W.check_slot PySem.F.cmpKind_ne PySem.F.cmpSplit_ne (J.type.andThen (PySem.W.looks_mroIn I.kIn hall)) (PySem.F.cmpArgs_ne _ _)
      (objNe_entry I.kIn J hu hm.at_ hm.fn ?_)))))
    refine own_call (Qv := fun b H' => Q (.bl (!b)) H') F hr.in1 I.env0.in1 hb I ry h fun b s' H' I' q => ⟨b, rfl, ?_⟩
    first | exact ⟨b, rfl, wpAny_pure ⟨b, rfl, H', I', q⟩⟩ | exact wpAny_pure ⟨b, rfl, H', I', q⟩ | exact wpAny_pure (wpAny_pure ⟨b, rfl, H', I', q⟩)
  unfold richCompare
  rw [cmpInfo_NotEq]
  dsimp only
  simp only [oneThing_ref]
  refine wpAny_holding (wpAny_bind (wpAny_cRoomFor (Nat.lt_of_succ_lt hu) ?_))
  refine wpAny_bind (J.type.here (wpAny_bind ((Z.ty _ _ I.kIn p).here ?_)))
  have fin : ∀ (r : Option Value) (s' : Shared), (∃ b, r = some (.bool (!b)) ∧ ∃ H', Inv X pins σ H' s' ∧ Q (.bl (!b)) H') → ∃ b, r = some (.bool (!b)) ∧ EP X pins σ Q (.bool (!b)) s' := fun r s' ⟨b, e, H', I', q⟩ => ⟨b, e, .bl (!b), H', I', rfl, q⟩
  split
  · rename_i q
    have e : PySem.W.subIn X.K t (.ref C) = some false := by
      rcases Bool.or_eq_true_iff.mp nf with e | e
      · rw [beq_iff_eq.mp e] at q; simp at q
      · exact beq_iff_eq.mp e
    refine wpAny_bind ((PySem.W.looks_subIn I.kIn e).here ?_)
    simp only [Bool.false_eq_true, if_false]
    refine wpAny_bind (wpAny_mono one (fun r s' z => ?_) fun _ _ e => e)
    obtain ⟨b, rfl, hq⟩ := fin r s' z
    exact wpAny_pure hq
  · refine wpAny_bind (wpAny_pure ?_)
    simp only [Bool.false_eq_true, if_false]
    refine wpAny_bind (wpAny_mono one (fun r s' z => ?_) fun _ _ e => e)
    obtain ⟨b, rfl, hq⟩ := fin r s' z
    exact wpAny_pure hq
/-- what == may be asked with -/
def Beside (K : PySem.W.Frag) (M : Mem) (C : Addr) (y : D) : Prop := (∃ C' gs, insOf M y = some (C', gs) ∧ IsiC K C' ∧ PySem.W.notFirst K C (.ref C') = true) ∨ ∃ T, tyD M y = some T ∧ PySem.W.notFirst K C (.type T) = true
def rdOwn (K : PySem.W.Frag) (C : Addr) (sp : SpD) (neg : Bool) : RD2 := fun x y M Q => ∃ fs, insOf M x = some (C, fs) ∧ Beside K M C y ∧ sp [x, y] M (fun v M' => ∃ b : Bool, v = .bl b ∧ Q (.bl (if neg then !b else b)) M') (fun _ _ _ => False)
theorem snd_own {sp : SpD} {neg : Bool} : SndR X (rOwn X.K C (liftSp X.K sp) neg) (rdOwn X.K C sp neg) := by
  intro Δ I M H σ env G x y dx dy rx ry Q Qd k ⟨fs, e1, bs, q⟩
  obtain ⟨a, dd, fvs, rfl, h1, h2⟩ := ins_of G.at_ rx e1
  have ty : ∃ t, TyX X.K H y t ∧ PySem.W.notFirst X.K C t = true := by
    rcases bs with ⟨C', gs, e2, c, nf⟩ | ⟨T, e2, nf⟩
    · obtain ⟨b, db, gvs, rfl, h3, _⟩ := ins_of G.at_ ry e2
      exact ⟨_, .base (.ins h3 c.cl c.atr c.got c.tak c.all), nf⟩
    · exact ⟨_, ty_of G.at_ ry e2, nf⟩
  obtain ⟨t, ty, nf⟩ := ty
  refine ⟨a, dd, fvs, t, rfl, h1, ty, nf, Δ.F, I, M, [dx, dy], _, _, G.at_, .cons rx (.cons ry .nil), q, fun d M' I' H' v x A r' q => ?_, fun _ _ _ _ _ _ _ _ _ w => w⟩
  obtain ⟨b, e3, q⟩ := q
  subst e3
  exact ⟨b, r'.bl_inv, k _ _ _ _ _ x (G.go x A) (.bl _) q⟩
/-! x in t, t a tuple or list of data -/
def rInT (K : PySem.W.Frag) (neg : Bool) : R2 := fun x y H Q => ∃ d ds, Dp K H x d ∧ (Dp K H y (.tuple ds) ∨ Dp K H y (.list ds)) ∧ SeqAt.shaped d = true ∧ SeqAt.shaped (.list ds) = true ∧ Q (.bl (if neg then !ds.any fun z => PyData.eqv z d else ds.any fun z => PyData.eqv z d)) H
theorem op_inT (hu : X.A.units + 65 < cLine) : OpR X (compareOp .In) (rInT X.K false) := by
  intro pins s σ H x y v u Q I rx ry h
  obtain ⟨d, ds, hd, he, sd, se, q⟩ := h
  obtain ⟨as, r1⟩ := Dp.reads I d x v hd rx
  rcases he with he | he
  · obtain ⟨bs, r2⟩ := Dp.reads I (.tuple ds) y u he ry
    exact SeqAt.in_tuple_reads r2 r1 (SeqAt.canLay_of_shaped se) (SeqAt.canLay_of_shaped sd) (room_in_shaped sd hu) ⟨.bl _, H, I, rfl, q⟩
  · obtain ⟨bs, r2⟩ := Dp.reads I (.list ds) y u he ry
    exact SeqAt.in_list_reads r2 r1 (SeqAt.canLay_of_shaped se) (SeqAt.canLay_of_shaped sd) (room_in_shaped sd hu) ⟨.bl _, H, I, rfl, q⟩
theorem op_notInT (hu : X.A.units + 65 < cLine) : OpR X (compareOp .NotIn) (rInT X.K true) := by
  intro pins s σ H x y v u Q I rx ry h
  obtain ⟨d, ds, hd, he, sd, se, q⟩ := h
  obtain ⟨as, r1⟩ := Dp.reads I d x v hd rx
  rcases he with he | he
  · obtain ⟨bs, r2⟩ := Dp.reads I (.tuple ds) y u he ry
    exact SeqAt.notIn_tuple_reads r2 r1 (SeqAt.canLay_of_shaped se) (SeqAt.canLay_of_shaped sd) (room_in_shaped sd hu) ⟨.bl _, H, I, rfl, q⟩
  · obtain ⟨bs, r2⟩ := Dp.reads I (.list ds) y u he ry
    exact SeqAt.notIn_list_reads r2 r1 (SeqAt.canLay_of_shaped se) (SeqAt.canLay_of_shaped sd) (room_in_shaped sd hu) ⟨.bl _, H, I, rfl, q⟩
def rdInT (neg : Bool) : RD2 := fun x y M Q => ∃ d ds, pyOf M x = some d ∧ (pyOf M y = some (.tuple ds) ∨ pyOf M y = some (.list ds)) ∧ SeqAt.shaped d = true ∧ SeqAt.shaped (.list ds) = true ∧ Q (.bl (if neg then !ds.any fun z => PyData.eqv z d else ds.any fun z => PyData.eqv z d)) M
theorem snd_inT {neg : Bool} : SndR X (rInT X.K neg) (rdInT neg) := by
  intro Δ I M H σ env G x y dx dy rx ry Q Qd k ⟨d, ds, h1, h2, s1, s2, q⟩
  exact ⟨d, ds, pyOf_dp G.at_ rx h1, h2.imp (pyOf_dp G.at_ ry) (pyOf_dp G.at_ ry), s1, s2, k _ _ _ _ _ (Ext.refl I) G (.bl _) q⟩
end
end BB

set_option maxHeartbeats 4000000
namespace BB
open L2 PySem PySem.Spec PyProof.Rows

/-! ### promises by the number of arguments -/
def spN1 (p : D → Mem → DKt → DX → Prop) : SpD := fun ds M Q E => ∃ a, ds = [a] ∧ p a M Q E
def spN2 (p : D → D → Mem → DKt → DX → Prop) : SpD := fun ds M Q E => ∃ a b, ds = [a, b] ∧ p a b M Q E
def spN3 (p : D → D → D → Mem → DKt → DX → Prop) : SpD := fun ds M Q E => ∃ a b c, ds = [a, b, c] ∧ p a b c M Q E
def spN4 (p : D → D → D → D → Mem → DKt → DX → Prop) : SpD := fun ds M Q E => ∃ a b c d, ds = [a, b, c, d] ∧ p a b c d M Q E
theorem len1 {p} : ∀ ds M Q E, spN1 p ds M Q E → ds.length = 1 := by rintro _ _ _ _ ⟨_, rfl, _⟩; rfl
theorem len2 {p} : ∀ ds M Q E, spN2 p ds M Q E → ds.length = 2 := by rintro _ _ _ _ ⟨_, _, rfl, _⟩; rfl
theorem len3 {p} : ∀ ds M Q E, spN3 p ds M Q E → ds.length = 3 := by rintro _ _ _ _ ⟨_, _, _, rfl, _⟩; rfl
theorem len4 {p} : ∀ ds M Q E, spN4 p ds M Q E → ds.length = 4 := by rintro _ _ _ _ ⟨_, _, _, _, rfl, _⟩; rfl
/-- what a def may let out, as its body sees it -/
def wd (E : DX) : DW := fun c fs _ M' => FzV (fun _ M'' => E c fs M'') .non M'
theorem hu65_of {k : Nat} {A : Around} (h : Room k A) : A.units + 65 < cLine := by have := h.un; omega
theorem hu_of {k : Nat} {A : Around} (h : Room k A) : A.units + 64 < cLine := by have := h.un; omega

/-! ### the draws -/
def sp__law_begun (K : PySem.W.Frag) : SpD := spN1 fun d M Q E => ∃ xs : List Int, d = .frz (xs.map .int) ∧ xs.length ≤ 63 ∧ ∀ a c, M a = none → M c = none → a ≠ c → Q (.ref a) (mset (mset M c (.own a)) a (.gen c))
def sp__law_draw (K : PySem.W.Frag) : SpD := spN2 fun s n M Q E => ∃ a c m, s = .ref a ∧ M a = some (.gen c) ∧ n = .int m ∧ 0 < m ∧ m < 1073741824 ∧ ∀ r : Int, 0 ≤ r → r < m → Q (.int r) M

/-! ### names, plans -/
def SMALLS : Str := "abcdefghijklmnopqrstuvwxyz"
def isNameB (z : Str) : Bool := decide (1 ≤ z.length) && (decide (z.length ≤ 6) && z.cps.toList.all fun c => decide (c ∈ SMALLS.cps.toList))
def isNameD : D → Bool
  | .str z => isNameB z
  | _ => false
/-- a thing that can be asked for its kind -/
def Plain (M : Mem) (d : D) : Prop := (∃ T, tyD M d = some T) ∧ ∀ z, d = .str z → z.length ≤ sizeLine
def sp__law_name (K : PySem.W.Frag) : SpD := spN1 fun s M Q E => ∃ a c, s = .ref a ∧ M a = some (.gen c) ∧ ∀ z, isNameB z = true → Q (.str z) M
/-- names: strictly rising -/
def isNames (zs : List Str) (lo hi : Nat) : Prop := (∀ z ∈ zs, isNameB z = true) ∧ zs.Pairwise (fun x y => ltS x y = true) ∧ lo ≤ zs.length ∧ zs.length ≤ hi
def sp__law_names (K : PySem.W.Frag) : SpD := spN2 fun s n M Q E => ∃ a c m, s = .ref a ∧ M a = some (.gen c) ∧ n = .int m ∧ 1 ≤ m ∧ m ≤ 8 ∧ ∀ zs, isNames zs m.toNat m.toNat → Q (.ntup (zs.map .str)) M
abbrev Door := Option (Str × Nat)
def doorD : Door → D
  | none => .non
  | some (s, n) => .tup [.str s, .int n]
structure Pl where
  letters : List Str
  signs : List Str
  rooms : List (List Door)
structure Pl.Ok (p : Pl) : Prop where
  ls : isNames p.letters 1 4
  ss : isNames p.signs 2 4
  lo : 1 ≤ p.rooms.length
  hi : p.rooms.length ≤ 36
  row : ∀ r ∈ p.rooms, r.length = p.letters.length
  door : ∀ r ∈ p.rooms, ∀ s n, some (s, n) ∈ r → s ∈ p.signs ∧ n < p.rooms.length
def namesD (zs : List Str) : D := .ntup (zs.map .str)
def rowsD' (rs : List (List Door)) : D := .tup (rs.map fun r => .tup (r.map doorD))
def partsD (p : Pl) : D := .tup [namesD p.letters, namesD p.signs, rowsD' p.rooms]
def planD (K : PySem.W.Frag) (p : Pl) : D := .ins (He.ga K "Plan") [("own_letters", namesD p.letters), ("own_signs", namesD p.signs), ("own_rooms", rowsD' p.rooms)]
def Pl.door' (p : Pl) (room : Nat) (z : Str) : Door := ((p.rooms[room]?).getD [])[ixOf z p.letters]?.getD none
def sp__law_parts (K : PySem.W.Frag) : SpD := spN4 fun s n l t M Q E => ∃ a c m lm sh, s = .ref a ∧ M a = some (.gen c) ∧ n = .int m ∧ l = .int lm ∧ t = .int sh ∧ 1 ≤ m ∧ m ≤ 36 ∧ 1 ≤ lm ∧ lm ≤ 4 ∧ 0 ≤ sh ∧ sh < 1000 ∧
  ∀ p : Pl, p.Ok → p.rooms.length = m.toNat → Q (partsD p) M

def sp_is_name (K : PySem.W.Frag) : SpD := spN1 fun d M Q E => ∃ z, d = .str z ∧ z.length ≤ sizeLine ∧ Q (.bl (isNameB z)) M
def sp_is_count (K : PySem.W.Frag) : SpD := spN1 fun d M Q E => ∃ i, d = .int i ∧ Q (.bl (decide (0 ≤ i))) M
def sp_is_door (K : PySem.W.Frag) : SpD := spN3 fun d s n M Q E => ∃ (dr : Door) (ss : List Str) (many : Nat), d = doorD dr ∧ s = namesD ss ∧ n = .int many ∧ (∀ x y, dr = some (x, y) → x.length ≤ sizeLine ∧ x ∈ ss ∧ y < many) ∧ Q (.bl true) M
def sp_door_by (K : PySem.W.Frag) : SpD := spN3 fun o r l M Q E => ∃ (p : Pl) (room : Nat) (z : Str), p.Ok ∧ o = planD K p ∧ r = .int room ∧ room < p.rooms.length ∧ l = .str z ∧ z ∈ p.letters ∧ Q (doorD (p.door' room z)) M
/-- where a word of letters stops -/
def Pl.stop (p : Pl) : List Str → Nat → Option Nat
  | [], _ => none
  | z :: ws, r => match p.door' r z with
    | none => some 0
    | some (_, n) => (p.stop ws n).map (· + 1)
def Pl.along (p : Pl) : List Str → Nat → Option (List Str × Nat)
  | [], r => some ([], r)
  | z :: ws, r => match p.door' r z with
    | none => none
    | some (s, n) => (p.along ws n).map fun q => (s :: q.1, q.2)
def wordD (ws : List Str) : D := .tup (ws.map .str)
/-- a word of letters of the plan, not too long -/
def Pl.Word (p : Pl) (ws : List Str) : Prop := (∀ z ∈ ws, z ∈ p.letters) ∧ ws.length ≤ 60
def stopD : Option Nat → D
  | none => .non
  | some n => .int (n : Nat)
def sp_stop_of (K : PySem.W.Frag) : SpD := spN3 fun o w r M Q E => ∃ (p : Pl) (ws : List Str) (room : Nat), p.Ok ∧ o = planD K p ∧ w = wordD ws ∧ p.Word ws ∧ r = .int room ∧ room < p.rooms.length ∧ Q (stopD (p.stop ws room)) M
def sp_need_room (K : PySem.W.Frag) : SpD := spN2 fun o r M Q E => ∃ (p : Pl) (room : Nat), p.Ok ∧ o = planD K p ∧ r = .int room ∧ room < p.rooms.length ∧ Q (.int room) M
def sp_need_word (K : PySem.W.Frag) : SpD := spN3 fun o w r M Q E => ∃ (p : Pl) (ws : List Str) (room : Nat), p.Ok ∧ o = planD K p ∧ w = wordD ws ∧ p.Word ws ∧ r = .int room ∧ room < p.rooms.length ∧
  (p.stop ws room = none → Q (wordD ws) M) ∧ ∀ n, p.stop ws room = some n → E (.ref (He.ga K "NoWord")) [("at", .int (n : Nat))] M
def sp_goes (K : PySem.W.Frag) : SpD := spN3 fun o w r M Q E => ∃ (p : Pl) (ws : List Str) (room : Nat), p.Ok ∧ o = planD K p ∧ w = wordD ws ∧ p.Word ws ∧ r = .int room ∧ room < p.rooms.length ∧ Q (.bl (p.stop ws room).isNone) M
def sp_told (K : PySem.W.Frag) : SpD := spN3 fun o w r M Q E => ∃ (p : Pl) (ws : List Str) (room : Nat), p.Ok ∧ o = planD K p ∧ w = wordD ws ∧ p.Word ws ∧ r = .int room ∧ room < p.rooms.length ∧
  (∀ h e, p.along ws room = some (h, e) → Q (wordD h) M) ∧ ∀ n, p.stop ws room = some n → E (.ref (He.ga K "NoWord")) [("at", .int (n : Nat))] M
def sp_behind (K : PySem.W.Frag) : SpD := spN3 fun o w r M Q E => ∃ (p : Pl) (ws : List Str) (room : Nat), p.Ok ∧ o = planD K p ∧ w = wordD ws ∧ p.Word ws ∧ r = .int room ∧ room < p.rooms.length ∧
  (∀ h e, p.along ws room = some (h, e) → Q (.int e) M) ∧ ∀ n, p.stop ws room = some n → E (.ref (He.ga K "NoWord")) [("at", .int (n : Nat))] M

/-! ### the law's own -/
def alongD : Option (List Str × Nat) → D
  | none => .non
  | some (h, e) => .tup [wordD h, .int (e : Nat)]
def sp__law_along (K : PySem.W.Frag) : SpD := spN3 fun q w r M Q E => ∃ (p : Pl) (ws : List Str) (room : Nat), p.Ok ∧ q = partsD p ∧ w = wordD ws ∧ p.Word ws ∧ r = .int room ∧ room < p.rooms.length ∧ Q (alongD (p.along ws room)) M
def sp__law_word (K : PySem.W.Frag) : SpD := spN3 fun s q n M Q E => ∃ (a c : Addr) (p : Pl) (m : Nat), s = .ref a ∧ M a = some (.gen c) ∧ q = partsD p ∧ p.Ok ∧ n = .int m ∧ m ≤ 60 ∧ ∀ ws : List Str, (∀ z ∈ ws, z ∈ p.letters) → ws.length ≤ m → Q (wordD ws) M
def sp__law_pieces (K : PySem.W.Frag) : SpD := spN2 fun s w M Q E => ∃ (a c : Addr) (ws : List Str), s = .ref a ∧ M a = some (.gen c) ∧ w = wordD ws ∧ ws.length ≤ 1000 ∧ ∀ x y z : List Str, x ++ (y ++ z) = ws → Q (.lst [wordD x, wordD y, wordD z]) M
def sp__law_by_pieces (K : PySem.W.Frag) : SpD := spN3 fun o q r M Q E => ∃ (p : Pl) (x y z : List Str) (room : Nat), p.Ok ∧ o = planD K p ∧ q = .lst [wordD x, wordD y, wordD z] ∧ p.Word (x ++ (y ++ z)) ∧ r = .int room ∧ room < p.rooms.length ∧
  Q (alongD (p.along (x ++ (y ++ z)) room)) M
def sp__law_place (K : PySem.W.Frag) : SpD := spN3 fun o w r M Q E => ∃ (p : Pl) (ws : List Str) (room : Nat), p.Ok ∧ o = planD K p ∧ w = wordD ws ∧ p.Word ws ∧ r = .int room ∧ room < p.rooms.length ∧ PySem.W.exmOne K (.ref (He.ga K "NoWord")) (.ref (He.ga K "NoWord")) = some true ∧
  Q (.int (match p.stop ws room with | none => -1 | some n => (n : Int))) M
end BB

set_option maxHeartbeats 4000000
namespace BB
open L2 PySem PySem.Spec PyProof.Rows
/-! plans whose letters may stand in any tuple -/
def nmD : Bool → List Str → D
  | true, zs => .ntup (zs.map .str)
  | false, zs => .tup (zs.map .str)
theorem nrm_nm {b : Bool} {zs : List Str} : nrm (nmD b zs) = .tup (zs.map .str) := by cases b <;> rfl
def planB (K : PySem.W.Frag) (b : Bool) (p : Pl) : D := .ins (He.ga K "Plan") [("own_letters", nmD b p.letters), ("own_signs", namesD p.signs), ("own_rooms", rowsD' p.rooms)]
def partsB (b : Bool) (p : Pl) : D := .tup [nmD b p.letters, namesD p.signs, rowsD' p.rooms]
def sp_are_names (K : PySem.W.Frag) : SpD := spN3 fun d l h M Q E => ∃ zs lo hi b, d = nmD b zs ∧ l = .int (lo : Nat) ∧ h = .int (hi : Nat) ∧ hi ≤ 1000 ∧ isNames zs lo hi ∧ Q (.bl true) M
def sp_are_rooms (K : PySem.W.Frag) : SpD := spN3 fun d l s M Q E => ∃ (p : Pl) (b : Bool), p.Ok ∧ d = rowsD' p.rooms ∧ l = nmD b p.letters ∧ s = namesD p.signs ∧ Q (.bl true) M
def sp_Plan___init__ (K : PySem.W.Frag) : SpD := spN4 fun o l s r M Q E => ∃ (p : Pl) (b : Bool) (a : Addr), p.Ok ∧ o = .ref a ∧ M a = some (.ins (He.ga K "Plan") []) ∧ l = nmD b p.letters ∧ s = namesD p.signs ∧ r = rowsD' p.rooms ∧
  Q .non (mset M a (.ins (He.ga K "Plan") [("own_letters", nmD b p.letters), ("own_signs", namesD p.signs), ("own_rooms", rowsD' p.rooms)]))
def sp_Plan_letters (K : PySem.W.Frag) : SpD := spN1 fun o M Q E => ∃ p b, o = planB K b p ∧ Q (nmD b p.letters) M
def sp_Plan_signs (K : PySem.W.Frag) : SpD := spN1 fun o M Q E => ∃ p b, o = planB K b p ∧ Q (namesD p.signs) M
def sp_Plan_rooms (K : PySem.W.Frag) : SpD := spN1 fun o M Q E => ∃ p b, o = planB K b p ∧ Q (rowsD' p.rooms) M
def sp_Plan___len__ (K : PySem.W.Frag) : SpD := spN1 fun o M Q E => ∃ p b, o = planB K b p ∧ p.rooms.length ≤ 1000 ∧ Q (.int p.rooms.length) M
def Pl.fullB (p : Pl) : Bool := p.rooms.all fun r => r.all Option.isSome
def sp_Plan_is_full (K : PySem.W.Frag) : SpD := spN1 fun o M Q E => ∃ p b, p.Ok ∧ o = planB K b p ∧ Q (.bl p.fullB) M
/-- what is asked of the class -/
def PlanFx (K : PySem.W.Frag) : Prop := IsiC K (He.ga K "Plan") ∧ PySem.W.kitOne K (.ref (He.ga K "Plan")) (.ref (He.ga K "Plan")) = some true ∧ PySem.W.kitOne K (.type "tuple") (.ref (He.ga K "Plan")) = some false
def Pl.eqB (p q : Pl) : Bool := decide (p.letters = q.letters) && (decide (p.signs = q.signs) && decide (p.rooms = q.rooms))
def sp_Plan___eq__ (K : PySem.W.Frag) : SpD := spN2 fun o y M Q E => ∃ p b, p.Ok ∧ o = planB K b p ∧ PlanFx K ∧ ((∃ q c, q.Ok ∧ y = planB K c q ∧ Q (.bl (p.eqB q)) M) ∨ (tyD M y = some "tuple" ∧ Q (.bl false) M))
def sp__law_otherwise (K : PySem.W.Frag) : SpD := spN2 fun s q M Q E => ∃ (a c : Addr) (p : Pl), s = .ref a ∧ M a = some (.gen c) ∧ q = partsD p ∧ p.Ok ∧ ∀ (q : Pl) (b : Bool), q.Ok → Q (partsB b q) M
def sp__law_right (K : PySem.W.Frag) : SpD := spN2 fun o q M Q E => ∃ (p : Pl) (b : Bool), p.Ok ∧ o = planB K b p ∧ q = partsB b p ∧ Q (.bl true) M
def sp_law (K : PySem.W.Frag) : SpD := spN1 fun d M Q E => ∃ xs : List Int, d = .frz (xs.map .int) ∧ xs.length ≤ 63 ∧ (∀ a, M a = none) ∧ PlanFx K ∧ ∀ M', Q (.bl true) M'
end BB

set_option maxHeartbeats 4000000

namespace BB
open L2 PySem PySem.Spec PyProof.Rows
/-! what each def does, over data: printed by gen.py -/
def rd__law_name (K : PySem.W.Frag) (Wd : DW) : DS :=
  (dSeq (dIfS (dTest (dOp (rdEq) (dN (dCall Wd (sp__law_draw K) [] (dCons (dVar 0) (dCons (dC (.int 3)) (dNil))))) (dN (dC (.int 0))))) (dRet (dOp (rdO ixD) (dN (dLst (dCons (dC (.str "room")) (dCons (dC (.str "box")) (dCons (dC (.str "word")) (dCons (dC (.str "suite")) (dCons (dC (.str "sign")) (dCons (dC (.str "claim")) (dCons (dC (.str "plan")) (dCons (dC (.str "done")) (dCons (dC (.str "put")) (dCons (dC (.str "tell")) (dNil))))))))))))) (dCall Wd (sp__law_draw K) [] (dCons (dVar 0) (dCons (dC (.int 10)) (dNil)))))) dNext)
  (dSeq (dSet 1 (dOp (rdO ixD) (dN (dLst (dCons (dC (.int 1)) (dCons (dC (.int 1)) (dCons (dC (.int 1)) (dCons (dC (.int 2)) (dCons (dC (.int 6)) (dCons (dC (.int 3)) (dNil))))))))) (dCall Wd (sp__law_draw K) [] (dCons (dVar 0) (dCons (dC (.int 6)) (dNil))))))
  (dRet (dJoin (dC (.str "")) (dN (dLc (dRng1 (dCons (dN (dVar 1)) (dNil))) (gdName 2) dYes (dOp (rdO ixD) (dN (dC (.str "abcdefghijklmnopqrstuvwxyz"))) (dCall noD (sp__law_draw K) [] (dCons (dVar 0) (dCons (dC (.int 26)) (dNil))))) [2]))))))
def rd__law_names (K : PySem.W.Frag) (Wd : DW) : DS :=
  (dSeq (dSet 2 (dLstM (dNil)))
  (dSeq (dWhile (dTest (dOp (rdO (cmpD (fun i j => decide (i < j)) ltS)) (dN (dCB (rd1 lenD) (dCons (dN (dVar 2)) (dNil)))) (dN (dVar 1)))) (dSeq (dSet 3 (dCall Wd (sp__law_name K) [] (dCons (dVar 0) (dNil))))
  (dSeq (dIfS ((dAnd (dTest (dOp (rdNe) (dN (dVar 2)) (dN (dLst (dNil))))) (dTest (dOp (rdEq) (dN (dCall Wd (sp__law_draw K) [] (dCons (dVar 0) (dCons (dC (.int 4)) (dNil))))) (dN (dC (.int 0))))))) (dSet 3 (dOp (rdO addD) (dN (dSl (dN (dOp (rdO ixD) (dN (dVar 2)) (dNeg (dC (.int 1))))) dNoPart (dPart (dC (.int 5))))) (dN (dOp (rdO ixD) (dN (dC (.str "abz"))) (dCall Wd (sp__law_draw K) [] (dCons (dVar 0) (dCons (dC (.int 3)) (dNil)))))))) dNext)
  (dSeq (dSet 4 (dOp (rdO addD) (dN (dLst (dCons (dVar 3) (dNil)))) (dN (dLc (dSeqI (dN (dC (.str "abcdefghijklmnopqrstuvwxyz")))) (gdName 5) dYes (dOp (rdO addD) (dN (dSl (dN (dVar 3)) dNoPart (dPart (dC (.int 4))))) (dN (dVar 5))) [5]))))
  (dDrop (dApp (dVar 2) (dOp (rdO ixD) (dN (dLc (dSeqI (dN (dVar 4))) (gdName 6) (dTest (dOp (rdIn true) (dN (dVar 6)) (dN (dVar 2)))) (dVar 6) [6])) (dC (.int 0)))))))))
  (dRet (dCB (rdTupN) (dCons (dN (dCB (rdSortS) (dCons (dN (dVar 2)) (dNil)))) (dNil))))))
def rd__law_parts (K : PySem.W.Frag) (Wd : DW) : DS :=
  (dSeq (dSet 4 (dCall Wd (sp__law_names K) [] (dCons (dVar 0) (dCons (dOp (rdO addD) (dN (dC (.int 1))) (dN (dCall Wd (sp__law_draw K) [] (dCons (dVar 0) (dCons (dVar 2) (dNil)))))) (dNil)))))
  (dSeq (dPar 5 6 (dCall Wd (sp__law_names K) [] (dCons (dVar 0) (dCons (dOp (rdO addD) (dN (dC (.int 2))) (dN (dCall Wd (sp__law_draw K) [] (dCons (dVar 0) (dCons (dC (.int 3)) (dNil)))))) (dNil)))) (dLstM (dNil)))
  (dSeq (dFor (dRng1 (dCons (dN (dVar 1)) (dNil))) (gdName 7) (dSeq (dSet 8 (dLstM (dNil)))
  (dSeq (dFor (dSeqI (dN (dVar 4))) (gdName 9) (dSeq (dSet 10 (dTup (dCons (dOp (rdO ixD) (dN (dVar 5)) (dCall Wd (sp__law_draw K) [] (dCons (dVar 0) (dCons (dCB (rd1 lenD) (dCons (dN (dVar 5)) (dNil))) (dNil))))) (dCons (dCall Wd (sp__law_draw K) [] (dCons (dVar 0) (dCons (dVar 1) (dNil)))) (dNil)))))
  (dSeq (dIfS ((dAnd (dTest (dOp (rdO (cmpD (fun i j => decide (i < j)) ltS)) (dN (dOp (rdO addD) (dN (dVar 7)) (dN (dC (.int 1))))) (dN (dVar 1)))) (dTest (dOp (rdEq) (dN (dCall Wd (sp__law_draw K) [] (dCons (dVar 0) (dCons (dC (.int 3)) (dNil))))) (dN (dC (.int 0))))))) (dSet 10 (dTup (dCons (dOp (rdO ixD) (dN (dVar 10)) (dC (.int 0))) (dCons (dOp (rdO addD) (dN (dVar 7)) (dN (dC (.int 1)))) (dNil))))) dNext)
  (dSeq (dIfS ((dAnd (dTest (dOp (rdO (intD fun i j => decide (i > j))) (dN (dVar 3)) (dN (dC (.int 0))))) (dTest (dOp (rdEq) (dN (dCall Wd (sp__law_draw K) [] (dCons (dVar 0) (dCons (dVar 3) (dNil))))) (dN (dC (.int 0))))))) (dSet 10 (dC .non)) dNext)
  (dDrop (dApp (dVar 8) (dVar 10)))))))
  (dDrop (dApp (dVar 6) (dCB (rd1 tupD) (dCons (dN (dVar 8)) (dNil))))))))
  (dRet (dTup (dCons (dVar 4) (dCons (dVar 5) (dCons (dCB (rd1 tupD) (dCons (dN (dVar 6)) (dNil))) (dNil)))))))))
def rd__law_otherwise (K : PySem.W.Frag) (Wd : DW) : DS :=
  (dSeq (dAsg (dN (dVar 1)) (gdTup 3 (gdCons (gdName 2) (gdCons (gdName 3) (gdCons (gdName 4) (gdNil))))))
  (dSeq (dPar 5 6 (dCall Wd (sp__law_draw K) [] (dCons (dVar 0) (dCons (dC (.int 6)) (dNil)))) (dCall Wd (sp__law_draw K) [] (dCons (dVar 0) (dCons (dCB (rd1 lenD) (dCons (dN (dVar 4)) (dNil))) (dNil)))))
  (dSeq (dSet 7 (dOp (rdO addD) (dN (dTup (dCons (dC (.str "")) (dNil)))) (dN (dSl (dN (dVar 2)) dNoPart (dPart (dNeg (dC (.int 1))))))))
  (dSeq (dSet 8 (dLc (dSeqI (dN (dLst (dCons (dC (.str "zzzzzz")) (dCons (dC (.str "zzzzzy")) (dNil)))))) (gdName 10) ((dAnd (dTest (dOp (rdO (cmpD (fun i j => decide (i < j)) ltS)) (dN (dOp (rdO ixD) (dN (dVar 7)) (dNeg (dC (.int 1))))) (dN (dVar 10)))) (dTest (dOp (rdNe) (dN (dVar 10)) (dN (dOp (rdO ixD) (dN (dVar 2)) (dNeg (dC (.int 1))))))))) (dVar 10) [10]))
  (dSeq (dIfS ((dAnd (dTest (dOp (rdEq) (dN (dVar 5)) (dN (dC (.int 0))))) (dTest (dOp (rdNe) (dN (dVar 8)) (dN (dLst (dNil))))))) (dRet (dTup (dCons (dOp (rdO addD) (dN (dSl (dN (dVar 2)) dNoPart (dPart (dNeg (dC (.int 1)))))) (dN (dTup (dCons (dOp (rdO ixD) (dN (dVar 8)) (dC (.int 0))) (dNil))))) (dCons (dVar 3) (dCons (dVar 4) (dNil)))))) dNext)
  (dSeq (dIfS (dTest (dOp (rdEq) (dN (dVar 5)) (dN (dC (.int 1))))) (dSeq (dSet 9 (dLc (dSeqI (dN (dOp (rdO ixD) (dN (dVar 4)) (dVar 6)))) (gdName 11) dYes (dOp (rdO ixD) (dN (dLst (dCons (dVar 11) (dCons (dTup (dCons (dOp (rdO ixD) (dN (dVar 3)) (dC (.int 0))) (dCons (dC (.int 0)) (dNil)))) (dNil))))) (dCB (rd1 intOfD) (dCons (dN (dOp (rdO isD) (dN (dVar 11)) (dN (dC .non)))) (dNil)))) [11]))
  (dRet (dTup (dCons (dVar 2) (dCons (dVar 3) (dCons (dOp (rdO addD) (dN (dOp (rdO addD) (dN (dSl (dN (dVar 4)) dNoPart (dPart (dVar 6)))) (dN (dTup (dCons (dCB (rd1 tupD) (dCons (dN (dVar 9)) (dNil))) (dNil)))))) (dN (dSl (dN (dVar 4)) (dPart (dOp (rdO addD) (dN (dVar 6)) (dN (dC (.int 1))))) dNoPart))) (dNil))))))) dNext)
  (dSeq (dIfS (dTest (dOp (rdEq) (dN (dVar 5)) (dN (dC (.int 2))))) (dRet (dTup (dCons (dVar 2) (dCons (dVar 3) (dCons (dOp (rdO addD) (dN (dOp (rdO addD) (dN (dSl (dN (dVar 4)) dNoPart (dPart (dVar 6)))) (dN (dTup (dCons (dOp (rdO mulE) (dN (dTup (dCons (dC .non) (dNil)))) (dN (dCB (rd1 lenD) (dCons (dN (dVar 2)) (dNil))))) (dNil)))))) (dN (dSl (dN (dVar 4)) (dPart (dOp (rdO addD) (dN (dVar 6)) (dN (dC (.int 1))))) dNoPart))) (dNil)))))) dNext)
  (dSeq (dIfS ((dAnd (dTest (dOp (rdEq) (dN (dVar 5)) (dN (dC (.int 3))))) (dTest (dOp (rdO (cmpD (fun i j => decide (i < j)) ltS)) (dN (dCB (rd1 lenD) (dCons (dN (dVar 4)) (dNil)))) (dN (dC (.int 36))))))) (dRet (dTup (dCons (dVar 2) (dCons (dVar 3) (dCons (dOp (rdO addD) (dN (dVar 4)) (dN (dSl (dN (dVar 4)) dNoPart (dPart (dC (.int 1)))))) (dNil)))))) dNext)
  (dSeq (dIfS (dTest (dOp (rdEq) (dN (dVar 5)) (dN (dC (.int 4))))) (dSeq (dSet 9 (dOp (rdO addD) (dN (dTup (dCons (dTup (dCons (dOp (rdO ixD) (dN (dVar 3)) (dCall Wd (sp__law_draw K) [] (dCons (dVar 0) (dCons (dCB (rd1 lenD) (dCons (dN (dVar 3)) (dNil))) (dNil))))) (dCons (dCall Wd (sp__law_draw K) [] (dCons (dVar 0) (dCons (dCB (rd1 lenD) (dCons (dN (dVar 4)) (dNil))) (dNil)))) (dNil)))) (dNil)))) (dN (dSl (dN (dOp (rdO ixD) (dN (dVar 4)) (dVar 6))) (dPart (dC (.int 1))) dNoPart))))
  (dRet (dTup (dCons (dVar 2) (dCons (dVar 3) (dCons (dOp (rdO addD) (dN (dOp (rdO addD) (dN (dSl (dN (dVar 4)) dNoPart (dPart (dVar 6)))) (dN (dTup (dCons (dVar 9) (dNil)))))) (dN (dSl (dN (dVar 4)) (dPart (dOp (rdO addD) (dN (dVar 6)) (dN (dC (.int 1))))) dNoPart))) (dNil))))))) dNext)
  (dRet (dVar 1)))))))))))
def rd_is_name (K : PySem.W.Frag) (Wd : DW) : DS :=
  (dRet ((dAndV (dCB rdIsi (dCons (dVar 0) (dCons (dC (.ty "str")) (dNil)))) (dAndV (dChain (rdO (intD fun i j => decide (i ≤ j))) (rdO (intD fun i j => decide (i ≤ j))) (dN (dC (.int 1))) (dN (dCB (rd1 lenD) (dCons (dN (dVar 0)) (dNil)))) (dN (dC (.int 6)))) (dCB (rdAll) (dCons (dN (dLc (dSeqI (dN (dVar 0))) (gdName 1) dYes (dOp (rdIn false) (dN (dVar 1)) (dN (dC (.str "abcdefghijklmnopqrstuvwxyz")))) [1])) (dNil)))))))
def rd_are_names (K : PySem.W.Frag) (Wd : DW) : DS :=
  (dSeq (dIfS ((dOr (dNot (dTru (dN (dCB rdIsi (dCons (dVar 0) (dCons (dC (.ty "tuple")) (dNil))))))) (dOr (dNot (dTest (dChain (rdO (intD fun i j => decide (i ≤ j))) (rdO (intD fun i j => decide (i ≤ j))) (dN (dVar 1)) (dN (dCB (rd1 lenD) (dCons (dN (dVar 0)) (dNil)))) (dN (dVar 2))))) (dNot (dTru (dN (dCB (rdAll) (dCons (dN (dLc (dSeqI (dN (dVar 0))) (gdName 3) dYes (dCall noD (sp_is_name K) [] (dCons (dVar 3) (dNil))) [3])) (dNil))))))))) (dRet (dC (.bl false))) dNext)
  (dRet (dCB (rdAll) (dCons (dN (dLc (dZip2 (dCons (dN (dVar 0)) (dCons (dN (dSl (dN (dVar 0)) (dPart (dC (.int 1))) dNoPart)) (dNil)))) (gdTup 2 (gdCons (gdName 3) (gdCons (gdName 4) (gdNil)))) dYes (dOp (rdO (cmpD (fun i j => decide (i < j)) ltS)) (dN (dVar 3)) (dN (dVar 4))) [3, 4])) (dNil)))))
def rd_is_count (K : PySem.W.Frag) (Wd : DW) : DS :=
  (dRet ((dAndV (dCB rdIsi (dCons (dVar 0) (dCons (dC (.ty "int")) (dNil)))) (dAndV (dNotV (dN (dCB rdIsi (dCons (dVar 0) (dCons (dC (.ty "bool")) (dNil)))))) (dOp (rdO (intD fun i j => decide (i ≥ j))) (dN (dVar 0)) (dN (dC (.int 0))))))))
def rd_is_door (K : PySem.W.Frag) (Wd : DW) : DS :=
  (dSeq (dIfS (dTest (dOp (rdO isD) (dN (dVar 0)) (dN (dC .non)))) (dRet (dC (.bl true))) dNext)
  (dSeq (dIfS ((dOr (dNot (dTru (dN (dCB rdIsi (dCons (dVar 0) (dCons (dC (.ty "tuple")) (dNil))))))) (dOr (dTest (dOp (rdNe) (dN (dCB (rd1 lenD) (dCons (dN (dVar 0)) (dNil)))) (dN (dC (.int 2))))) (dOr (dNot (dTru (dN (dCB rdIsi (dCons (dOp (rdO ixD) (dN (dVar 0)) (dC (.int 0))) (dCons (dC (.ty "str")) (dNil))))))) (dTest (dOp (rdIn true) (dN (dOp (rdO ixD) (dN (dVar 0)) (dC (.int 0)))) (dN (dVar 1)))))))) (dRet (dC (.bl false))) dNext)
  (dRet ((dAndV (dCall Wd (sp_is_count K) [] (dCons (dOp (rdO ixD) (dN (dVar 0)) (dC (.int 1))) (dNil))) (dOp (rdO (cmpD (fun i j => decide (i < j)) ltS)) (dN (dOp (rdO ixD) (dN (dVar 0)) (dC (.int 1)))) (dN (dVar 2))))))))
def rd_are_rooms (K : PySem.W.Frag) (Wd : DW) : DS :=
  (dSeq (dIfS ((dOr (dNot (dTru (dN (dCB rdIsi (dCons (dVar 0) (dCons (dC (.ty "tuple")) (dNil))))))) (dNot (dTest (dChain (rdO (intD fun i j => decide (i ≤ j))) (rdO (intD fun i j => decide (i ≤ j))) (dN (dC (.int 1))) (dN (dCB (rd1 lenD) (dCons (dN (dVar 0)) (dNil)))) (dN (dC (.int 36)))))))) (dRet (dC (.bl false))) dNext)
  (dSeq (dFor (dSeqI (dN (dVar 0))) (gdName 3) (dSeq (dIfS ((dOr (dNot (dTru (dN (dCB rdIsi (dCons (dVar 3) (dCons (dC (.ty "tuple")) (dNil))))))) (dTest (dOp (rdNe) (dN (dCB (rd1 lenD) (dCons (dN (dVar 3)) (dNil)))) (dN (dCB (rd1 lenD) (dCons (dN (dVar 1)) (dNil)))))))) (dRet (dC (.bl false))) dNext)
  (dIfS (dNot (dTru (dN (dCB (rdAll) (dCons (dN (dLc (dSeqI (dN (dVar 3))) (gdName 4) dYes (dCall noD (sp_is_door K) [] (dCons (dVar 4) (dCons (dVar 2) (dCons (dCB (rd1 lenD) (dCons (dN (dVar 0)) (dNil))) (dNil))))) [4])) (dNil)))))) (dRet (dC (.bl false))) dNext)))
  (dRet (dC (.bl true)))))
def rd_Plan___init__ (K : PySem.W.Frag) (Wd : DW) : DS :=
  (dSeq (dIfS ((dOr (dNot (dTru (dN (dCall Wd (sp_are_names K) [] (dCons (dVar 1) (dCons (dC (.int 1)) (dCons (dC (.int 4)) (dNil)))))))) (dNot (dTru (dN (dCall Wd (sp_are_names K) [] (dCons (dVar 2) (dCons (dC (.int 2)) (dCons (dC (.int 4)) (dNil)))))))))) (dRaise Wd (He.ga K "NoPlan")) dNext)
  (dSeq (dIfS (dNot (dTru (dN (dCall Wd (sp_are_rooms K) [] (dCons (dVar 3) (dCons (dVar 1) (dCons (dVar 2) (dNil)))))))) (dRaise Wd (He.ga K "NoPlan")) dNext)
  (dSeq (dSetF (He.ga K "Plan") "own_letters" (dVar 0) (dVar 1))
  (dSeq (dSetF (He.ga K "Plan") "own_signs" (dVar 0) (dVar 2))
  (dSetF (He.ga K "Plan") "own_rooms" (dVar 0) (dVar 3))))))
def rd_Plan___len__ (K : PySem.W.Frag) (Wd : DW) : DS :=
  (dRet (dCB (rd1 lenD) (dCons (dN (dFld (He.ga K "Plan") "own_rooms" (dVar 0))) (dNil))))
def rd_Plan_rooms (K : PySem.W.Frag) (Wd : DW) : DS :=
  (dRet (dFld (He.ga K "Plan") "own_rooms" (dVar 0)))
def rd_Plan_signs (K : PySem.W.Frag) (Wd : DW) : DS :=
  (dRet (dFld (He.ga K "Plan") "own_signs" (dVar 0)))
def rd_Plan_letters (K : PySem.W.Frag) (Wd : DW) : DS :=
  (dRet (dFld (He.ga K "Plan") "own_letters" (dVar 0)))
def rd_Plan_is_full (K : PySem.W.Frag) (Wd : DW) : DS :=
  (dRet (dNotV (dN (dCB (rdAny) (dCons (dN (dLc2 (dSeqI (dN (dFld (He.ga K "Plan") "own_rooms" (dVar 0)))) (gdName 1) dYes (dSeqI (dN (dVar 1))) (gdName 2) dYes (dOp (rdO isD) (dN (dVar 2)) (dN (dC .non))) [1, 2] [2])) (dNil))))))
def rd__law_right (K : PySem.W.Frag) (Wd : DW) : DS :=
  (dSeq (dAsg (dN (dVar 1)) (gdTup 3 (gdCons (gdName 2) (gdCons (gdName 3) (gdCons (gdName 4) (gdNil))))))
  (dSeq (dSet 5 (dLst (dCons (dMeth Wd (He.ga K "Plan") "letters" (sp_Plan_letters K) [] (dVar 0) dNil) (dCons (dMeth Wd (He.ga K "Plan") "signs" (sp_Plan_signs K) [] (dVar 0) dNil) (dCons (dMeth Wd (He.ga K "Plan") "rooms" (sp_Plan_rooms K) [] (dVar 0) dNil) (dCons (dCB (rdLenO (He.ga K "Plan") (sp_Plan___len__ K)) (dCons (dVar 0) (dNil))) (dNil)))))))
  (dSeq (dIfS (dTest (dOp (rdNe) (dN (dCB (rdRepr) (dCons (dN (dVar 5)) (dNil)))) (dN (dCB (rdRepr) (dCons (dN (dLst (dCons (dVar 2) (dCons (dVar 3) (dCons (dVar 4) (dCons (dCB (rd1 lenD) (dCons (dN (dVar 4)) (dNil))) (dNil))))))) (dNil)))))) (dRet (dC (.bl false))) dNext)
  (dSeq (dSet 6 (dLc (dSeqI (dN (dVar 4))) (gdName 7) (dTest (dOp (rdInT false) (dN (dC .non)) (dN (dVar 7)))) (dVar 7) [7]))
  (dRet (dOp (rdEq) (dN (dMeth Wd (He.ga K "Plan") "is_full" (sp_Plan_is_full K) [] (dVar 0) dNil)) (dN (dOp (rdEq) (dN (dVar 6)) (dN (dLst (dNil)))))))))))
def rd_Plan___eq__ (K : PySem.W.Frag) (Wd : DW) : DS :=
  (dSeq (dIfS ((dOr (dNot (dTru (dN (dCB (rdIsiO K) (dCons (dVar 1) (dCons (dC (.ref (He.ga K "Plan"))) (dNil))))))) (dOr (dTest (dOp (rdNe) (dN (dFld (He.ga K "Plan") "own_letters" (dVar 0))) (dN (dFld (He.ga K "Plan") "own_letters" (dVar 1))))) (dTest (dOp (rdNe) (dN (dFld (He.ga K "Plan") "own_signs" (dVar 0))) (dN (dFld (He.ga K "Plan") "own_signs" (dVar 1)))))))) (dRet (dC (.bl false))) dNext)
  (dRet (dOp (rdEq) (dN (dFld (He.ga K "Plan") "own_rooms" (dVar 0))) (dN (dFld (He.ga K "Plan") "own_rooms" (dVar 1))))))
def rd_law (K : PySem.W.Frag) (Wd : DW) : DS :=
  (dSeq (dSet 1 (dCall Wd (sp__law_begun K) [] (dCons (dVar 0) (dNil))))
  (dSeq (dFor (dRng1 (dCons (dN (dC (.int 4))) (dNil))) (gdName 2) (dSeq (dSet 3 (dOp (rdO ixD) (dN (dLst (dCons (dOp (rdO addD) (dN (dC (.int 1))) (dN (dCall Wd (sp__law_draw K) [] (dCons (dVar 1) (dCons (dC (.int 8)) (dNil)))))) (dCons (dC (.int 36)) (dNil))))) (dOp (rdO divD) (dN (dCall Wd (sp__law_draw K) [] (dCons (dVar 1) (dCons (dC (.int 8)) (dNil))))) (dN (dC (.int 7))))))
  (dSeq (dSet 4 (dCall Wd (sp__law_parts K) [] (dCons (dVar 1) (dCons (dVar 3) (dCons (dC (.int 4)) (dCons (dOp (rdO ixD) (dN (dLst (dCons (dC (.int 0)) (dCons (dC (.int 5)) (dNil))))) (dCall Wd (sp__law_draw K) [] (dCons (dVar 1) (dCons (dC (.int 2)) (dNil))))) (dNil)))))))
  (dSeq (dSet 5 (dCall Wd (sp__law_otherwise K) [] (dCons (dVar 1) (dCons (dVar 4) (dNil)))))
  (dSeq (dPar 6 7 (dMake Wd (He.ga K "Plan") (sp_Plan___init__ K) (dCons (dOp (rdO ixD) (dN (dVar 4)) (dC (.int 0))) (dCons (dOp (rdO ixD) (dN (dVar 4)) (dC (.int 1))) (dCons (dOp (rdO ixD) (dN (dVar 4)) (dC (.int 2))) (dNil))))) (dMake Wd (He.ga K "Plan") (sp_Plan___init__ K) (dCons (dOp (rdO ixD) (dN (dVar 5)) (dC (.int 0))) (dCons (dOp (rdO ixD) (dN (dVar 5)) (dC (.int 1))) (dCons (dOp (rdO ixD) (dN (dVar 5)) (dC (.int 2))) (dNil))))))
  (dSeq (dIfS ((dOr (dNot (dTru (dN (dCall Wd (sp__law_right K) [] (dCons (dVar 6) (dCons (dVar 4) (dNil))))))) (dOr (dNot (dTru (dN (dCall Wd (sp__law_right K) [] (dCons (dVar 7) (dCons (dVar 5) (dNil))))))) (dNot (dTru (dN (dCall Wd (sp__law_right K) [] (dCons (dVar 6) (dCons (dVar 4) (dNil)))))))))) (dRet (dC (.bl false))) dNext)
  (dSeq (dSet 8 (dOp (rdEq) (dN (dVar 4)) (dN (dVar 5))))
  (dSeq (dIfS ((dOr (dTest (dOp (rdNe) (dN (dOp (rdOwn K (He.ga K "Plan") (sp_Plan___eq__ K) false) (dN (dVar 6)) (dN (dVar 7)))) (dN (dVar 8)))) (dOr (dTest (dOp (rdNe) (dN (dOp (rdOwn K (He.ga K "Plan") (sp_Plan___eq__ K) false) (dN (dVar 7)) (dN (dVar 6)))) (dN (dVar 8)))) (dTest (dOp (rdEq) (dN (dOp (rdOwn K (He.ga K "Plan") (sp_Plan___eq__ K) true) (dN (dVar 6)) (dN (dVar 7)))) (dN (dVar 8))))))) (dRet (dC (.bl false))) dNext)
  (dIfS ((dOr (dTest (dOp (rdOwn K (He.ga K "Plan") (sp_Plan___eq__ K) false) (dN (dVar 6)) (dN (dVar 4)))) (dOr (dTest (dOp (rdOwn K (He.ga K "Plan") (sp_Plan___eq__ K) false) (dN (dVar 6)) (dN (dOp (rdO ixD) (dN (dVar 4)) (dC (.int 2)))))) (dNot (dTest (dOp (rdOwn K (He.ga K "Plan") (sp_Plan___eq__ K) false) (dN (dVar 6)) (dN (dMake Wd (He.ga K "Plan") (sp_Plan___init__ K) (dCons (dOp (rdO ixD) (dN (dVar 4)) (dC (.int 0))) (dCons (dOp (rdO ixD) (dN (dVar 4)) (dC (.int 1))) (dCons (dOp (rdO ixD) (dN (dVar 4)) (dC (.int 2))) (dNil)))))))))))) (dRet (dC (.bl false))) dNext)))))))))
  (dRet (dC (.bl true)))))
/-- what is to be shown of each -/
structure Lw (K : PySem.W.Frag) : Prop where
  _law_name : ∀ {ds : List D} {M : Mem} {Q : DKt} {E : DX}, sp__law_name K ds M Q E → rd__law_name K (wd E) (ends Q) (startD ["_law_state", "_law_size", "_law_k"] ds) M
  _law_names : ∀ {ds : List D} {M : Mem} {Q : DKt} {E : DX}, sp__law_names K ds M Q E → rd__law_names K (wd E) (ends Q) (startD ["_law_state", "_law_many", "_law_some", "_law_name_here", "_law_others", "_law_sign", "_law_one"] ds) M
  _law_parts : ∀ {ds : List D} {M : Mem} {Q : DKt} {E : DX}, sp__law_parts K ds M Q E → rd__law_parts K (wd E) (ends Q) (startD ["_law_state", "_law_many", "_law_most_letters", "_law_shut", "_law_names_here", "_law_marks", "_law_halls", "_law_k", "_law_doors", "_law_name_here", "_law_door"] ds) M
  _law_otherwise : ∀ {ds : List D} {M : Mem} {Q : DKt} {E : DX}, sp__law_otherwise K ds M Q E → rd__law_otherwise K (wd E) (ends Q) (startD ["_law_state", "_law_parts_here", "_law_names_here", "_law_marks", "_law_halls", "_law_way", "_law_at", "_law_ahead", "_law_more", "_law_doors", "_law_name_here", "_law_door"] ds) M
  is_name : ∀ {ds : List D} {M : Mem} {Q : DKt} {E : DX}, sp_is_name K ds M Q E → rd_is_name K (wd E) (ends Q) (startD ["thing", "sign"] ds) M
  are_names : ∀ {ds : List D} {M : Mem} {Q : DKt} {E : DX}, sp_are_names K ds M Q E → rd_are_names K (wd E) (ends Q) (startD ["thing", "least", "most", "one", "other"] ds) M
  is_count : ∀ {ds : List D} {M : Mem} {Q : DKt} {E : DX}, sp_is_count K ds M Q E → rd_is_count K (wd E) (ends Q) (startD ["thing"] ds) M
  is_door : ∀ {ds : List D} {M : Mem} {Q : DKt} {E : DX}, sp_is_door K ds M Q E → rd_is_door K (wd E) (ends Q) (startD ["thing", "signs", "many"] ds) M
  are_rooms : ∀ {ds : List D} {M : Mem} {Q : DKt} {E : DX}, sp_are_rooms K ds M Q E → rd_are_rooms K (wd E) (ends Q) (startD ["thing", "letters", "signs", "doors", "door"] ds) M
  Plan___init__ : ∀ {ds : List D} {M : Mem} {Q : DKt} {E : DX}, sp_Plan___init__ K ds M Q E → rd_Plan___init__ K (wd E) (ends Q) (startD ["self", "letters", "signs", "rooms"] ds) M
  Plan___len__ : ∀ {ds : List D} {M : Mem} {Q : DKt} {E : DX}, sp_Plan___len__ K ds M Q E → rd_Plan___len__ K (wd E) (ends Q) (startD ["self"] ds) M
  Plan_rooms : ∀ {ds : List D} {M : Mem} {Q : DKt} {E : DX}, sp_Plan_rooms K ds M Q E → rd_Plan_rooms K (wd E) (ends Q) (startD ["self"] ds) M
  Plan_signs : ∀ {ds : List D} {M : Mem} {Q : DKt} {E : DX}, sp_Plan_signs K ds M Q E → rd_Plan_signs K (wd E) (ends Q) (startD ["self"] ds) M
  Plan_letters : ∀ {ds : List D} {M : Mem} {Q : DKt} {E : DX}, sp_Plan_letters K ds M Q E → rd_Plan_letters K (wd E) (ends Q) (startD ["self"] ds) M
  Plan_is_full : ∀ {ds : List D} {M : Mem} {Q : DKt} {E : DX}, sp_Plan_is_full K ds M Q E → rd_Plan_is_full K (wd E) (ends Q) (startD ["self", "doors", "door"] ds) M
  _law_right : ∀ {ds : List D} {M : Mem} {Q : DKt} {E : DX}, sp__law_right K ds M Q E → rd__law_right K (wd E) (ends Q) (startD ["_law_yard", "_law_parts_here", "_law_names_here", "_law_marks", "_law_halls", "_law_parts_told", "_law_gaps", "_law_doors"] ds) M
  Plan___eq__ : ∀ {ds : List D} {M : Mem} {Q : DKt} {E : DX}, sp_Plan___eq__ K ds M Q E → rd_Plan___eq__ K (wd E) (ends Q) (startD ["self", "other"] ds) M
  law : ∀ {ds : List D} {M : Mem} {Q : DKt} {E : DX}, sp_law K ds M Q E → rd_law K (wd E) (ends Q) (startD ["_law_script", "_law_state", "_law_turn", "_law_many", "_law_parts_here", "_law_other", "_law_yard", "_law_beside", "_law_same"] ds) M
end BB

set_option maxHeartbeats 4000000
namespace BB
open L2 PySem PySem.Spec PyProof.Rows
local macro_rules | `(tactic| walk_at "bb") => `(tactic| first
  | (with_reducible refine i_c ?_) | (with_reducible refine i_n ?_) | (with_reducible refine i_op ?_) | (with_reducible refine i_cons ?_) | (with_reducible refine i_nil ?_) | (with_reducible refine i_cb ?_)
  | (with_reducible refine i_seq ?_) | (with_reducible refine i_set ?_) | (with_reducible refine i_ret ?_) | (with_reducible refine i_if ?_) | (with_reducible refine i_drop ?_) | (with_reducible refine i_asg ?_)
  | (with_reducible refine i_test ?_) | (with_reducible refine i_chain ?_) | (with_reducible refine i_tru ?_) | (with_reducible refine i_and ?_) | (with_reducible refine i_or ?_) | (with_reducible refine i_not ?_)
  | (with_reducible refine i_andv ?_) | (with_reducible refine i_orv ?_) | (with_reducible refine i_notv ?_) | (with_reducible refine i_ifx ?_) | (with_reducible refine i_tup ?_) | (with_reducible refine i_lst ?_) | (with_reducible refine i_lstM ?_)
  | (with_reducible refine i_neg ?_) | (with_reducible refine i_call ?_) | (with_reducible refine i_callK ?_) | (with_reducible refine i_meth ?_) | (with_reducible refine i_fld ?_) | (with_reducible refine i_tupIx ?_) | (with_reducible refine i_app ?_)
  | (with_reducible refine i_join ?_) | (with_reducible refine i_sl ?_) | (with_reducible refine i_part ?_) | (with_reducible refine i_nopart ?_) | (with_reducible refine i_next ?_) | (with_reducible refine i_retN ?_)
  | (with_reducible refine i_gname ?_) | (with_reducible refine i_gcons ?_) | (with_reducible refine i_gnil ?_) | (with_reducible refine i_seqI ?_) | (with_reducible refine i_rng1 ?_) | (with_reducible refine i_enum ?_) | (with_reducible refine i_zip2 ?_)
  | (with_reducible refine i_yes ?_) | (with_reducible refine i_for ?_) | (with_reducible refine i_lc ?_)
  | ((with_reducible refine i_var (d := ?bbd) ?bbh ?bbq); (case bbh => rfl)) | ((with_reducible refine i_rdo (d := ?bbd) ?bbh ?bbq); (case bbh => rfl); (try dsimp only)) | ((with_reducible refine i_rd1 (d := ?bbd) ?bbh ?bbq); (case bbh => rfl); (try dsimp only))
  | (with_reducible refine i_itt ?_) | (with_reducible refine i_nf ?_) | (with_reducible refine i_nt ?_) | (with_reducible refine i_itf ?_)
  | (with_reducible refine i_isi rfl kb_int_int ?_) | (with_reducible refine i_isi rfl kb_int_bool ?_) | (with_reducible refine i_isi rfl kb_str_str ?_) | (with_reducible refine i_isi rfl kb_tup_tup ?_)
  | (with_reducible refine ⟨_, rfl, ?_⟩))
local macro_rules | `(tactic| walk_at "bbs") => `(tactic| repeat walk_at "bb")

section
variable {K : PySem.W.Frag} {ds : List D} {M : Mem} {Q : DKt} {E : DX}
theorem no_letters {a b c : D} : List.lookup (α := Str) "letters" [("own_letters", a), ("own_signs", b), ("own_rooms", c)] = none := by kernel_rfl
theorem no_rooms {a b c : D} : List.lookup (α := Str) "rooms" [("own_letters", a), ("own_signs", b), ("own_rooms", c)] = none := by kernel_rfl
theorem lw_is_count (h : sp_is_count K ds M Q E) : rd_is_count K (wd E) (ends Q) (startD ["thing"] ds) M := by
  obtain ⟨d, rfl, i, rfl, q⟩ := h
  unfold rd_is_count
  walk_at "bbs"
  exact .done q
theorem c_is_count {i : Int} (q : Q (.bl (decide (0 ≤ i))) M) : sp_is_count K [.int i] M Q E := ⟨_, rfl, _, rfl, q⟩
theorem cs_one (c : Nat) : ({ cps := #[c] } : Str).cps = #[c] := rfl
theorem in_small (c : Nat) (M : Mem) (Q : DKt) (q : Q (.bl (decide (c ∈ SMALLS.cps.toList))) M) : rdIn false (.str ⟨#[c]⟩) (.str SMALLS) M Q := by
  refine .inr ⟨c, SMALLS, rfl, rfl, ?_⟩
  exact q
theorem lw_is_name (h : sp_is_name K ds M Q E) : rd_is_name K (wd E) (ends Q) (startD ["thing", "sign"] ds) M := by
  obtain ⟨d, rfl, z, rfl, hz, q⟩ := h
  unfold rd_is_name
  walk_at "bbs"
  refine i_rd1 (if_pos hz) ?_
  walk_at "bbs"
  by_cases h1 : (1 : Int) ≤ (z.length : Int)
  · refine i_dt h1 ?_
    walk_at "bbs"
    by_cases h2 : (z.length : Int) ≤ 6
    · rw [decide_eq_true h2]
      walk_at "bbs"
      refine wk_str ?_
      refine ⟨by unfold signs; rw [List.length_map]; have : z.cps.toList.length = z.length := Array.length_toList; rw [this]; exact hz, fun i acc M' => acc = (z.cps.toList.take i).map (fun c => .bl (decide (c ∈ SMALLS.cps.toList))) ∧ M' = M, ⟨rfl, rfl⟩, fun _ _ _ _ => trivial, ?_, ?_⟩
      · rintro i d acc _ hd ⟨rfl, rfl⟩
        obtain ⟨c, hc, rfl⟩ := signs_at hd
        walk_at "bbs"
        refine in_small c _ _ ?_
        exact ⟨take_map_succ (fun c => D.bl (decide (c ∈ SMALLS.cps.toList))) hc, rfl⟩
      · rintro acc _ ⟨rfl, rfl⟩
        walk_at "bbs"
        refine i_all (bs := z.cps.toList.map fun c => decide (c ∈ SMALLS.cps.toList)) ?_ ?_
        · show some _ = some _
          have : (signs z).length = z.cps.toList.length := by unfold signs; rw [List.length_map]
          rw [this, List.take_length, List.map_map]
          rfl
        · refine .done ?_
          have : isNameB z = (z.cps.toList.map fun c => decide (c ∈ SMALLS.cps.toList)).all id := by
            unfold isNameB; rw [decide_eq_true (show 1 ≤ z.length by omega), decide_eq_true (show z.length ≤ 6 by omega), List.all_map]; rfl
          rw [this] at q
          exact q
    · rw [decide_eq_false h2]
      walk_at "bbs"
      refine .done ?_
      have : isNameB z = false := by unfold isNameB; rw [decide_eq_false (show ¬ z.length ≤ 6 by omega)]; simp
      rw [this] at q
      exact q
  · refine i_df h1 ?_
    walk_at "bbs"
    refine .done ?_
    have : isNameB z = false := by unfold isNameB; rw [decide_eq_false (show ¬ 1 ≤ z.length by omega)]; simp
    rw [this] at q
    exact q
theorem rows_at {rs : List (List Door)} {i : Nat} {r : List Door} (h : rs[i]? = some r) : ixD M (rowsD' rs) (.int i) = some (.tup (r.map doorD)) := ix_tup (by rw [List.getElem?_map, h]; rfl)
theorem c_need_room {p : Pl} {room : Nat} (ok : p.Ok) (hr : room < p.rooms.length) (q : Q (.int room) M) : sp_need_room K [planD K p, .int room] M Q E := ⟨_, _, rfl, p, room, ok, rfl, rfl, hr, q⟩
end
end BB

set_option maxHeartbeats 4000000
namespace BB
open L2 PySem PySem.Spec PyProof.Rows
local macro_rules | `(tactic| walk_at "bb") => `(tactic| first
  | (with_reducible refine i_c ?_) | (with_reducible refine i_n ?_) | (with_reducible refine i_op ?_) | (with_reducible refine i_cons ?_) | (with_reducible refine i_nil ?_) | (with_reducible refine i_cb ?_)
  | (with_reducible refine i_seq ?_) | (with_reducible refine i_set ?_) | (with_reducible refine i_ret ?_) | (with_reducible refine i_if ?_) | (with_reducible refine i_drop ?_) | (with_reducible refine i_raise ?_) | (with_reducible refine i_raiseI ?_) | (with_reducible refine i_asg ?_)
  | (with_reducible refine i_test ?_) | (with_reducible refine i_chain ?_) | (with_reducible refine i_tru ?_) | (with_reducible refine i_and ?_) | (with_reducible refine i_or ?_) | (with_reducible refine i_not ?_)
  | (with_reducible refine i_andv ?_) | (with_reducible refine i_orv ?_) | (with_reducible refine i_notv ?_) | (with_reducible refine i_ifx ?_) | (with_reducible refine i_tup ?_) | (with_reducible refine i_lst ?_) | (with_reducible refine i_lstM ?_)
  | (with_reducible refine i_neg ?_) | (with_reducible refine i_call ?_) | (with_reducible refine i_callK ?_) | (with_reducible refine i_meth ?_) | (with_reducible refine i_fld ?_) | (with_reducible refine i_tupIx ?_) | (with_reducible refine i_app ?_)
  | (with_reducible refine i_join ?_) | (with_reducible refine i_sl ?_) | (with_reducible refine i_part ?_) | (with_reducible refine i_nopart ?_) | (with_reducible refine i_next ?_) | (with_reducible refine i_retN ?_)
  | (with_reducible refine i_gname ?_) | (with_reducible refine i_gcons ?_) | (with_reducible refine i_gnil ?_) | (with_reducible refine i_seqI ?_) | (with_reducible refine i_rng1 ?_) | (with_reducible refine i_enum ?_) | (with_reducible refine i_zip2 ?_)
  | (with_reducible refine i_yes ?_) | (with_reducible refine i_for ?_) | (with_reducible refine i_lc ?_)
  | ((with_reducible refine i_var (d := ?bbd) ?bbh ?bbq); (case bbh => rfl)) | ((with_reducible refine i_rdo (d := ?bbd) ?bbh ?bbq); (case bbh => rfl); (try dsimp only)) | ((with_reducible refine i_rd1 (d := ?bbd) ?bbh ?bbq); (case bbh => rfl); (try dsimp only))
  | (with_reducible refine i_itt ?_) | (with_reducible refine i_nf ?_) | (with_reducible refine i_nt ?_) | (with_reducible refine i_itf ?_)
  | (with_reducible refine i_isi rfl kb_int_int ?_) | (with_reducible refine i_isi rfl kb_int_bool ?_) | (with_reducible refine i_isi rfl kb_str_str ?_) | (with_reducible refine i_isi rfl kb_tup_tup ?_)
  | (with_reducible refine ⟨_, rfl, ?_⟩)
  | ((with_reducible show wkD _ _ _); first | refine wk_tup ?_ | refine wk_lst ?_ | refine wk_str ?_)
  | ((with_reducible show ite _ _ _); refine i_itt ?_) | ((with_reducible show ite _ _ _); refine i_itf ?_))
local macro_rules | `(tactic| walk_at "bbs") => `(tactic| repeat walk_at "bb")

section
variable {K : PySem.W.Frag} {ds : List D} {M : Mem} {Q : DKt} {E : DX}
theorem Pl.Ok.door_lt {p : Pl} (ok : p.Ok) {r : Nat} {z s : Str} {n : Nat} (hr : r < p.rooms.length) (h : p.door' r z = some (s, n)) : s ∈ p.signs ∧ n < p.rooms.length := by
  unfold Pl.door' at h
  have hrow : p.rooms[r]? = some p.rooms[r] := by simp [hr]
  rw [hrow] at h
  have h2 : p.rooms[r][ixOf z p.letters]?.getD none = some (s, n) := h
  cases e : p.rooms[r][ixOf z p.letters]? with
  | none => rw [e] at h2; cases h2
  | some d =>
    rw [e] at h2
    have h3 : d = some (s, n) := h2
    subst h3
    exact ok.door _ (List.getElem_mem hr) s n (List.mem_of_getElem? e)
theorem Pl.stop_none {p : Pl} {r : Nat} {z : Str} {ws : List Str} (h : p.door' r z = none) : p.stop (z :: ws) r = some 0 := by
  show (match p.door' r z with | none => some 0 | some (_, n) => (p.stop ws n).map (· + 1)) = _
  rw [h]
theorem Pl.stop_some {p : Pl} {r n : Nat} {z s : Str} {ws : List Str} (h : p.door' r z = some (s, n)) : p.stop (z :: ws) r = (p.stop ws n).map (· + 1) := by
  show (match p.door' r z with | none => some 0 | some (_, n) => (p.stop ws n).map (· + 1)) = _
  rw [h]
theorem Pl.along_none {p : Pl} {r : Nat} {z : Str} {ws : List Str} (h : p.door' r z = none) : p.along (z :: ws) r = none := by
  show (match p.door' r z with | none => none | some (s, n) => (p.along ws n).map fun (q : List Str × Nat) => (s :: q.1, q.2)) = (_ : Option (List Str × Nat))
  rw [h]
theorem Pl.along_some {p : Pl} {r n : Nat} {z s : Str} {ws : List Str} (h : p.door' r z = some (s, n)) : p.along (z :: ws) r = (p.along ws n).map fun q => (s :: q.1, q.2) := by
  show (match p.door' r z with | none => none | some (s, n) => (p.along ws n).map fun (q : List Str × Nat) => (s :: q.1, q.2)) = (_ : Option (List Str × Nat))
  rw [h]
theorem c_door_by {p : Pl} {room : Nat} {z : Str} (ok : p.Ok) (hr : room < p.rooms.length) (hz : z ∈ p.letters) (q : Q (doorD (p.door' room z)) M) : sp_door_by K [planD K p, .int room, .str z] M Q E := ⟨_, _, _, rfl, p, room, z, ok, rfl, rfl, hr, rfl, hz, q⟩
theorem c_stop_of {p : Pl} {ws : List Str} {room : Nat} (ok : p.Ok) (hw : p.Word ws) (hr : room < p.rooms.length) (q : Q (stopD (p.stop ws room)) M) : sp_stop_of K [planD K p, wordD ws, .int room] M Q E := ⟨_, _, _, rfl, p, ws, room, ok, rfl, rfl, hw, rfl, hr, q⟩
theorem c_need_word {p : Pl} {ws : List Str} {room : Nat} (ok : p.Ok) (hw : p.Word ws) (hr : room < p.rooms.length) (q : p.stop ws room = none → Q (wordD ws) M) (e : ∀ n, p.stop ws room = some n → E (.ref (He.ga K "NoWord")) [("at", .int (n : Nat))] M) : sp_need_word K [planD K p, wordD ws, .int room] M Q E := ⟨_, _, _, rfl, p, ws, room, ok, rfl, rfl, hw, rfl, hr, q, e⟩
theorem Pl.stop_along {p : Pl} : ∀ {ws : List Str} {r : Nat}, p.stop ws r = none → ∃ h e, p.along ws r = some (h, e)
  | [], r, _ => ⟨[], r, rfl⟩
  | z :: ws, r, hs => by
    cases hd : p.door' r z with
    | none => rw [Pl.stop_none hd] at hs; cases hs
    | some sn =>
      obtain ⟨s, n⟩ := sn
      rw [Pl.stop_some hd] at hs
      have h0 : p.stop ws n = none := by cases e : p.stop ws n with | none => rfl | some k => rw [e] at hs; cases hs
      obtain ⟨h, e, h1⟩ := Pl.stop_along h0
      exact ⟨s :: h, e, by rw [Pl.along_some hd, h1]; rfl⟩
end
end BB

set_option maxHeartbeats 4000000
namespace BB
open L2 PySem PySem.Spec PyProof.Rows
local macro_rules | `(tactic| walk_at "bb") => `(tactic| first
  | (with_reducible refine i_c ?_) | (with_reducible refine i_n ?_) | (with_reducible refine i_op ?_) | (with_reducible refine i_cons ?_) | (with_reducible refine i_nil ?_) | (with_reducible refine i_cb ?_)
  | (with_reducible refine i_seq ?_) | (with_reducible refine i_set ?_) | (with_reducible refine i_ret ?_) | (with_reducible refine i_if ?_) | (with_reducible refine i_drop ?_) | (with_reducible refine i_setF ?_) | (with_reducible refine i_raise ?_) | (with_reducible refine i_raiseI ?_) | (with_reducible refine i_asg ?_)
  | (with_reducible refine i_test ?_) | (with_reducible refine i_chain ?_) | (with_reducible refine i_tru ?_) | (with_reducible refine i_and ?_) | (with_reducible refine i_or ?_) | (with_reducible refine i_not ?_)
  | (with_reducible refine i_andv ?_) | (with_reducible refine i_orv ?_) | (with_reducible refine i_notv ?_) | (with_reducible refine i_ifx ?_) | (with_reducible refine i_tup ?_) | (with_reducible refine i_lst ?_) | (with_reducible refine i_lstM ?_)
  | (with_reducible refine i_neg ?_) | (with_reducible refine i_call ?_) | (with_reducible refine i_callK ?_) | (with_reducible refine i_meth ?_) | (with_reducible refine i_fld ?_) | (with_reducible refine i_tupIx ?_) | (with_reducible refine i_app ?_)
  | (with_reducible refine i_join ?_) | (with_reducible refine i_sl ?_) | (with_reducible refine i_part ?_) | (with_reducible refine i_nopart ?_) | (with_reducible refine i_next ?_) | (with_reducible refine i_retN ?_)
  | (with_reducible refine i_gname ?_) | (with_reducible refine i_gcons ?_) | (with_reducible refine i_gnil ?_) | (with_reducible refine i_seqI ?_) | (with_reducible refine i_rng1 ?_) | (with_reducible refine i_enum ?_) | (with_reducible refine i_zip2 ?_)
  | (with_reducible refine i_yes ?_) | (with_reducible refine i_for ?_) | (with_reducible refine i_lc ?_)
  | ((with_reducible refine i_var (d := ?bbd) ?bbh ?bbq); (case bbh => rfl)) | ((with_reducible refine i_rdo (d := ?bbd) ?bbh ?bbq); (case bbh => rfl); (try dsimp only)) | ((with_reducible refine i_rd1 (d := ?bbd) ?bbh ?bbq); (case bbh => rfl); (try dsimp only))
  | (with_reducible refine i_itt ?_) | (with_reducible refine i_nf ?_) | (with_reducible refine i_nt ?_) | (with_reducible refine i_itf ?_)
  | ((with_reducible show rdIsi _ _ _); first | refine i_isi rfl kb_int_int ?_ | refine i_isi rfl kb_int_bool ?_ | refine i_isi rfl kb_str_str ?_ | refine i_isi rfl kb_tup_tup ?_)
  | (with_reducible refine ⟨_, rfl, ?_⟩)
  | ((with_reducible show wkD _ _ _); first | refine wk_tup ?_ | refine wk_lst ?_ | refine wk_str ?_)
  | ((with_reducible show rdEq _ _ _ _); refine i_eqI ?_) | ((with_reducible show rdNe _ _ _ _); refine i_neI ?_)
  | ((with_reducible show ite _ _ _); refine i_itt ?_) | ((with_reducible show ite _ _ _); refine i_itf ?_))
local macro_rules | `(tactic| walk_at "bbs") => `(tactic| repeat walk_at "bb")

section
variable {K : PySem.W.Frag} {ds : List D} {M : Mem} {Q : DKt} {E : DX}
theorem c_is_name {z : Str} (hz : z.length ≤ sizeLine) (q : Q (.bl (isNameB z)) M) : sp_is_name K [.str z] M Q E := ⟨_, rfl, z, rfl, hz, q⟩
theorem name_len {z : Str} (h : isNameB z = true) : z.length ≤ 6 := by
  unfold isNameB at h
  rw [Bool.and_eq_true, Bool.and_eq_true] at h
  exact of_decide_eq_true h.2.1
theorem rep_succ {i : Nat} : (List.replicate i true).map D.bl ++ [.bl true] = (List.replicate (i + 1) true).map D.bl := by
  rw [List.replicate_succ', List.map_append]; rfl
theorem all_rep {n : Nat} : (List.replicate n true).all id = true := by
  induction n with
  | zero => rfl
  | succ n ih => rw [List.replicate_succ, List.all_cons, ih]; rfl
theorem lw_is_door (h : sp_is_door K ds M Q E) : rd_is_door K (wd E) (ends Q) (startD ["thing", "signs", "many"] ds) M := by
  obtain ⟨d, s, n, rfl, dr, ss, many, rfl, rfl, rfl, hd, q⟩ := h
  unfold rd_is_door
  cases dr with
  | none =>
    walk_at "bbs"
    exact .done q
  | some xy =>
    obtain ⟨x, y⟩ := xy
    obtain ⟨h1, h2, h3⟩ := hd x y rfl
    walk_at "bbs"
    refine .done ?_
    walk_at "bbs"
    refine i_inS rfl ?_
    rw [if_pos rfl, decide_eq_true h2]
    walk_at "bbs"
    refine .done ?_
    walk_at "bbs"
    refine c_is_count ?_
    rw [decide_eq_true (show (0 : Int) ≤ y by omega)]
    walk_at "bbs"
    rw [decide_eq_true (show (y : Int) < many by omega)]
    exact .done q
theorem c_is_door {dr : Door} {ss : List Str} {many : Nat} (hd : ∀ x y, dr = some (x, y) → x.length ≤ sizeLine ∧ x ∈ ss ∧ y < many) (q : Q (.bl true) M) : sp_is_door K [doorD dr, namesD ss, .int many] M Q E := ⟨_, _, _, rfl, dr, ss, many, rfl, rfl, rfl, hd, q⟩
end
end BB

set_option maxHeartbeats 4000000
namespace BB
open L2 PySem PySem.Spec PyProof.Rows
local macro_rules | `(tactic| walk_at "bb") => `(tactic| first
  | (with_reducible refine i_c ?_) | (with_reducible refine i_n ?_) | (with_reducible refine i_op ?_) | (with_reducible refine i_cons ?_) | (with_reducible refine i_nil ?_) | (with_reducible refine i_cb ?_)
  | (with_reducible refine i_seq ?_) | (with_reducible refine i_set ?_) | (with_reducible refine i_ret ?_) | (with_reducible refine i_if ?_) | (with_reducible refine i_drop ?_) | (with_reducible refine i_par ?_) | (with_reducible refine i_setF ?_) | (with_reducible refine i_raise ?_) | (with_reducible refine i_raiseI ?_) | (with_reducible refine i_asg ?_)
  | (with_reducible refine i_test ?_) | (with_reducible refine i_chain ?_) | (with_reducible refine i_tru ?_) | (with_reducible refine i_and ?_) | (with_reducible refine i_or ?_) | (with_reducible refine i_not ?_)
  | (with_reducible refine i_andv ?_) | (with_reducible refine i_orv ?_) | (with_reducible refine i_notv ?_) | (with_reducible refine i_ifx ?_) | (with_reducible refine i_tup ?_) | (with_reducible refine i_lst ?_) | (with_reducible refine i_lstM ?_)
  | (with_reducible refine i_neg ?_) | (with_reducible refine i_call ?_) | (with_reducible refine i_callK ?_) | (with_reducible refine i_meth ?_) | (with_reducible refine i_fld ?_) | (with_reducible refine i_tupIx ?_) | (with_reducible refine i_app ?_)
  | (with_reducible refine i_join ?_) | (with_reducible refine i_sl ?_) | (with_reducible refine i_part ?_) | (with_reducible refine i_nopart ?_) | (with_reducible refine i_next ?_) | (with_reducible refine i_retN ?_)
  | (with_reducible refine i_gname ?_) | (with_reducible refine i_gcons ?_) | (with_reducible refine i_gnil ?_) | (with_reducible refine i_seqI ?_) | (with_reducible refine i_rng1 ?_) | (with_reducible refine i_enum ?_) | (with_reducible refine i_zip2 ?_)
  | (with_reducible refine i_yes ?_) | (with_reducible refine i_for ?_) | (with_reducible refine i_lc ?_)
  | ((with_reducible refine i_var (d := ?bbd) ?bbh ?bbq); (case bbh => rfl)) | ((with_reducible refine i_rdo (d := ?bbd) ?bbh ?bbq); (case bbh => rfl); (try dsimp only)) | ((with_reducible refine i_rd1 (d := ?bbd) ?bbh ?bbq); (case bbh => rfl); (try dsimp only))
  | (with_reducible refine i_itt ?_) | (with_reducible refine i_nf ?_) | (with_reducible refine i_nt ?_) | (with_reducible refine i_itf ?_)
  | ((with_reducible show rdIsi _ _ _); first | refine i_isi rfl kb_int_int ?_ | refine i_isi rfl kb_int_bool ?_ | refine i_isi rfl kb_str_str ?_ | refine i_isi rfl kb_tup_tup ?_)
  | (with_reducible refine ⟨_, rfl, ?_⟩)
  | ((with_reducible show wkD _ _ _); first | refine wk_tup ?_ | refine wk_lst ?_ | refine wk_str ?_)
  | ((with_reducible show rdEq _ _ _ _); refine i_eqI ?_) | ((with_reducible show rdNe _ _ _ _); refine i_neI ?_)
  | ((with_reducible show ite _ _ _); refine i_itt ?_) | ((with_reducible show ite _ _ _); refine i_itf ?_))
local macro_rules | `(tactic| walk_at "bbs") => `(tactic| repeat walk_at "bb")

section
variable {K : PySem.W.Frag} {ds : List D} {M : Mem} {Q : DKt} {E : DX}

theorem lw_are_names (h : sp_are_names K ds M Q E) : rd_are_names K (wd E) (ends Q) (startD ["thing", "least", "most", "one", "other"] ds) M := by
  obtain ⟨d, l, u, rfl, zs, lo, hi, b, rfl, rfl, rfl, hh, ⟨h1, h2, h3, h4⟩, q⟩ := h
  have key : ∀ d', (d' = .tup (zs.map .str) ∨ d' = .ntup (zs.map .str)) → rd_are_names K (wd E) (ends Q) (startD ["thing", "least", "most", "one", "other"] [d', .int (lo : Nat), .int (hi : Nat)]) M := by
   rintro d' (rfl | rfl)
   all_goals
    unfold rd_are_names
    walk_at "bbs"
    rw [List.length_map, decide_eq_true (show (lo : Int) ≤ (zs.length : Int) by omega)]
    walk_at "bbs"
    rw [decide_eq_true (show (zs.length : Int) ≤ (hi : Int) by omega)]
    walk_at "bbs"
    have hz : zs.length ≤ sizeLine := by rw [sizeLine_eq]; omega
    refine ⟨by rw [List.length_map]; exact hz, fun i acc M' => acc = (List.replicate i true).map D.bl ∧ M' = M, ⟨rfl, rfl⟩, fun _ _ _ _ => trivial, ?_, ?_⟩
    · rintro i d acc _ hd ⟨rfl, rfl⟩
      obtain ⟨z, hz', rfl⟩ := strs_at hd
      have hn := h1 z (List.mem_of_getElem? hz')
      walk_at "bbs"
      refine c_is_name (by have := name_len hn; rw [sizeLine_eq]; omega) ?_
      rw [hn]
      exact ⟨rep_succ, rfl⟩
    · rintro acc M2 ⟨rfl, rfl⟩
      walk_at "bbs"
      refine i_all (bs := List.replicate _ true) rfl ?_
      rw [all_rep]
      walk_at "bbs"
      refine .done ?_
      walk_at "bbs"
      have hc : cutD (zs.map D.str) (some 1) none = (zs.drop 1).map D.str := by
        rw [show (1 : Int) = ((1 : Nat) : Int) from rfl, cut_from, List.map_drop]
      rw [hc]
      refine ⟨_, _, _, _, rfl, rfl, rfl, ?_⟩
      refine ⟨by unfold zip2D; rw [rowsD_len, List.length_map]; omega, fun i acc M' => acc = (List.replicate i true).map D.bl ∧ M' = M2, ⟨rfl, rfl⟩, fun _ _ _ _ => trivial, ?_, ?_⟩
      · rintro i d acc M3 hd ⟨rfl, rfl⟩
        obtain ⟨x, y, hx, hy, rfl⟩ := zip2_at hd
        refine i_gtup rfl ?_
        walk_at "bbs"
        have hl : ltS x y = true := by
          rw [List.getElem?_drop] at hy
          obtain ⟨i1, e1⟩ := List.getElem?_eq_some_iff.mp hx
          obtain ⟨i2, e2⟩ := List.getElem?_eq_some_iff.mp hy
          have := List.pairwise_iff_getElem.mp h2 i (1 + i) i1 i2 (by omega)
          rw [e1, e2] at this
          exact this
        show (List.replicate i true).map D.bl ++ [.bl (ltS x y)] = _ ∧ _
        rw [hl]
        exact ⟨rep_succ, rfl⟩
      · rintro acc M3 ⟨rfl, rfl⟩
        walk_at "bbs"
        refine i_all (bs := List.replicate _ true) rfl ?_
        rw [all_rep]
        exact .done q
  cases b
  · exact key _ (.inl rfl)
  · exact key _ (.inr rfl)
theorem c_are_names {zs : List Str} {lo hi : Nat} {b : Bool} (hh : hi ≤ 1000) (h : isNames zs lo hi) (q : Q (.bl true) M) : sp_are_names K [nmD b zs, .int (lo : Nat), .int (hi : Nat)] M Q E := ⟨_, _, _, rfl, zs, lo, hi, b, rfl, rfl, rfl, hh, h, q⟩
theorem lw_are_rooms (h : sp_are_rooms K ds M Q E) : rd_are_rooms K (wd E) (ends Q) (startD ["thing", "letters", "signs", "doors", "door"] ds) M := by
  obtain ⟨d, l, s, rfl, p, b, ok, rfl, rfl, rfl, q⟩ := h
  cases b
  all_goals
    unfold rd_are_rooms
    walk_at "bbs"
    rw [List.length_map, decide_eq_true (show (1 : Int) ≤ (p.rooms.length : Int) by have := ok.lo; omega)]
    walk_at "bbs"
    rw [decide_eq_true (show (p.rooms.length : Int) ≤ 36 by have := ok.hi; omega)]
    walk_at "bbs"
    refine .done ?_
    walk_at "bbs"
    refine ⟨fun i env M' => M' = M ∧ ∃ a b : Option D, env = [some (rowsD' p.rooms), some (nmD _ p.letters), some (namesD p.signs), a, b], ⟨rfl, none, none, rfl⟩, fun _ _ _ _ => trivial, ?_, ?_⟩
    · rintro i d env M2 hd ⟨rfl, a, b, rfl⟩
      rw [List.getElem?_map] at hd
      cases hr : p.rooms[i]? with
      | none => rw [hr] at hd; cases hd
      | some row =>
        rw [hr] at hd
        cases hd
        have hmem := List.mem_of_getElem? hr
        have hlen := ok.row _ hmem
        walk_at "bbs"
        rw [List.length_map, List.length_map, hlen, decide_eq_true rfl]
        walk_at "bbs"
        refine .done ?_
        walk_at "bbs"
        refine ⟨by rw [List.length_map, hlen, sizeLine_eq]; have := ok.ls.2.2.2; omega, fun i acc M' => acc = (List.replicate i true).map D.bl ∧ M' = M2, ⟨rfl, rfl⟩, fun _ _ _ _ => trivial, ?_, ?_⟩
        · rintro i d acc M3 hd ⟨rfl, rfl⟩
          rw [List.getElem?_map] at hd
          cases hdr : row[i]? with
          | none => rw [hdr] at hd; cases hd
          | some dr =>
            rw [hdr] at hd
            cases hd
            walk_at "bbs"
            rw [List.length_map]
            refine c_is_door (fun x y e => ?_) ⟨rep_succ, rfl⟩
            subst e
            obtain ⟨k1, k2⟩ := ok.door _ hmem x y (List.mem_of_getElem? hdr)
            exact ⟨by have := name_len (ok.ss.1 x k1); rw [sizeLine_eq]; omega, k1, k2⟩
        · rintro acc M3 ⟨rfl, rfl⟩
          walk_at "bbs"
          refine i_all (bs := List.replicate _ true) rfl ?_
          rw [all_rep]
          walk_at "bbs"
          exact .done ⟨rfl, _, _, rfl⟩
    · rintro env M2 ⟨rfl, a, b, rfl⟩
      refine .done ?_
      walk_at "bbs"
      exact .done q
theorem c_are_rooms {p : Pl} {b : Bool} (ok : p.Ok) (q : Q (.bl true) M) : sp_are_rooms K [rowsD' p.rooms, nmD b p.letters, namesD p.signs] M Q E := ⟨_, _, _, rfl, p, b, ok, rfl, rfl, rfl, q⟩
theorem put2 {l s : D} : putD "own_signs" s [("own_letters", l)] = ([("own_letters", l), ("own_signs", s)] : List (Str × D)) := by kernel_rfl
theorem put3 {l s r : D} : putD "own_rooms" r [("own_letters", l), ("own_signs", s)] = ([("own_letters", l), ("own_signs", s), ("own_rooms", r)] : List (Str × D)) := by kernel_rfl
theorem lw_Plan___init__ (h : sp_Plan___init__ K ds M Q E) : rd_Plan___init__ K (wd E) (ends Q) (startD ["self", "letters", "signs", "rooms"] ds) M := by
  obtain ⟨o, l, s, r, rfl, p, b, a, ok, rfl, hm, rfl, rfl, rfl, q⟩ := h
  unfold rd_Plan___init__
  walk_at "bbs"
  refine c_are_names (lo := 1) (hi := 4) (by omega) ok.ls ?_
  walk_at "bbs"
  refine c_are_names (b := true) (lo := 2) (hi := 4) (by omega) ok.ss ?_
  walk_at "bbs"
  refine .done ?_
  walk_at "bbs"
  refine c_are_rooms ok ?_
  walk_at "bbs"
  refine .done ?_
  walk_at "bbs"
  refine ⟨a, _, rfl, hm, by decide, ?_⟩
  refine .done ?_
  walk_at "bbs"
  refine ⟨a, _, rfl, mset_same, by show 1 < 1000; omega, ?_⟩
  rw [mset_mset]
  refine .done ?_
  walk_at "bbs"
  refine ⟨a, _, rfl, mset_same, by
    show (putD "own_signs" _ [("own_letters", _)]).length < 1000
    rw [put2]
    show 2 < 1000
    omega, ?_⟩
  rw [mset_mset]
  show FzV Q .non (mset M a (.ins (He.ga K "Plan") (putD "own_rooms" _ (putD "own_signs" _ [("own_letters", _)]))))
  rw [put2, put3]
  exact .done q
theorem lw_Plan_letters (h : sp_Plan_letters K ds M Q E) : rd_Plan_letters K (wd E) (ends Q) (startD ["self"] ds) M := by
  obtain ⟨d, rfl, p, b, rfl, q⟩ := h
  unfold rd_Plan_letters
  walk_at "bbs"
  exact .done q
theorem lw_Plan_rooms (h : sp_Plan_rooms K ds M Q E) : rd_Plan_rooms K (wd E) (ends Q) (startD ["self"] ds) M := by
  obtain ⟨d, rfl, p, b, rfl, q⟩ := h
  unfold rd_Plan_rooms
  walk_at "bbs"
  exact .done q
theorem lw_Plan___len__ (h : sp_Plan___len__ K ds M Q E) : rd_Plan___len__ K (wd E) (ends Q) (startD ["self"] ds) M := by
  obtain ⟨d, rfl, p, b, rfl, hl, q⟩ := h
  unfold rd_Plan___len__
  walk_at "bbs"
  refine .done ?_
  simpa using q
theorem lw_Plan_signs (h : sp_Plan_signs K ds M Q E) : rd_Plan_signs K (wd E) (ends Q) (startD ["self"] ds) M := by
  obtain ⟨d, rfl, p, b, rfl, q⟩ := h
  unfold rd_Plan_signs
  walk_at "bbs"
  exact .done q
theorem no_signs {a b c : D} : List.lookup (α := Str) "signs" [("own_letters", a), ("own_signs", b), ("own_rooms", c)] = none := by kernel_rfl
theorem no_isfull {a b c : D} : List.lookup (α := Str) "is_full" [("own_letters", a), ("own_signs", b), ("own_rooms", c)] = none := by kernel_rfl
theorem c_letters {p : Pl} {b : Bool} (q : Q (nmD b p.letters) M) : sp_Plan_letters K [planB K b p] M Q E := ⟨_, rfl, p, b, rfl, q⟩
theorem c_signs {p : Pl} {b : Bool} (q : Q (namesD p.signs) M) : sp_Plan_signs K [planB K b p] M Q E := ⟨_, rfl, p, b, rfl, q⟩
theorem c_rooms {p : Pl} {b : Bool} (q : Q (rowsD' p.rooms) M) : sp_Plan_rooms K [planB K b p] M Q E := ⟨_, rfl, p, b, rfl, q⟩
theorem c_len {p : Pl} {b : Bool} (h : p.rooms.length ≤ 1000) (q : Q (.int p.rooms.length) M) : sp_Plan___len__ K [planB K b p] M Q E := ⟨_, rfl, p, b, rfl, h, q⟩
theorem i_lenP {p : Pl} {b : Bool} (h : p.rooms.length ≤ 1000) (q : Q (.int p.rooms.length) M) : rdLenO (He.ga K "Plan") (sp_Plan___len__ K) [planB K b p] M Q :=
  ⟨_, _, rfl, rfl, c_len h ⟨_, rfl, by omega, by omega, q⟩⟩
end
end BB

set_option maxHeartbeats 4000000
namespace BB
open L2 PySem PySem.Spec PyProof.Rows
local macro_rules | `(tactic| walk_at "bb") => `(tactic| first
  | (with_reducible refine i_c ?_) | (with_reducible refine i_n ?_) | (with_reducible refine i_op ?_) | (with_reducible refine i_cons ?_) | (with_reducible refine i_nil ?_) | (with_reducible refine i_cb ?_)
  | (with_reducible refine i_seq ?_) | (with_reducible refine i_set ?_) | (with_reducible refine i_ret ?_) | (with_reducible refine i_if ?_) | (with_reducible refine i_drop ?_) | (with_reducible refine i_setF ?_) | (with_reducible refine i_raise ?_) | (with_reducible refine i_raiseI ?_) | (with_reducible refine i_asg ?_)
  | (with_reducible refine i_test ?_) | (with_reducible refine i_chain ?_) | (with_reducible refine i_tru ?_) | (with_reducible refine i_and ?_) | (with_reducible refine i_or ?_) | (with_reducible refine i_not ?_)
  | (with_reducible refine i_andv ?_) | (with_reducible refine i_orv ?_) | (with_reducible refine i_notv ?_) | (with_reducible refine i_ifx ?_) | (with_reducible refine i_tup ?_) | (with_reducible refine i_lst ?_) | (with_reducible refine i_lstM ?_)
  | (with_reducible refine i_neg ?_) | (with_reducible refine i_call ?_) | (with_reducible refine i_callK ?_) | (with_reducible refine i_meth ?_) | (with_reducible refine i_fld ?_) | (with_reducible refine i_tupIx ?_) | (with_reducible refine i_app ?_)
  | (with_reducible refine i_join ?_) | (with_reducible refine i_sl ?_) | (with_reducible refine i_part ?_) | (with_reducible refine i_nopart ?_) | (with_reducible refine i_next ?_) | (with_reducible refine i_retN ?_)
  | (with_reducible refine i_gname ?_) | (with_reducible refine i_gcons ?_) | (with_reducible refine i_gnil ?_) | (with_reducible refine i_seqI ?_) | (with_reducible refine i_rng1 ?_) | (with_reducible refine i_enum ?_) | (with_reducible refine i_zip2 ?_)
  | (with_reducible refine i_yes ?_) | (with_reducible refine i_for ?_) | (with_reducible refine i_lc ?_)
  | ((with_reducible refine i_var (d := ?bbd) ?bbh ?bbq); (case bbh => rfl)) | ((with_reducible refine i_rdo (d := ?bbd) ?bbh ?bbq); (case bbh => rfl); (try dsimp only)) | ((with_reducible refine i_rd1 (d := ?bbd) ?bbh ?bbq); (case bbh => rfl); (try dsimp only))
  | (with_reducible refine i_itt ?_) | (with_reducible refine i_nf ?_) | (with_reducible refine i_nt ?_) | (with_reducible refine i_itf ?_)
  | ((with_reducible show rdIsi _ _ _); first | refine i_isi rfl kb_int_int ?_ | refine i_isi rfl kb_int_bool ?_ | refine i_isi rfl kb_str_str ?_ | refine i_isi rfl kb_tup_tup ?_)
  | (with_reducible refine ⟨_, rfl, ?_⟩)
  | ((with_reducible show wkD _ _ _); first | refine wk_tup ?_ | refine wk_lst ?_ | refine wk_str ?_)
  | ((with_reducible show rdEq _ _ _ _); refine i_eqI ?_) | ((with_reducible show rdNe _ _ _ _); refine i_neI ?_)
  | ((with_reducible show ite _ _ _); refine i_itt ?_) | ((with_reducible show ite _ _ _); refine i_itf ?_))
local macro_rules | `(tactic| walk_at "bbs") => `(tactic| repeat walk_at "bb")

section
variable {K : PySem.W.Frag} {ds : List D} {M : Mem} {Q : DKt} {E : DX}
theorem c_draw {a c : Addr} {m : Int} (hm : M a = some (.gen c)) (h0 : 0 < m) (h1 : m < 1073741824) (q : ∀ r : Int, 0 ≤ r → r < m → Q (.int r) M) : sp__law_draw K [.ref a, .int m] M Q E := ⟨_, _, rfl, a, c, m, rfl, hm, rfl, h0, h1, q⟩
/-- a list or text at a drawn place -/
theorem ix_drawn {xs : List D} {r : Int} (h0 : 0 ≤ r) (h1 : r < xs.length) : ∃ d, d ∈ xs ∧ ixD M (.lst xs) (.int r) = some d := by
  obtain ⟨n, rfl⟩ := Int.eq_ofNat_of_zero_le h0
  have hn : n < xs.length := by omega
  exact ⟨xs[n], List.getElem_mem hn, ix_lst (by simp [hn])⟩
theorem ix_sign {z : Str} {r : Int} (hz : z.length ≤ sizeLine) (h0 : 0 ≤ r) (h1 : r < z.cps.toList.length) : ∃ c, c ∈ z.cps.toList ∧ ixD M (.str z) (.int r) = some (.str ⟨#[c]⟩) := by
  obtain ⟨n, rfl⟩ := Int.eq_ofNat_of_zero_le h0
  have hn : n < z.cps.toList.length := by omega
  refine ⟨z.cps.toList[n], List.getElem_mem hn, ?_⟩
  show (if z.length ≤ sizeLine then (atI z.cps.toList ((n : Nat) : Int)).map fun c => D.str ⟨#[c]⟩ else none) = _
  rw [if_pos hz, atI_nat (x := z.cps.toList[n]) (by simp [hn])]
  rfl
def tenN : List Str := ["room", "box", "word", "suite", "sign", "claim", "plan", "done", "put", "tell"]
theorem tenN_ok : ∀ z ∈ tenN, isNameB z = true := by decide +kernel
theorem small_len : SMALLS.cps.toList.length = 26 := by decide +kernel
theorem joinL_nil : ∀ l : List (List Nat), TL.joinL [] l = l.flatten
  | [] => rfl
  | [p] => by show p = [p].flatten; simp
  | p :: q :: r => by
    show p ++ ([] ++ TL.joinL [] (q :: r)) = _
    rw [joinL_nil (q :: r)]
    simp
theorem join_cps (zs : List Str) : (Txt.join ("" : Str) zs).cps.toList = (zs.map fun z => z.cps.toList).flatten := by
  rw [TL.join_eq]
  have := TL.tl_join ("" : Str) zs
  rw [show TL.tl ("" : Str) = [] from rfl, joinL_nil] at this
  exact this
theorem singles : ∀ {zs : List Str}, (∀ z ∈ zs, ∃ c, c ∈ SMALLS.cps.toList ∧ z = ⟨#[c]⟩) → ∃ cs : List Nat, zs = cs.map (fun c => (⟨#[c]⟩ : Str)) ∧ ∀ c ∈ cs, c ∈ SMALLS.cps.toList
  | [], _ => ⟨[], rfl, fun _ h => by cases h⟩
  | z :: zs, h => by
    obtain ⟨c, hc, e⟩ := h z List.mem_cons_self
    obtain ⟨cs, e2, h2⟩ := singles (zs := zs) fun y hy => h y (List.mem_cons_of_mem _ hy)
    refine ⟨c :: cs, by rw [e, e2]; rfl, fun x hx => ?_⟩
    rcases List.mem_cons.mp hx with hx | hx
    · rw [hx]; exact hc
    · exact h2 x hx
theorem flat_singles (cs : List Nat) : ((cs.map (fun c => (⟨#[c]⟩ : Str))).map fun z => z.cps.toList).flatten = cs := by
  induction cs with
  | nil => rfl
  | cons c cs ih =>
    rw [List.map_cons, List.map_cons, List.flatten_cons, ih]
    rfl
theorem len_cps (z : Str) : z.length = z.cps.toList.length := Array.length_toList.symm
theorem nameB_iff {z : Str} : isNameB z = true ↔ 1 ≤ z.cps.toList.length ∧ z.cps.toList.length ≤ 6 ∧ ∀ c ∈ z.cps.toList, c ∈ SMALLS.cps.toList := by
  unfold isNameB
  rw [Bool.and_eq_true, Bool.and_eq_true, List.all_eq_true, len_cps]
  simp only [decide_eq_true_eq]
theorem join_small {zs : List Str} (h1 : 1 ≤ zs.length) (h2 : zs.length ≤ 6) (h : ∀ z ∈ zs, ∃ c, c ∈ SMALLS.cps.toList ∧ z = ⟨#[c]⟩) : isNameB (Txt.join "" zs) = true := by
  obtain ⟨cs, rfl, hc⟩ := singles h
  rw [List.length_map] at h1 h2
  rw [nameB_iff, join_cps, flat_singles]
  exact ⟨h1, h2, hc⟩
theorem lw__law_name (h : sp__law_name K ds M Q E) : rd__law_name K (wd E) (ends Q) (startD ["_law_state", "_law_size", "_law_k"] ds) M := by
  obtain ⟨s, rfl, a, c, rfl, hm, q⟩ := h
  unfold rd__law_name
  walk_at "bbs"
  refine c_draw hm (by omega) (by omega) fun r h0 h1 => ?_
  walk_at "bbs"
  by_cases hr : r = 0
  · rw [decide_eq_true hr]
    walk_at "bbs"
    refine ⟨by show 10 ≤ sizeLine; rw [sizeLine_eq]; omega, ?_⟩
    walk_at "bbs"
    refine c_draw hm (by omega) (by omega) fun r2 h2 h3 => ?_
    obtain ⟨d, hd, e⟩ := ix_drawn (M := M) (xs := tenN.map .str) h2 (by show r2 < (10 : Nat); omega)
    obtain ⟨z, hz, rfl⟩ := List.mem_map.mp hd
    refine i_rdo e ?_
    exact .done (q z (tenN_ok z hz))
  · rw [decide_eq_false hr]
    walk_at "bbs"
    refine .done ?_
    walk_at "bbs"
    refine ⟨by show 6 ≤ sizeLine; rw [sizeLine_eq]; omega, ?_⟩
    walk_at "bbs"
    refine c_draw hm (by omega) (by omega) fun r2 h2 h3 => ?_
    obtain ⟨d, hd, e⟩ := ix_drawn (M := M) (xs := ([1, 1, 1, 2, 6, 3] : List Int).map .int) h2 (by show r2 < (6 : Nat); omega)
    obtain ⟨n, hn, rfl⟩ := List.mem_map.mp hd
    have hn1 : 1 ≤ n ∧ n ≤ 6 := by
      simp only [List.mem_cons, List.not_mem_nil, or_false] at hn
      omega
    refine i_rdo e ?_
    refine .done ?_
    walk_at "bbs"
    refine ⟨by omega, by omega, by rw [rng_len, sizeLine_eq]; omega, fun i acc M' => M' = M ∧ ∃ zs : List Str, acc = zs.map .str ∧ zs.length = i ∧ ∀ z ∈ zs, ∃ c, c ∈ SMALLS.cps.toList ∧ z = ⟨#[c]⟩, ⟨rfl, [], rfl, rfl, fun _ h => by cases h⟩, fun _ _ _ _ => trivial, ?_, ?_⟩
    · rintro i d acc M2 hd' ⟨rfl, zs, rfl, hl, hz⟩
      walk_at "bbs"
      refine c_draw hm (by omega) (by omega) fun r3 h4 h5 => ?_
      obtain ⟨cc, hcc, e2⟩ := ix_sign (M := M2) (z := SMALLS) (by rw [sizeLine_eq, len_cps, small_len]; omega) h4 (by rw [small_len]; omega)
      refine i_rdo e2 ?_
      refine ⟨rfl, zs ++ [⟨#[cc]⟩], by rw [List.map_append]; rfl, by simp [hl], fun z hz' => ?_⟩
      rcases List.mem_append.mp hz' with hz' | hz'
      · exact hz z hz'
      · exact ⟨cc, hcc, List.mem_singleton.mp hz'⟩
    · rintro acc M2 ⟨rfl, zs, rfl, hl, hz⟩
      rw [rng_len] at hl
      walk_at "bbs"
      refine ⟨?_, ?_⟩
      · have e1 : (zs.map fun x => x.length) = List.replicate zs.length 1 := by
          rw [List.eq_replicate_iff]
          refine ⟨by rw [List.length_map], fun b hb => ?_⟩
          obtain ⟨z, hz', rfl⟩ := List.mem_map.mp hb
          obtain ⟨cc, _, rfl⟩ := hz z hz'
          rfl
        rw [e1, List.sum_replicate_nat, show (("" : Str)).length = 0 from rfl]
        omega
      · exact .done (q _ (join_small (by omega) (by omega) hz))
theorem c_name {a c : Addr} (hm : M a = some (.gen c)) (q : ∀ z, isNameB z = true → Q (.str z) M) : sp__law_name K [.ref a] M Q E := ⟨_, rfl, a, c, rfl, hm, q⟩
theorem rising_pw : ∀ {l : List Str} {p : Str}, risingS p l = true → (p :: l).Nodup → (p :: l).Pairwise (fun x y => ltS x y = true)
  | [], p, _, _ => List.pairwise_singleton _ _
  | x :: r, p, h, hn => by
    unfold risingS at h
    rw [Bool.and_eq_true] at h
    have hn2 := List.nodup_cons.mp hn
    have ih := rising_pw h.2 hn2.2
    have h1 : ¬ x.cps.toList < p.cps.toList := by
      have := h.1
      rw [PyProof.Rows.ltCps_eq] at this
      simpa using this
    have hne : p.cps.toList ≠ x.cps.toList := fun e => hn2.1 (by
      have : p = x := by cases p; cases x; simp only [Str.mk.injEq]; exact Array.toList_inj.mp e
      rw [this]; exact List.mem_cons_self)
    have hpx : ltS p x = true := by
      unfold ltS
      refine decide_eq_true (Classical.byContradiction fun hc => hne ?_)
      exact List.le_antisymm (List.not_lt.mp h1) (List.not_lt.mp hc)
    refine List.pairwise_cons.mpr ⟨fun y hy => ?_, ih⟩
    rcases List.mem_cons.mp hy with hy | hy
    · rw [hy]; exact hpx
    · have hxy := (List.pairwise_cons.mp ih).1 y hy
      exact decide_eq_true (List.lt_trans (of_decide_eq_true hpx) (of_decide_eq_true hxy))
theorem sorted_pw {l : List Str} (h : sortedS l = true) (hn : l.Nodup) : l.Pairwise (fun x y => ltS x y = true) := by
  cases l with
  | nil => exact .nil
  | cons x r => exact rising_pw h hn
theorem cutS_to (z : Str) (n : Nat) : (cutS z none (some (n : Int))).cps.toList = z.cps.toList.take n := by
  unfold cutS
  rw [HT.sIx_none, HT.sIx_nat, List.drop_zero, Nat.sub_zero]
  show (z.cps.toList.take (min n z.length)) = _
  rw [len_cps]
  by_cases h : n ≤ z.cps.toList.length
  · rw [Nat.min_eq_left h]
  · rw [Nat.min_eq_right (by omega), List.take_of_length_le (Nat.le_refl _), List.take_of_length_le (by omega)]
theorem str_ext {x y : Str} (h : x.cps.toList = y.cps.toList) : x = y := by cases x; cases y; simp only [Str.mk.injEq]; exact Array.toList_inj.mp h
theorem app_cps (x y : Str) : (x ++ y).cps.toList = x.cps.toList ++ y.cps.toList := TL.tl_append x y
/-- a name of at most five signs, and one more -/
theorem name_more {z : Str} {n c : Nat} (h : isNameB z = true) (hn : n ≤ 5) (hc : c ∈ SMALLS.cps.toList) : isNameB (cutS z none (some (n : Int)) ++ ⟨#[c]⟩) = true := by
  rw [nameB_iff] at h ⊢
  rw [app_cps, cutS_to]
  refine ⟨by rw [List.length_append]; show 1 ≤ _ + 1; omega, by rw [List.length_append, List.length_take]; show _ + 1 ≤ 6; omega, fun x hx => ?_⟩
  rcases List.mem_append.mp hx with hx | hx
  · exact h.2.2 x (List.mem_of_mem_take hx)
  · rw [List.mem_singleton.mp hx]; exact hc
def cand (z : Str) (c : Nat) : Str := cutS z none (some ((4 : Nat) : Int)) ++ ⟨#[c]⟩
theorem cand_inj {z : Str} {c d : Nat} (h : cand z c = cand z d) : c = d := by
  have h2 : (cand z c).cps.toList = (cand z d).cps.toList := by rw [h]
  unfold cand at h2
  rw [app_cps, app_cps] at h2
  have h3 := List.append_cancel_left h2
  exact (List.cons.inj h3).1
theorem small_nodup : SMALLS.cps.toList.Nodup := by decide +kernel
theorem cands_nodup (z : Str) : (SMALLS.cps.toList.map (cand z)).Nodup := by
  refine List.pairwise_map.mpr (small_nodup.imp fun h e => h (cand_inj e))
/-- of so many candidates one is new -/
theorem some_new {z : Str} {zs : List Str} (h : zs.length < 26) : ((z :: SMALLS.cps.toList.map (cand z)).filter fun y => !decide (y ∈ zs)) ≠ [] := by
  intro e
  have hsub : SMALLS.cps.toList.map (cand z) ⊆ zs := fun y hy => by
    have := List.filter_eq_nil_iff.mp e y (List.mem_cons_of_mem _ hy)
    simpa using this
  have := (cands_nodup z).length_le_of_subset hsub
  rw [List.length_map, small_len] at this
  omega
theorem toPys_strs : ∀ zs : List Str, toPys (zs.map D.str) = some (zs.map PyData.str)
  | [] => by rw [List.map_nil, toPys]; rfl
  | z :: zs => by
    rw [List.map_cons, toPys, toPys_strs zs, toPy]
    rfl
theorem small_ok : ∀ c ∈ SMALLS.cps.toList, c < 0x110000 := by decide +kernel
theorem strOk_name {z : Str} (h : isNameB z = true) : PyData.strOk z = true := by
  unfold PyData.strOk
  rw [← Array.all_toList, List.all_eq_true]
  exact fun c hc => decide_eq_true (small_ok c ((nameB_iff.mp h).2.2 c hc))
theorem lay_strs : ∀ {zs : List Str}, (∀ z ∈ zs, PyData.strOk z = true) → PyData.canLayAll0 (zs.map PyData.str) = true
  | [], _ => rfl
  | z :: zs, h => by
    rw [List.map_cons, PyData.canLayAll0, lay_strs fun y hy => h y (List.mem_cons_of_mem _ hy), PyData.canLay0, h z List.mem_cons_self]
    rfl
theorem depth_strs : ∀ zs : List Str, PyData.depthAll (zs.map PyData.str) = 0
  | [] => rfl
  | z :: zs => by rw [List.map_cons, PyData.depthAll, depth_strs zs, PyData.depth]; rfl
theorem shaped_list {zs : List Str} (h : ∀ z ∈ zs, PyData.strOk z = true) : SeqAt.shaped (.list (zs.map PyData.str)) = true := by
  unfold SeqAt.shaped
  rw [PyData.canLay0, lay_strs h, PyData.depth, depth_strs]
  rfl
theorem i_neEmpty {p : Addr} {zs : List Str} (h : M p = some (.lst (zs.map .str))) (hz : ∀ z ∈ zs, PyData.strOk z = true) (q : Q (.bl (!zs.isEmpty)) M) : rdNe (.ref p) (.lst []) M Q := by
  refine ⟨.list (zs.map PyData.str), .list [], ?_, by show toPy (.lst []) = _; rw [toPy, toPys]; rfl, shaped_list hz, rfl, ?_⟩
  · show (match M p with | some (.lst xs) => (toPys xs).map PyData.list | _ => none) = _
    rw [h]
    show (toPys _).map _ = _
    rw [toPys_strs]
    rfl
  · have : PyData.eqv (.list (zs.map PyData.str)) (.list []) = zs.isEmpty := by
      cases zs with
      | nil => rfl
      | cons z zs => rw [List.map_cons, PyData.eqv, PyData.eqvAll]; rfl
    rw [this]
    exact q
theorem at_last {zs : List Str} {l : Str} : ixD M (.lst ((zs ++ [l]).map D.str)) (.int (-1)) = some (.str l) := by
  show atI ((zs ++ [l]).map D.str) (-1) = _
  unfold atI ixN
  rw [if_neg (by omega), if_pos (by simp; omega)]
  show ((zs ++ [l]).map D.str)[(-1 + (((zs ++ [l]).map D.str).length : Int)).toNat]? = _
  have : (-1 + (((zs ++ [l]).map D.str).length : Int)).toNat = zs.length := by rw [List.length_map, List.length_append, List.length_singleton]; omega
  rw [this, List.getElem?_map]
  simp
theorem i_ixRef {p : Addr} {xs : List D} {i : Int} {d : D} (h : M p = some (.lst xs)) (e : ixD M (.lst xs) (.int i) = some d) (q : Q d M) : rdO ixD (.ref p) (.int i) M Q := by
  refine ⟨d, ?_, q⟩
  show (seqOf M (.ref p)).bind _ = _
  rw [seqOf_ref h]
  exact e
theorem sl_to {z : Str} {n : Nat} (hz : z.length ≤ sizeLine) : slD M (.str z) none (some (n : Int)) = some (.str (cutS z none (some (n : Int)))) := if_pos hz
theorem name_size {z : Str} (h : isNameB z = true) : z.length ≤ sizeLine := by have := name_len h; rw [sizeLine_eq]; omega
theorem i_rdoN {f : Mem → D → D → Option D} {x y d : D} (h : f M x y = some d) (q : Q d M) : rdO f x y M Q := ⟨d, h, q⟩
theorem names_tail {T : EndsD} {a p : Addr} {m : Int} {z : Str} {zs : List Str} {x4 : Option D} (hp : M p = some (.lst (zs.map .str))) (hz : isNameB z = true) (hzs : ∀ z ∈ zs, isNameB z = true) (hl : zs.length < 26)
    (hT : ∀ y, isNameB y = true → y ∉ zs → ∀ x4, T.nx [some (.ref a), some (.int m), some (.ref p), some (.str z), x4, none, none] (mset M p (.lst ((zs ++ [y]).map .str)))) :
    (dSeq (dSet 4 (dOp (rdO addD) (dN (dLst (dCons (dVar 3) (dNil)))) (dN (dLc (dSeqI (dN (dC (.str "abcdefghijklmnopqrstuvwxyz")))) (gdName 5) dYes (dOp (rdO addD) (dN (dSl (dN (dVar 3)) dNoPart (dPart (dC (.int 4))))) (dN (dVar 5))) [5]))))
  (dDrop (dApp (dVar 2) (dOp (rdO ixD) (dN (dLc (dSeqI (dN (dVar 4))) (gdName 6) (dTest (dOp (rdIn true) (dN (dVar 6)) (dN (dVar 2)))) (dVar 6) [6])) (dC (.int 0)))))) T [some (.ref a), some (.int m), some (.ref p), some (.str z), x4, none, none] M := by
  have h26 := small_len
  have hs := sizeLine_eq
  walk_at "bbs"
  refine ⟨by show 1 ≤ sizeLine; omega, ?_⟩
  walk_at "bbs"
  refine ⟨by unfold signs; rw [List.length_map]; show SMALLS.cps.toList.length ≤ _; omega, fun i acc M' => acc = ((SMALLS.cps.toList.take i).map (cand z)).map D.str ∧ M' = M, ⟨rfl, rfl⟩, fun _ _ _ _ => trivial, ?_, ?_⟩
  · rintro i d acc M2 hd ⟨rfl, rfl⟩
    obtain ⟨c, hc, rfl⟩ := signs_at hd
    walk_at "bbs"
    refine ⟨_, sl_to (n := 4) (name_size hz), ?_⟩
    walk_at "bbs"
    refine i_rdoN (addD_str ?_) ?_
    · have h1 := len_cps (cutS z none (some ((4 : Nat) : Int)))
      rw [cutS_to, List.length_take] at h1
      have h2 : (⟨#[c]⟩ : Str).length = 1 := rfl
      omega
    · refine ⟨?_, rfl⟩
      rw [List.map_map, List.map_map]
      exact take_map_succ (fun c => D.str (cand z c)) hc
  · rintro acc M2 ⟨rfl, rfl⟩
    have hlen : (signs ("abcdefghijklmnopqrstuvwxyz" : Str)).length = 26 := by unfold signs; rw [List.length_map]; exact small_len
    rw [hlen, List.take_of_length_le (by omega)]
    refine i_rdoN (addD_lst (by rw [List.length_map, List.length_map]; show 1 + _ ≤ _; omega)) ?_
    refine .done ?_
    walk_at "bbs"
    refine ⟨p, _, rfl, hp, ?_⟩
    walk_at "bbs"
    have e0 : [D.str z] ++ (SMALLS.cps.toList.map (cand z)).map D.str = (z :: SMALLS.cps.toList.map (cand z)).map D.str := rfl
    rw [e0]
    refine ⟨by rw [List.length_map, List.length_cons, List.length_map]; omega, fun i acc M' => acc = (((z :: SMALLS.cps.toList.map (cand z)).take i).filter fun y => !decide (y ∈ zs)).map D.str ∧ M' = M2, ⟨rfl, rfl⟩, fun _ _ _ _ => trivial, ?_, ?_⟩
    · rintro i d acc M3 hd ⟨rfl, rfl⟩
      obtain ⟨y, hy, rfl⟩ := strs_at hd
      walk_at "bbs"
      refine i_inS (by rw [show nrm (D.ref p) = D.ref p from rfl]; exact seqOf_ref hp) ?_
      rw [if_pos rfl]
      walk_at "bbs"
      have hsucc : ((z :: SMALLS.cps.toList.map (cand z)).take (i + 1)).filter (fun y => !decide (y ∈ zs)) = ((z :: SMALLS.cps.toList.map (cand z)).take i).filter (fun y => !decide (y ∈ zs)) ++ (if y ∈ zs then [] else [y]) := by
        rw [← take_succ_of hy, List.filter_append]
        congr 1
        by_cases hyz : y ∈ zs <;> simp [hyz]
      by_cases hyz : y ∈ zs
      · rw [decide_eq_true hyz]
        walk_at "bbs"
        refine ⟨?_, rfl⟩
        rw [hsucc, if_pos hyz, List.append_nil]
      · rw [decide_eq_false hyz]
        walk_at "bbs"
        refine ⟨?_, rfl⟩
        rw [hsucc, if_neg hyz, List.map_append]
        rfl
    · rintro acc M3 ⟨rfl, rfl⟩
      walk_at "bbs"
      rw [List.length_map, List.take_length]
      have hne := some_new (z := z) hl
      cases hf : (z :: SMALLS.cps.toList.map (cand z)).filter (fun y => !decide (y ∈ zs)) with
      | nil => exact absurd hf hne
      | cons y r =>
        have hy : y ∈ (z :: SMALLS.cps.toList.map (cand z)).filter (fun y => !decide (y ∈ zs)) := by rw [hf]; exact List.mem_cons_self
        obtain ⟨hy1, hy2⟩ := List.mem_filter.mp hy
        refine i_rdoN (ix_lst (i := 0) (d := .str y) rfl) ?_
        refine ⟨_, hp, by rw [List.length_map]; omega, ?_⟩
        have hyn : isNameB y = true := by
          rcases List.mem_cons.mp hy1 with e | hy1
          · rw [e]; exact hz
          · obtain ⟨c, hc, rfl⟩ := List.mem_map.mp hy1
            exact name_more hz (by omega) hc
        have key := hT y hyn (by simpa using hy2)
        rw [List.map_append] at key
        exact key _
theorem lw__law_names (h : sp__law_names K ds M Q E) : rd__law_names K (wd E) (ends Q) (startD ["_law_state", "_law_many", "_law_some", "_law_name_here", "_law_others", "_law_sign", "_law_one"] ds) M := by
  obtain ⟨s, n, rfl, a, c, m, rfl, hm, rfl, h0, h1, q⟩ := h
  unfold rd__law_names
  walk_at "bbs"
  refine ⟨Nat.zero_le _, fun p hp => ?_⟩
  refine .done ?_
  have hma : ∀ {x}, (mset M p x) a = some (.gen c) := fun {x} => by rw [mset_ne (mem_ne hm hp)]; exact hm
  refine ⟨fun k env M' => ∃ (zs : List Str) (x3 x4 : Option D), env = [some (.ref a), some (.int m), some (.ref p), x3, x4, none, none] ∧ M' = mset M p (.lst (zs.map .str)) ∧ (∀ z ∈ zs, isNameB z = true) ∧ zs.Nodup ∧ zs.length ≤ m.toNat ∧ k = m.toNat - zs.length,
    ⟨m.toNat, [], none, none, rfl, rfl, (by intro _ h; cases h), List.nodup_nil, Nat.zero_le _, rfl⟩, ?_⟩
  rintro k env M2 ⟨zs, x3, x4, rfl, rfl, hz, hnd, hle, rfl⟩
  walk_at "bbs"
  refine i_rd1 (d := .int zs.length) (by show (seqOf _ _).map _ = _; rw [show nrm (D.ref p) = D.ref p from rfl, seqOf_ref mset_same]; simp) ?_
  walk_at "bbs"
  by_cases hlt : (zs.length : Int) < m
  · rw [decide_eq_true hlt]
    walk_at "bbs"
    refine c_name hma fun z0 hz0 => ?_
    refine .done ?_
    walk_at "bbs"
    refine ⟨by show 0 ≤ sizeLine; exact Nat.zero_le _, ?_⟩
    refine i_neEmpty mset_same (fun z h => strOk_name (hz z h)) ?_
    have fin : ∀ (z : Str) (T : EndsD), isNameB z = true → (T.nx = FzS fun env M' => ∃ m', m' < m.toNat - zs.length ∧ ∃ (zs : List Str) (x3 x4 : Option D), env = [some (.ref a), some (.int m), some (.ref p), x3, x4, none, none] ∧ M' = mset M p (.lst (zs.map .str)) ∧ (∀ z ∈ zs, isNameB z = true) ∧ zs.Nodup ∧ zs.length ≤ m.toNat ∧ m' = m.toNat - zs.length) →
        ∀ x4, (dSeq (dSet 4 (dOp (rdO addD) (dN (dLst (dCons (dVar 3) (dNil)))) (dN (dLc (dSeqI (dN (dC (.str "abcdefghijklmnopqrstuvwxyz")))) (gdName 5) dYes (dOp (rdO addD) (dN (dSl (dN (dVar 3)) dNoPart (dPart (dC (.int 4))))) (dN (dVar 5))) [5]))))
  (dDrop (dApp (dVar 2) (dOp (rdO ixD) (dN (dLc (dSeqI (dN (dVar 4))) (gdName 6) (dTest (dOp (rdIn true) (dN (dVar 6)) (dN (dVar 2)))) (dVar 6) [6])) (dC (.int 0)))))) T [some (.ref a), some (.int m), some (.ref p), some (.str z), x4, none, none] (mset M p (.lst (zs.map .str))) := fun z T hz' hT x4 => by
      refine names_tail mset_same hz' hz (by omega) fun y hy hyn x4 => ?_
      rw [hT, mset_mset]
      refine .done ⟨m.toNat - (zs.length + 1), by omega, zs ++ [y], _, _, rfl, rfl, fun x hx => ?_, ?_, by rw [List.length_append, List.length_singleton]; omega, by rw [List.length_append, List.length_singleton]⟩
      · rcases List.mem_append.mp hx with hx | hx
        · exact hz x hx
        · rw [List.mem_singleton.mp hx]; exact hy
      · exact List.nodup_append.mpr ⟨hnd, (by simp), fun x hx w hw e => hyn (by rw [← List.mem_singleton.mp hw, ← e]; exact hx)⟩
    walk_at "bbs"
    cases hzs : zs with
    | nil =>
      rw [hzs] at fin
      walk_at "bbs"
      refine .done ?_
      exact fin z0 _ hz0 rfl _
    | cons z1 zr =>
      rw [hzs] at fin
      walk_at "bbs"
      refine c_draw hma (by omega) (by omega) fun r h2 h3 => ?_
      walk_at "bbs"
      by_cases hr : r = 0
      · rw [decide_eq_true hr]
        walk_at "bbs"
        obtain ⟨ini, l, el⟩ : ∃ ini l, z1 :: zr = ini ++ [l] := ⟨_, _, (List.dropLast_concat_getLast (List.cons_ne_nil z1 zr)).symm⟩
        have hl : isNameB l = true := hz l (by rw [hzs, el]; exact List.mem_append_right _ List.mem_cons_self)
        refine i_ixRef mset_same (by rw [el]; exact at_last) ?_
        walk_at "bbs"
        refine ⟨_, sl_to (n := 5) (name_size hl), ?_⟩
        walk_at "bbs"
        refine c_draw hma (by omega) (by omega) fun r2 h4 h5 => ?_
        obtain ⟨cc, hcc, e2⟩ := ix_sign (M := mset M p (MO.lst (List.map D.str (z1 :: zr)))) (z := ("abz" : Str)) (by rw [sizeLine_eq]; decide) h4 (by show r2 < (3 : Nat); omega)
        have hcs : cc ∈ SMALLS.cps.toList := (show ∀ c ∈ ("abz" : Str).cps.toList, c ∈ SMALLS.cps.toList by decide +kernel) cc hcc
        refine i_rdo e2 ?_
        refine i_rdoN (addD_str ?_) ?_
        · have h1 := len_cps (cutS l none (some ((5 : Nat) : Int)))
          rw [cutS_to, List.length_take] at h1
          have h2 : (⟨#[cc]⟩ : Str).length = 1 := rfl
          have := sizeLine_eq
          omega
        · refine .done ?_
          exact fin _ _ (name_more hl (by omega) hcs) rfl _
      · rw [decide_eq_false hr]
        walk_at "bbs"
        refine .done ?_
        exact fin z0 _ hz0 rfl _
  · rw [decide_eq_false hlt]
    walk_at "bbs"
    refine .done ?_
    walk_at "bbs"
    have hlen : zs.length = m.toNat := by omega
    refine ⟨_, rfl, zs, by rw [show nrm (D.ref p) = D.ref p from rfl]; exact lstOf_ref mset_same, by omega, fun ys hperm hsort => ?_⟩
    walk_at "bbs"
    refine ⟨_, rfl, _, rfl, ?_⟩
    refine .drop p mset_same rfl ?_
    rw [mdel_mset hp]
    have hl2 := hperm.length_eq
    exact .done (q ys ⟨fun y hy => hz y (hperm.subset hy), sorted_pw hsort (hperm.nodup_iff.mpr hnd), by omega, by omega⟩)
theorem c_names {a c : Addr} {m : Int} (hm : M a = some (.gen c)) (h0 : 1 ≤ m) (h1 : m ≤ 8) (q : ∀ zs, isNames zs m.toNat m.toNat → Q (namesD zs) M) : sp__law_names K [.ref a, .int m] M Q E := ⟨_, _, rfl, a, c, m, rfl, hm, rfl, h0, h1, q⟩
end
end BB

set_option maxHeartbeats 4000000
namespace BB
open L2 PySem PySem.Spec PyProof.Rows

section
variable {K : PySem.W.Frag} {ds : List D} {M : Mem} {Q : DKt} {E : DX}
theorem i_par {i j : Nat} {da db : DE} {T : EndsD} {env : Env} (q : da env M fun x M1 => db env M1 fun y M2 => T.nx ((env.set i (some x)).set j (some y)) M2) : dPar i j da db T env M := q
local macro_rules | `(tactic| walk_at "bb") => `(tactic| first
  | (with_reducible refine i_c ?_) | (with_reducible refine i_n ?_) | (with_reducible refine i_op ?_) | (with_reducible refine i_cons ?_) | (with_reducible refine i_nil ?_) | (with_reducible refine i_cb ?_)
  | (with_reducible refine i_seq ?_) | (with_reducible refine i_set ?_) | (with_reducible refine i_ret ?_) | (with_reducible refine i_if ?_) | (with_reducible refine i_drop ?_) | (with_reducible refine i_par ?_) | (with_reducible refine i_setF ?_) | (with_reducible refine i_raise ?_) | (with_reducible refine i_raiseI ?_) | (with_reducible refine i_asg ?_)
  | (with_reducible refine i_test ?_) | (with_reducible refine i_chain ?_) | (with_reducible refine i_tru ?_) | (with_reducible refine i_and ?_) | (with_reducible refine i_or ?_) | (with_reducible refine i_not ?_)
  | (with_reducible refine i_andv ?_) | (with_reducible refine i_orv ?_) | (with_reducible refine i_notv ?_) | (with_reducible refine i_ifx ?_) | (with_reducible refine i_tup ?_) | (with_reducible refine i_lst ?_) | (with_reducible refine i_lstM ?_)
  | (with_reducible refine i_neg ?_) | (with_reducible refine i_call ?_) | (with_reducible refine i_callK ?_) | (with_reducible refine i_meth ?_) | (with_reducible refine i_fld ?_) | (with_reducible refine i_tupIx ?_) | (with_reducible refine i_app ?_)
  | (with_reducible refine i_join ?_) | (with_reducible refine i_sl ?_) | (with_reducible refine i_part ?_) | (with_reducible refine i_nopart ?_) | (with_reducible refine i_next ?_) | (with_reducible refine i_retN ?_)
  | (with_reducible refine i_gname ?_) | (with_reducible refine i_gcons ?_) | (with_reducible refine i_gnil ?_) | (with_reducible refine i_seqI ?_) | (with_reducible refine i_rng1 ?_) | (with_reducible refine i_enum ?_) | (with_reducible refine i_zip2 ?_)
  | (with_reducible refine i_yes ?_) | (with_reducible refine i_for ?_) | (with_reducible refine i_lc ?_)
  | ((with_reducible refine i_var (d := ?bbd) ?bbh ?bbq); (case bbh => rfl)) | ((with_reducible refine i_rdo (d := ?bbd) ?bbh ?bbq); (case bbh => rfl); (try dsimp only)) | ((with_reducible refine i_rd1 (d := ?bbd) ?bbh ?bbq); (case bbh => rfl); (try dsimp only))
  | (with_reducible refine i_itt ?_) | (with_reducible refine i_nf ?_) | (with_reducible refine i_nt ?_) | (with_reducible refine i_itf ?_)
  | ((with_reducible show rdIsi _ _ _); first | refine i_isi rfl kb_int_int ?_ | refine i_isi rfl kb_int_bool ?_ | refine i_isi rfl kb_str_str ?_ | refine i_isi rfl kb_tup_tup ?_)
  | (with_reducible refine ⟨_, rfl, ?_⟩)
  | ((with_reducible show wkD _ _ _); first | refine wk_tup ?_ | refine wk_lst ?_ | refine wk_str ?_)
  | ((with_reducible show rdEq _ _ _ _); refine i_eqI ?_) | ((with_reducible show rdNe _ _ _ _); refine i_neI ?_)
  | ((with_reducible show ite _ _ _); refine i_itt ?_) | ((with_reducible show ite _ _ _); refine i_itf ?_))
local macro_rules | `(tactic| walk_at "bbs") => `(tactic| repeat walk_at "bb")
theorem ix_strs {zs : List Str} {r : Int} (h0 : 0 ≤ r) (h1 : r < zs.length) : ∃ z, z ∈ zs ∧ ixD M (.tup (zs.map .str)) (.int r) = some (.str z) := by
  obtain ⟨n, rfl⟩ := Int.eq_ofNat_of_zero_le h0
  have hn : n < zs.length := by omega
  exact ⟨zs[n], List.getElem_mem hn, ix_tup (by simp [hn])⟩
theorem tup_ref {p : Addr} {xs : List D} (h : M p = some (.lst xs)) : tupD M (nrm (.ref p)) = some (.tup xs) := by
  show (seqOf M (.ref p)).map D.tup = _
  rw [seqOf_ref h]
  rfl
/-- the doors of one room, as they are drawn -/
def RowOk (ss : List Str) (m : Nat) (r : List Door) : Prop := ∀ s n, some (s, n) ∈ r → s ∈ ss ∧ n < m
theorem lw__law_parts (h : sp__law_parts K ds M Q E) : rd__law_parts K (wd E) (ends Q) (startD ["_law_state", "_law_many", "_law_most_letters", "_law_shut", "_law_names_here", "_law_marks", "_law_halls", "_law_k", "_law_doors", "_law_name_here", "_law_door"] ds) M := by
  obtain ⟨s, n, l, t, rfl, a, c, m, lm, sh, rfl, hm, rfl, rfl, rfl, k1, k2, k3, k4, k5, k6, q⟩ := h
  have hs := sizeLine_eq
  unfold rd__law_parts
  walk_at "bbs"
  refine c_draw hm (by omega) (by omega) fun r1 a1 a2 => ?_
  walk_at "bbs"
  refine c_names (m := 1 + r1) hm (by omega) (by omega) fun ls hls => ?_
  refine .done ?_
  walk_at "bbs"
  refine c_draw hm (by omega) (by omega) fun r2 a3 a4 => ?_
  walk_at "bbs"
  refine c_names (m := 2 + r2) hm (by omega) (by omega) fun ss hss => ?_
  walk_at "bbs"
  refine ⟨by show 0 ≤ sizeLine; omega, fun ph hph => ?_⟩
  have hma : ∀ {x}, (mset M ph x) a = some (.gen c) := fun {x} => by rw [mset_ne (mem_ne hm hph)]; exact hm
  refine .done ?_
  walk_at "bbs"
  refine ⟨by omega, by omega, ?_⟩
  have hl1 : 1 ≤ ls.length ∧ ls.length ≤ 4 := by have := hls.2.2; omega
  have hs1 : 2 ≤ ss.length ∧ ss.length ≤ 4 := by have := hss.2.2; omega
  refine ⟨fun i env M' => ∃ (rs : List (List Door)) (x7 x8 x9 x10 : Option D), env = [some (.ref a), some (.int m), some (.int lm), some (.int sh), some (namesD ls), some (namesD ss), some (.ref ph), x7, x8, x9, x10] ∧ M' = mset M ph (.lst (rs.map fun r => .tup (r.map doorD))) ∧ rs.length = i ∧ ∀ r ∈ rs, r.length = ls.length ∧ RowOk ss m.toNat r,
    ⟨[], none, none, none, none, rfl, rfl, rfl, by intro _ h; cases h⟩, fun _ _ _ _ => trivial, ?_, ?_⟩
  · rintro i d env M2 hd ⟨rs, x7, x8, x9, x10, rfl, rfl, hrl, hrs⟩
    obtain ⟨hi, rfl⟩ := rng_at hd
    walk_at "bbs"
    refine ⟨by show 0 ≤ sizeLine; omega, fun pd hpd => ?_⟩
    have hpn : pd ≠ ph := fun e => by rw [e, mset_same] at hpd; cases hpd
    have hpd0 : M pd = none := by rw [mset_ne hpn] at hpd; exact hpd
    have hmb : ∀ {x y}, (mset (mset M ph x) pd y) a = some (.gen c) := fun {x y} => by rw [mset_ne (mem_ne hm hpd0)]; exact hma
    refine .done ?_
    walk_at "bbs"
    refine ⟨fun j env M' => ∃ (r : List Door) (x9 x10 : Option D), env = [some (.ref a), some (.int m), some (.int lm), some (.int sh), some (namesD ls), some (namesD ss), some (.ref ph), some (.int (0 + (i : Nat))), some (.ref pd), x9, x10] ∧ M' = mset (mset M ph (.lst (rs.map fun r => .tup (r.map doorD)))) pd (.lst (r.map doorD)) ∧ r.length = j ∧ RowOk ss m.toNat r,
      ⟨[], _, _, rfl, rfl, rfl, by intro _ _ h; cases h⟩, fun _ _ _ _ => trivial, ?_, ?_⟩
    · rintro j d env M3 hd2 ⟨r, y9, y10, rfl, rfl, hr1, hr2⟩
      obtain ⟨z, hz, rfl⟩ := strs_at hd2
      have hj : j < ls.length := (List.getElem?_eq_some_iff.mp hz).1
      walk_at "bbs"
      rw [List.length_map]
      refine c_draw hmb (by omega) (by omega) fun r3 b1 b2 => ?_
      obtain ⟨sg, hsg, e1⟩ := ix_strs (M := mset (mset M ph (.lst (rs.map fun r => .tup (r.map doorD)))) pd (.lst (r.map doorD))) (zs := ss) b1 b2
      refine i_rdo e1 ?_
      walk_at "bbs"
      refine c_draw hmb (by omega) (by omega) fun r4 b3 b4 => ?_
      refine ⟨by show 2 ≤ sizeLine; omega, ?_⟩
      refine .done ?_
      -- the door, whichever
      have fin : ∀ (dr : Door) (T : EndsD) (w9 : Option D), RowOk ss m.toNat [dr] → (T.nx = FzS fun env M' => ∃ (r : List Door) (x9 x10 : Option D), env = [some (.ref a), some (.int m), some (.int lm), some (.int sh), some (namesD ls), some (namesD ss), some (.ref ph), some (.int (0 + (i : Nat))), some (.ref pd), x9, x10] ∧ M' = mset (mset M ph (.lst (rs.map fun r => .tup (r.map doorD)))) pd (.lst (r.map doorD)) ∧ r.length = j + 1 ∧ RowOk ss m.toNat r) →
          (dDrop (dApp (dVar 8) (dVar 10))) T [some (.ref a), some (.int m), some (.int lm), some (.int sh), some (namesD ls), some (namesD ss), some (.ref ph), some (.int (0 + (i : Nat))), some (.ref pd), w9, some (doorD dr)] (mset (mset M ph (.lst (rs.map fun r => .tup (r.map doorD)))) pd (.lst (r.map doorD))) := fun dr T w9 hdr hT => by
        walk_at "bbs"
        refine ⟨pd, _, rfl, mset_same, ?_⟩
        walk_at "bbs"
        refine ⟨_, mset_same, by rw [List.length_map]; omega, ?_⟩
        rw [hT, mset_mset]
        refine .done ⟨r ++ [dr], _, _, rfl, by rw [List.map_append]; rfl, by rw [List.length_append, List.length_singleton, hr1], fun s n hsn => ?_⟩
        rcases List.mem_append.mp hsn with h | h
        · exact hr2 s n h
        · exact hdr s n h
      have fin2 : ∀ (dr : Door) (T : EndsD) (w9 : Option D), RowOk ss m.toNat [dr] → (T.nx = FzS fun env M' => ∃ (r : List Door) (x9 x10 : Option D), env = [some (.ref a), some (.int m), some (.int lm), some (.int sh), some (namesD ls), some (namesD ss), some (.ref ph), some (.int (0 + (i : Nat))), some (.ref pd), x9, x10] ∧ M' = mset (mset M ph (.lst (rs.map fun r => .tup (r.map doorD)))) pd (.lst (r.map doorD)) ∧ r.length = j + 1 ∧ RowOk ss m.toNat r) →
          (dSeq (dIfS ((dAnd (dTest (dOp (rdO (intD fun i j => decide (i > j))) (dN (dVar 3)) (dN (dC (.int 0))))) (dTest (dOp (rdEq) (dN (dCall (wd E) (sp__law_draw K) [] (dCons (dVar 0) (dCons (dVar 3) (dNil))))) (dN (dC (.int 0))))))) (dSet 10 (dC .non)) dNext)
  (dDrop (dApp (dVar 8) (dVar 10)))) T [some (.ref a), some (.int m), some (.int lm), some (.int sh), some (namesD ls), some (namesD ss), some (.ref ph), some (.int (0 + (i : Nat))), some (.ref pd), w9, some (doorD dr)] (mset (mset M ph (.lst (rs.map fun r => .tup (r.map doorD)))) pd (.lst (r.map doorD))) := fun dr T w9 hdr hT => by
        walk_at "bbs"
        by_cases c2 : sh > 0
        · rw [decide_eq_true c2]
          walk_at "bbs"
          refine c_draw hmb (by omega) (by omega) fun r6 b7 b8 => ?_
          walk_at "bbs"
          by_cases c3 : r6 = 0
          · rw [decide_eq_true c3]
            walk_at "bbs"
            refine .done ?_
            exact fin none _ _ (fun s n h => by cases h with | tail _ h => cases h) hT
          · rw [decide_eq_false c3]
            walk_at "bbs"
            refine .done ?_
            exact fin dr _ _ hdr hT
        · rw [decide_eq_false c2]
          walk_at "bbs"
          refine .done ?_
          exact fin dr _ _ hdr hT
      obtain ⟨n4, rfl⟩ := Int.eq_ofNat_of_zero_le b3
      have hd0 : RowOk ss m.toNat [some (sg, n4)] := fun s n h => by
        cases h with
        | head => exact ⟨hsg, by omega⟩
        | tail _ h => cases h
      walk_at "bbs"
      by_cases c1 : (0 + (i : Int)) + 1 < m
      · rw [decide_eq_true c1]
        walk_at "bbs"
        refine c_draw hmb (by omega) (by omega) fun r5 b5 b6 => ?_
        walk_at "bbs"
        by_cases c4 : r5 = 0
        · rw [decide_eq_true c4]
          walk_at "bbs"
          refine ⟨by show 2 ≤ sizeLine; omega, ?_⟩
          refine .done ?_
          have hd1 : RowOk ss m.toNat [some (sg, i + 1)] := fun s n h => by
            cases h with
            | head => exact ⟨hsg, by omega⟩
            | tail _ h => cases h
          have hdr : doorD (some (sg, i + 1)) = .tup [.str sg, .int (0 + (i : Int) + 1)] := by unfold doorD; rw [Int.zero_add]; rfl
          have fin3 := fun T w9 => fin2 (some (sg, i + 1)) T w9 hd1
          simp only [hdr] at fin3
          exact fin3 _ _ rfl
        · rw [decide_eq_false c4]
          walk_at "bbs"
          refine .done ?_
          exact fin2 (some (sg, n4)) _ _ hd0 rfl
      · rw [decide_eq_false c1]
        walk_at "bbs"
        refine .done ?_
        exact fin2 (some (sg, n4)) _ _ hd0 rfl
    · rintro env M3 ⟨r, y9, y10, rfl, rfl, hr1, hr2⟩
      rw [List.length_map] at hr1
      refine .done ?_
      walk_at "bbs"
      refine ⟨ph, _, rfl, by rw [mset_ne hpn.symm]; exact mset_same, ?_⟩
      walk_at "bbs"
      refine i_rd1 (tup_ref mset_same) ?_
      refine ⟨_, by rw [mset_ne hpn.symm]; exact mset_same, by rw [List.length_map]; omega, ?_⟩
      refine .drop pd (m := .lst (r.map doorD)) (by rw [mset_ne hpn]; exact mset_same) rfl ?_
      rw [mdel_mset_ne hpn.symm, mdel_mset hpd, mset_mset]
      refine .done ⟨rs ++ [r], _, _, _, _, rfl, by rw [List.map_append]; rfl, by rw [List.length_append, List.length_singleton, hrl], fun x hx => ?_⟩
      rcases List.mem_append.mp hx with h | h
      · exact hrs x h
      · rw [List.mem_singleton.mp h]; exact ⟨hr1, hr2⟩
  · rintro env M2 ⟨rs, x7, x8, x9, x10, rfl, rfl, hrl, hrs⟩
    rw [rng_len] at hrl
    refine .done ?_
    walk_at "bbs"
    refine i_rd1 (tup_ref mset_same) ?_
    refine ⟨by show 3 ≤ sizeLine; omega, ?_⟩
    refine .drop ph mset_same rfl ?_
    rw [mdel_mset hph]
    refine .done (q ⟨ls, ss, rs⟩ ⟨⟨hls.1, hls.2.1, hl1.1, hl1.2⟩, ⟨hss.1, hss.2.1, hs1.1, hs1.2⟩, ?_, ?_, fun r hr => (hrs r hr).1, fun r hr s n hsn => ?_⟩ hrl)
    · show 1 ≤ rs.length; omega
    · show rs.length ≤ 36; omega
    · obtain ⟨e1, e2⟩ := (hrs r hr).2 s n hsn
      exact ⟨e1, by show n < rs.length; omega⟩
end
end BB

set_option maxHeartbeats 4000000
namespace BB
open L2 PySem PySem.Spec PyProof.Rows
local macro_rules | `(tactic| walk_at "bb") => `(tactic| first
  | (with_reducible refine i_c ?_) | (with_reducible refine i_n ?_) | (with_reducible refine i_op ?_) | (with_reducible refine i_cons ?_) | (with_reducible refine i_nil ?_) | (with_reducible refine i_cb ?_)
  | (with_reducible refine i_seq ?_) | (with_reducible refine i_set ?_) | (with_reducible refine i_ret ?_) | (with_reducible refine i_if ?_) | (with_reducible refine i_drop ?_) | (with_reducible refine i_par ?_) | (with_reducible refine i_setF ?_) | (with_reducible refine i_raise ?_) | (with_reducible refine i_raiseI ?_) | (with_reducible refine i_asg ?_)
  | (with_reducible refine i_test ?_) | (with_reducible refine i_chain ?_) | (with_reducible refine i_tru ?_) | (with_reducible refine i_and ?_) | (with_reducible refine i_or ?_) | (with_reducible refine i_not ?_)
  | (with_reducible refine i_andv ?_) | (with_reducible refine i_orv ?_) | (with_reducible refine i_notv ?_) | (with_reducible refine i_ifx ?_) | (with_reducible refine i_tup ?_) | (with_reducible refine i_lst ?_) | (with_reducible refine i_lstM ?_)
  | (with_reducible refine i_neg ?_) | (with_reducible refine i_call ?_) | (with_reducible refine i_callK ?_) | (with_reducible refine i_meth ?_) | (with_reducible refine i_fld ?_) | (with_reducible refine i_tupIx ?_) | (with_reducible refine i_app ?_)
  | (with_reducible refine i_join ?_) | (with_reducible refine i_sl ?_) | (with_reducible refine i_part ?_) | (with_reducible refine i_nopart ?_) | (with_reducible refine i_next ?_) | (with_reducible refine i_retN ?_)
  | (with_reducible refine i_gname ?_) | (with_reducible refine i_gcons ?_) | (with_reducible refine i_gnil ?_) | (with_reducible refine i_seqI ?_) | (with_reducible refine i_rng1 ?_) | (with_reducible refine i_enum ?_) | (with_reducible refine i_zip2 ?_)
  | (with_reducible refine i_yes ?_) | (with_reducible refine i_for ?_) | (with_reducible refine i_lc ?_)
  | ((with_reducible refine i_var (d := ?bbd) ?bbh ?bbq); (case bbh => rfl)) | ((with_reducible refine i_rdo (d := ?bbd) ?bbh ?bbq); (case bbh => rfl); (try dsimp only)) | ((with_reducible refine i_rd1 (d := ?bbd) ?bbh ?bbq); (case bbh => rfl); (try dsimp only))
  | (with_reducible refine i_itt ?_) | (with_reducible refine i_nf ?_) | (with_reducible refine i_nt ?_) | (with_reducible refine i_itf ?_)
  | ((with_reducible show rdIsi _ _ _); first | refine i_isi rfl kb_int_int ?_ | refine i_isi rfl kb_int_bool ?_ | refine i_isi rfl kb_str_str ?_ | refine i_isi rfl kb_tup_tup ?_)
  | (with_reducible refine ⟨_, rfl, ?_⟩)
  | ((with_reducible show wkD _ _ _); first | refine wk_tup ?_ | refine wk_lst ?_ | refine wk_str ?_)
  | ((with_reducible show rdEq _ _ _ _); refine i_eqI ?_) | ((with_reducible show rdNe _ _ _ _); refine i_neI ?_)
  | ((with_reducible show ite _ _ _); refine i_itt ?_) | ((with_reducible show ite _ _ _); refine i_itf ?_))
local macro_rules | `(tactic| walk_at "bbs") => `(tactic| repeat walk_at "bb")

section
variable {K : PySem.W.Frag} {ds : List D} {M : Mem} {Q : DKt} {E : DX}
theorem row_ix {p : Pl} (ok : p.Ok) {r : Nat} {z : Str} {row : List Door} (hr : p.rooms[r]? = some row) (hz : z ∈ p.letters) : ixD M (.tup (row.map doorD)) (.int (ixOf z p.letters : Nat)) = some (doorD (p.door' r z)) := by
  have hl : ixOf z p.letters < row.length := by rw [ok.row _ (List.mem_of_getElem? hr)]; exact ixOf_lt hz
  refine ix_tup ?_
  unfold Pl.door'
  rw [List.getElem?_map, hr]
  simp [hl]
theorem c_along {p : Pl} {ws : List Str} {room : Nat} (ok : p.Ok) (hw : p.Word ws) (hr : room < p.rooms.length) (q : Q (alongD (p.along ws room)) M) : sp__law_along K [partsD p, wordD ws, .int room] M Q E := ⟨_, _, _, rfl, p, ws, room, ok, rfl, rfl, hw, rfl, hr, q⟩
theorem Pl.along_append {p : Pl} : ∀ {x y : List Str} {r : Nat}, p.along (x ++ y) r = match p.along x r with | none => none | some q => (p.along y q.2).map fun w => (q.1 ++ w.1, w.2)
  | [], y, r => by
    show p.along y r = (p.along y r).map fun w => ([] ++ w.1, w.2)
    cases p.along y r <;> rfl
  | z :: x, y, r => by
    cases hd : p.door' r z with
    | none => rw [List.cons_append, Pl.along_none hd, Pl.along_none hd]
    | some sn =>
      obtain ⟨s, n⟩ := sn
      rw [List.cons_append, Pl.along_some hd, Pl.along_some hd, Pl.along_append]
      cases p.along x n with
      | none => rfl
      | some q => 
        show ((p.along y q.2).map fun w => (q.1 ++ w.1, w.2)).map _ = (p.along y q.2).map _
        cases p.along y q.2 <;> rfl
theorem Pl.stop_iff {p : Pl} : ∀ {ws : List Str} {r : Nat}, (p.stop ws r).isNone = (p.along ws r).isSome
  | [], r => rfl
  | z :: ws, r => by
    cases hd : p.door' r z with
    | none => rw [Pl.stop_none hd, Pl.along_none hd]; rfl
    | some sn =>
      obtain ⟨s, n⟩ := sn
      rw [Pl.stop_some hd, Pl.along_some hd]
      have := Pl.stop_iff (p := p) (ws := ws) (r := n)
      cases e1 : p.stop ws n <;> cases e2 : p.along ws n <;> rw [e1, e2] at this <;> first | rfl | cases this
theorem Pl.along_lt {p : Pl} (ok : p.Ok) : ∀ {ws : List Str} {r : Nat} {h e}, r < p.rooms.length → p.along ws r = some (h, e) → e < p.rooms.length ∧ h.length = ws.length
  | [], r, h, e, hr, ha => by
    have := Option.some.inj ha
    obtain ⟨e1, e2⟩ := Prod.mk.inj this
    subst e1 e2
    exact ⟨hr, rfl⟩
  | z :: ws, r, h, e, hr, ha => by
    cases hd : p.door' r z with
    | none => rw [Pl.along_none hd] at ha; cases ha
    | some sn =>
      obtain ⟨s, n⟩ := sn
      rw [Pl.along_some hd] at ha
      cases e1 : p.along ws n with
      | none => rw [e1] at ha; cases ha
      | some q =>
        rw [e1] at ha
        obtain ⟨h2, e2⟩ := q
        obtain ⟨e3, e4⟩ := Prod.mk.inj (Option.some.inj ha)
        obtain ⟨k1, k2⟩ := Pl.along_lt ok (ok.door_lt hr hd).2 e1
        subst e3 e4
        exact ⟨k1, by simp [k2]⟩
theorem c_goes {p : Pl} {ws : List Str} {room : Nat} (ok : p.Ok) (hw : p.Word ws) (hr : room < p.rooms.length) (q : Q (.bl (p.stop ws room).isNone) M) : sp_goes K [planD K p, wordD ws, .int room] M Q E := ⟨_, _, _, rfl, p, ws, room, ok, rfl, rfl, hw, rfl, hr, q⟩
theorem c_told {p : Pl} {ws : List Str} {room : Nat} (ok : p.Ok) (hw : p.Word ws) (hr : room < p.rooms.length) (q : ∀ h e, p.along ws room = some (h, e) → Q (wordD h) M) (e : ∀ n, p.stop ws room = some n → E (.ref (He.ga K "NoWord")) [("at", .int (n : Nat))] M) : sp_told K [planD K p, wordD ws, .int room] M Q E := ⟨_, _, _, rfl, p, ws, room, ok, rfl, rfl, hw, rfl, hr, q, e⟩
theorem c_behind {p : Pl} {ws : List Str} {room : Nat} (ok : p.Ok) (hw : p.Word ws) (hr : room < p.rooms.length) (q : ∀ h e, p.along ws room = some (h, e) → Q (.int e) M) (e : ∀ n, p.stop ws room = some n → E (.ref (He.ga K "NoWord")) [("at", .int (n : Nat))] M) : sp_behind K [planD K p, wordD ws, .int room] M Q E := ⟨_, _, _, rfl, p, ws, room, ok, rfl, rfl, hw, rfl, hr, q, e⟩
theorem Pl.Word.of {p : Pl} {x ws : List Str} (h : p.Word ws) (hs : ∀ z ∈ x, z ∈ ws) (hl : x.length ≤ ws.length) : p.Word x := ⟨fun z hz => h.1 z (hs z hz), Nat.le_trans hl h.2⟩
theorem c_place {p : Pl} {ws : List Str} {room : Nat} (ok : p.Ok) (hw : p.Word ws) (hr : room < p.rooms.length) (hex : PySem.W.exmOne K (.ref (He.ga K "NoWord")) (.ref (He.ga K "NoWord")) = some true) (q : Q (.int (match p.stop ws room with | none => -1 | some n => (n : Int))) M) : sp__law_place K [planD K p, wordD ws, .int room] M Q E := ⟨_, _, _, rfl, p, ws, room, ok, rfl, rfl, hw, rfl, hr, hex, q⟩
theorem c_by_pieces {p : Pl} {x y z : List Str} {room : Nat} (ok : p.Ok) (hw : p.Word (x ++ (y ++ z))) (hr : room < p.rooms.length) (q : Q (alongD (p.along (x ++ (y ++ z)) room)) M) : sp__law_by_pieces K [planD K p, .lst [wordD x, wordD y, wordD z], .int room] M Q E := ⟨_, _, _, rfl, p, x, y, z, room, ok, rfl, rfl, hw, rfl, hr, q⟩
theorem c_pieces {a c : Addr} {ws : List Str} (hm : M a = some (.gen c)) (hl : ws.length ≤ 1000) (q : ∀ x y z : List Str, x ++ (y ++ z) = ws → Q (.lst [wordD x, wordD y, wordD z]) M) : sp__law_pieces K [.ref a, wordD ws] M Q E := ⟨_, _, rfl, a, c, ws, rfl, hm, rfl, hl, q⟩
theorem c_word {a c : Addr} {p : Pl} {m : Nat} (hm : M a = some (.gen c)) (ok : p.Ok) (h : m ≤ 60) (q : ∀ ws : List Str, (∀ z ∈ ws, z ∈ p.letters) → ws.length ≤ m → Q (wordD ws) M) : sp__law_word K [.ref a, partsD p, .int m] M Q E := ⟨_, _, _, rfl, a, c, p, m, rfl, hm, rfl, ok, rfl, h, q⟩
theorem c_parts {a c : Addr} {m lm sh : Int} (hm : M a = some (.gen c)) (h1 : 1 ≤ m) (h2 : m ≤ 36) (h3 : 1 ≤ lm) (h4 : lm ≤ 4) (h5 : 0 ≤ sh) (h6 : sh < 1000) (q : ∀ p : Pl, p.Ok → p.rooms.length = m.toNat → Q (partsD p) M) : sp__law_parts K [.ref a, .int m, .int lm, .int sh] M Q E := ⟨_, _, _, _, rfl, a, c, m, lm, sh, rfl, hm, rfl, rfl, rfl, h1, h2, h3, h4, h5, h6, q⟩
theorem c_begun {xs : List Int} (hl : xs.length ≤ 63) (q : ∀ a c, M a = none → M c = none → a ≠ c → Q (.ref a) (mset (mset M c (.own a)) a (.gen c))) : sp__law_begun K [.frz (xs.map .int)] M Q E := ⟨_, rfl, xs, rfl, hl, q⟩
end
end BB

set_option maxHeartbeats 4000000
namespace BB
open L2 PySem PySem.Spec PyProof.Rows
local macro_rules | `(tactic| walk_at "bb") => `(tactic| first
  | (with_reducible refine i_c ?_) | (with_reducible refine i_n ?_) | (with_reducible refine i_op ?_) | (with_reducible refine i_cons ?_) | (with_reducible refine i_nil ?_) | (with_reducible refine i_cb ?_)
  | (with_reducible refine i_seq ?_) | (with_reducible refine i_set ?_) | (with_reducible refine i_ret ?_) | (with_reducible refine i_if ?_) | (with_reducible refine i_drop ?_) | (with_reducible refine i_par ?_) | (with_reducible refine i_setF ?_) | (with_reducible refine i_raise ?_) | (with_reducible refine i_raiseI ?_) | (with_reducible refine i_asg ?_)
  | (with_reducible refine i_test ?_) | (with_reducible refine i_chain ?_) | (with_reducible refine i_tru ?_) | (with_reducible refine i_and ?_) | (with_reducible refine i_or ?_) | (with_reducible refine i_not ?_)
  | (with_reducible refine i_andv ?_) | (with_reducible refine i_orv ?_) | (with_reducible refine i_notv ?_) | (with_reducible refine i_ifx ?_) | (with_reducible refine i_tup ?_) | (with_reducible refine i_lst ?_) | (with_reducible refine i_lstM ?_)
  | (with_reducible refine i_neg ?_) | (with_reducible refine i_call ?_) | (with_reducible refine i_callK ?_) | (with_reducible refine i_meth ?_) | (with_reducible refine i_fld ?_) | (with_reducible refine i_tupIx ?_) | (with_reducible refine i_app ?_)
  | (with_reducible refine i_join ?_) | (with_reducible refine i_sl ?_) | (with_reducible refine i_part ?_) | (with_reducible refine i_nopart ?_) | (with_reducible refine i_next ?_) | (with_reducible refine i_retN ?_)
  | (with_reducible refine i_gname ?_) | (with_reducible refine i_gcons ?_) | (with_reducible refine i_gnil ?_) | (with_reducible refine i_seqI ?_) | (with_reducible refine i_rng1 ?_) | (with_reducible refine i_enum ?_) | (with_reducible refine i_zip2 ?_)
  | (with_reducible refine i_yes ?_) | (with_reducible refine i_for ?_) | (with_reducible refine i_lc ?_)
  | ((with_reducible refine i_var (d := ?bbd) ?bbh ?bbq); (case bbh => rfl)) | ((with_reducible refine i_rdo (d := ?bbd) ?bbh ?bbq); (case bbh => rfl); (try dsimp only)) | ((with_reducible refine i_rd1 (d := ?bbd) ?bbh ?bbq); (case bbh => rfl); (try dsimp only))
  | (with_reducible refine i_itt ?_) | (with_reducible refine i_nf ?_) | (with_reducible refine i_nt ?_) | (with_reducible refine i_itf ?_)
  | ((with_reducible show rdIsi _ _ _); first | refine i_isi rfl kb_int_int ?_ | refine i_isi rfl kb_int_bool ?_ | refine i_isi rfl kb_str_str ?_ | refine i_isi rfl kb_tup_tup ?_)
  | (with_reducible refine ⟨_, rfl, ?_⟩)
  | ((with_reducible show wkD _ _ _); first | refine wk_tup ?_ | refine wk_lst ?_ | refine wk_str ?_)
  | ((with_reducible show rdEq _ _ _ _); refine i_eqI ?_) | ((with_reducible show rdNe _ _ _ _); refine i_neI ?_)
  | ((with_reducible show ite _ _ _); refine i_itt ?_) | ((with_reducible show ite _ _ _); refine i_itf ?_))
local macro_rules | `(tactic| walk_at "bbs") => `(tactic| repeat walk_at "bb")

section
variable {K : PySem.W.Frag} {ds : List D} {M : Mem} {Q : DKt} {E : DX}
theorem Pl.stop_take {p : Pl} : ∀ {ws : List Str} {r n k : Nat}, p.stop ws r = some n → (p.stop (ws.take k) r).isNone = decide (k ≤ n)
  | [], r, n, k, h => by cases h
  | z :: ws, r, n, 0, h => by rw [List.take_zero]; rw [decide_eq_true (Nat.zero_le n)]; rfl
  | z :: ws, r, n, k + 1, h => by
    rw [List.take_succ_cons]
    cases hd : p.door' r z with
    | none =>
      rw [Pl.stop_none hd] at h ⊢
      have := Option.some.inj h
      subst this
      rw [decide_eq_false (by omega)]
      rfl
    | some sn =>
      obtain ⟨s, m⟩ := sn
      rw [Pl.stop_some hd] at h ⊢
      cases e : p.stop ws m with
      | none => rw [e] at h; exact nomatch h
      | some j =>
        rw [e] at h
        have h2 : j + 1 = n := Option.some.inj h
        have := Pl.stop_take (p := p) (k := k) e
        rw [Option.isNone_map, this]
        by_cases hk : k ≤ j
        · rw [decide_eq_true hk, decide_eq_true (by omega)]
        · rw [decide_eq_false hk, decide_eq_false (by omega)]
theorem Pl.stop_take0 {p : Pl} : ∀ {ws : List Str} {r k : Nat}, p.stop ws r = none → p.stop (ws.take k) r = none
  | [], r, k, h => by rw [List.take_nil]; rfl
  | z :: ws, r, 0, h => by rw [List.take_zero]; rfl
  | z :: ws, r, k + 1, h => by
    rw [List.take_succ_cons]
    cases hd : p.door' r z with
    | none => rw [Pl.stop_none hd] at h; cases h
    | some sn =>
      obtain ⟨s, m⟩ := sn
      rw [Pl.stop_some hd] at h ⊢
      cases e : p.stop ws m with
      | some j => rw [e] at h; cases h
      | none => rw [Pl.stop_take0 e]; rfl
theorem Pl.stop_app {p : Pl} : ∀ {ws y : List Str} {r n : Nat}, p.stop ws r = some n → p.stop (ws ++ y) r = some n
  | [], y, r, n, h => by cases h
  | z :: ws, y, r, n, h => by
    rw [List.cons_append]
    cases hd : p.door' r z with
    | none => rw [Pl.stop_none hd] at h ⊢; exact h
    | some sn =>
      obtain ⟨s, m⟩ := sn
      rw [Pl.stop_some hd] at h ⊢
      cases e : p.stop ws m with
      | none => rw [e] at h; exact nomatch h
      | some j => rw [e] at h; rw [Pl.stop_app e]; exact h
theorem Pl.along_signs {p : Pl} (ok : p.Ok) : ∀ {ws : List Str} {r : Nat} {h e}, r < p.rooms.length → p.along ws r = some (h, e) → ∀ s ∈ h, s ∈ p.signs
  | [], r, h, e, hr, ha => by
    obtain ⟨e1, e2⟩ := Prod.mk.inj (Option.some.inj ha)
    subst e1
    intro s hs
    cases hs
  | z :: ws, r, h, e, hr, ha => by
    cases hd : p.door' r z with
    | none => rw [Pl.along_none hd] at ha; cases ha
    | some sn =>
      obtain ⟨s, n⟩ := sn
      rw [Pl.along_some hd] at ha
      cases e1 : p.along ws n with
      | none => rw [e1] at ha; cases ha
      | some q =>
        rw [e1] at ha
        obtain ⟨h2, e2⟩ := q
        obtain ⟨e3, e4⟩ := Prod.mk.inj (Option.some.inj ha)
        have ih := Pl.along_signs ok (ok.door_lt hr hd).2 e1
        subst e3
        intro x hx
        rcases List.mem_cons.mp hx with hx | hx
        · rw [hx]; exact (ok.door_lt hr hd).1
        · exact ih x hx
theorem py_word (ws : List Str) : pyOf M (wordD ws) = some (.tuple (ws.map PyData.str)) := by
  show toPy (.tup (ws.map .str)) = _
  rw [toPy, toPys_strs]
  rfl
theorem shaped_word {ws : List Str} (h : ∀ z ∈ ws, PyData.strOk z = true) : SeqAt.shaped (.tuple (ws.map PyData.str)) = true := by
  unfold SeqAt.shaped
  rw [PyData.canLay0, lay_strs h, PyData.depth, depth_strs]
  rfl
theorem py_along (ws : List Str) (e : Nat) : pyOf M (alongD (some (ws, e))) = some (.tuple [.tuple (ws.map PyData.str), .int (e : Nat)]) := by
  show toPy (.tup [.tup (ws.map .str), .int (e : Nat)]) = _
  rw [toPy, toPys, toPy, toPys_strs, toPys, toPy, toPys]
  rfl
theorem shaped_along {ws : List Str} {e : Nat} (h : ∀ z ∈ ws, PyData.strOk z = true) : SeqAt.shaped (.tuple [.tuple (ws.map PyData.str), .int (e : Nat)]) = true := by
  unfold SeqAt.shaped
  simp only [PyData.canLay0, PyData.canLayAll0, lay_strs h, PyData.depth, PyData.depthAll, depth_strs]
  rfl
theorem last_of {zs : List Str} (h : 1 ≤ zs.length) : ∃ l, l ∈ zs ∧ ixD M (.tup (zs.map D.str)) (.int (-1)) = some (.str l) := by
  have hne : zs ≠ [] := fun e => by rw [e] at h; simp at h
  refine ⟨zs.getLast hne, List.getLast_mem hne, ?_⟩
  have e := List.dropLast_concat_getLast hne
  have := at_last (M := M) (zs := zs.dropLast) (l := zs.getLast hne)
  rw [e] at this
  exact this
theorem rep_word (n : Nat) (l : Str) : (List.replicate n [D.str l]).flatten = (List.replicate n l).map D.str := by
  induction n with
  | zero => rfl
  | succ n ih => rw [List.replicate_succ, List.flatten_cons, ih, List.replicate_succ]; rfl
theorem i_make {Wd : DW} {C : Addr} {sp : SpD} {dl : DA} {env : Env} (q : dl env M fun us M1 => ∀ p dx, M1 p = none → M1 dx = none → dx ≠ p →
  sp (.ref p :: us) (mset (mset M1 dx (.own p)) p (.ins C [])) (fun v M2 => v = .non ∧ FzV Q (.ref p) M2) fun c fs M' => FzV (fun _ M'' => Wd c fs env M'') .non M') : dMake Wd C sp dl env M Q := q
/-- a plan that was made is fixed at once -/
theorem made {a c p dx : Addr} {fs : List (Str × D)} {C : Addr} (h0 : ∀ b, M b = none) (hac : a ≠ c) (hp : (mset (mset M c (.own a)) a (.gen c)) p = none) (hdx : (mset (mset M c (.own a)) a (.gen c)) dx = none) (hne : dx ≠ p)
    (q : Q (.ins C fs) (mset (mset M c (.own a)) a (.gen c))) : FzV Q (.ref p) (mset (mset (mset (mset (mset M c (.own a)) a (.gen c)) dx (.own p)) p (.ins C [])) p (.ins C fs)) := by
  refine .fixI mset_same fun d2 h2 => ?_
  have hd : d2 = dx := by
    refine Classical.byContradiction fun hn => ?_
    by_cases e1 : d2 = p
    · rw [e1, mset_same] at h2; cases h2
    · rw [mset_ne e1, mset_ne e1, mset_ne hn] at h2
      by_cases e2 : d2 = a
      · rw [e2, mset_same] at h2; cases h2
      · rw [mset_ne e2] at h2
        by_cases e3 : d2 = c
        · rw [e3, mset_same] at h2
          have h3 := Option.some.inj h2
          injection h3 with h4
          rw [← h4, mset_same] at hp
          cases hp
        · rw [mset_ne e3, h0] at h2; cases h2
  subst hd
  rw [mset_mset, mdel_mset (by rw [mset_ne hne.symm]; exact hp), mdel_mset hdx]
  exact .done q
end
end BB

set_option maxHeartbeats 4000000
namespace BB
open L2 PySem PySem.Spec PyProof.Rows
section
variable {M : Mem} {Q : DKt}
/-! data of rooms, of what is told -/
theorem lay_all : ∀ {xs : List PyData}, (∀ x ∈ xs, x.canLay0 = true) → PyData.canLayAll0 xs = true
  | [], _ => rfl
  | x :: xs, h => by rw [PyData.canLayAll0, h x List.mem_cons_self, lay_all fun y hy => h y (List.mem_cons_of_mem _ hy)]; rfl
theorem depth_all {n : Nat} : ∀ {xs : List PyData}, (∀ x ∈ xs, x.depth ≤ n) → PyData.depthAll xs ≤ n
  | [], _ => Nat.zero_le _
  | x :: xs, h => by rw [PyData.depthAll]; exact Nat.max_le.mpr ⟨h x List.mem_cons_self, depth_all fun y hy => h y (List.mem_cons_of_mem _ hy)⟩
theorem toPys_map {α : Type} {f : α → D} {g : α → PyData} (h : ∀ a, toPy (f a) = some (g a)) : ∀ xs : List α, toPys (xs.map f) = some (xs.map g)
  | [] => rfl
  | x :: xs => by rw [List.map_cons, toPys, h x, toPys_map h xs]; rfl
def doorP : Door → PyData
  | none => .none
  | some (s, n) => .tuple [.str s, .int (n : Nat)]
def rowsP (rs : List (List Door)) : PyData := .tuple (rs.map fun r => .tuple (r.map doorP))
theorem toPy_door (d : Door) : toPy (doorD d) = some (doorP d) := by
  cases d with
  | none => rfl
  | some p => obtain ⟨s, n⟩ := p; show toPy (.tup [.str s, .int (n : Nat)]) = _; rw [toPy, toPys, toPy, toPys, toPy, toPys]; rfl
theorem py_rooms (rs : List (List Door)) : pyOf M (rowsD' rs) = some (rowsP rs) := by
  show toPy (.tup (rs.map fun r => .tup (r.map doorD))) = _
  rw [toPy, toPys_map (g := fun r : List Door => PyData.tuple (r.map doorP)) fun r => ?_]
  · rfl
  · show toPy (.tup (r.map doorD)) = _
    rw [toPy, toPys_map toPy_door]; rfl
def DoorsOk (rs : List (List Door)) : Prop := ∀ r ∈ rs, ∀ s n, some (s, n) ∈ r → PyData.strOk s = true
theorem Pl.Ok.doorsOk {p : Pl} (ok : p.Ok) : DoorsOk p.rooms := fun r hr s n h => strOk_name (ok.ss.1 s (ok.door r hr s n h).1)
theorem door_lay {d : Door} (h : ∀ s n, d = some (s, n) → PyData.strOk s = true) : (doorP d).canLay0 = true ∧ (doorP d).depth ≤ 1 := by
  cases d with
  | none => exact ⟨rfl, Nat.zero_le _⟩
  | some p =>
    obtain ⟨s, n⟩ := p
    refine ⟨?_, ?_⟩
    · simp only [doorP, PyData.canLay0, PyData.canLayAll0, h s n rfl, Bool.and_self]
    · simp only [doorP, PyData.depth, PyData.depthAll]; decide
theorem depth_rooms {rs : List (List Door)} (h : DoorsOk rs) : (rowsP rs).depth ≤ 3 := by
  unfold rowsP
  rw [PyData.depth]
  have : PyData.depthAll (rs.map fun r => PyData.tuple (r.map doorP)) ≤ 2 := depth_all fun x hx => by
    obtain ⟨r, hr, rfl⟩ := List.mem_map.mp hx
    rw [PyData.depth]
    have : PyData.depthAll (r.map doorP) ≤ 1 := depth_all fun y hy => by
      obtain ⟨d, hd, rfl⟩ := List.mem_map.mp hy
      exact (door_lay fun s n e => h r hr s n (e ▸ hd)).2
    omega
  omega
theorem shaped_rooms {rs : List (List Door)} (h : DoorsOk rs) : SeqAt.shaped (rowsP rs) = true := by
  unfold SeqAt.shaped
  refine Bool.and_eq_true_iff.mpr ⟨?_, decide_eq_true ?_⟩
  · unfold rowsP
    rw [PyData.canLay0]
    refine lay_all fun x hx => ?_
    obtain ⟨r, hr, rfl⟩ := List.mem_map.mp hx
    rw [PyData.canLay0]
    refine lay_all fun y hy => ?_
    obtain ⟨d, hd, rfl⟩ := List.mem_map.mp hy
    exact (door_lay fun s n e => h r hr s n (e ▸ hd)).1
  · unfold rowsP
    rw [PyData.depth]
    have : PyData.depthAll (rs.map fun r => PyData.tuple (r.map doorP)) ≤ 2 := depth_all fun x hx => by
      obtain ⟨r, hr, rfl⟩ := List.mem_map.mp hx
      rw [PyData.depth]
      have : PyData.depthAll (r.map doorP) ≤ 1 := depth_all fun y hy => by
        obtain ⟨d, hd, rfl⟩ := List.mem_map.mp hy
        exact (door_lay fun s n e => h r hr s n (e ▸ hd)).2
      omega
    omega
theorem Pl.along_len {p : Pl} : ∀ {ws : List Str} {r : Nat} {h e}, p.along ws r = some (h, e) → h.length = ws.length
  | [], r, h, e, ha => by
    obtain ⟨e1, e2⟩ := Prod.mk.inj (Option.some.inj ha)
    subst e1; rfl
  | z :: ws, r, h, e, ha => by
    cases hd : p.door' r z with
    | none => rw [Pl.along_none hd] at ha; cases ha
    | some sn =>
      obtain ⟨s, n⟩ := sn
      rw [Pl.along_some hd] at ha
      cases e1 : p.along ws n with
      | none => rw [e1] at ha; cases ha
      | some q =>
        rw [e1] at ha
        obtain ⟨h2, e2⟩ := q
        obtain ⟨e3, e4⟩ := Prod.mk.inj (Option.some.inj ha)
        have ih := Pl.along_len (p := p) e1
        subst e3
        rw [List.length_cons, List.length_cons, ih]
theorem name_cps {z : Str} (h : isNameB z = true) : ∀ c ∈ z.cps.toList, c < 0x110000 := fun c hc => small_ok c ((nameB_iff.mp h).2.2 c hc)
theorem fine_name {z : Str} (h : isNameB z = true) : Fine 62 (reprText z) := (fine_repr (name_cps h)).mono (by have := name_len h; omega)
theorem fine_num {e : Nat} (h : e < 1000) : Fine 3 ((toString ((e : Nat) : Int) : String) : Str) ∧ (PyData.int (e : Nat)).showable = true := by
  have key : ∀ e : Fin 1000, (((toString ((e.val : Nat) : Int) : String) : Str).length ≤ 3 ∧ ∀ c ∈ ((toString ((e.val : Nat) : Int) : String) : Str).cps.toList, c < 0x110000) ∧ (PyData.int (e.val : Nat)).showable = true := by decide +kernel
  exact key ⟨e, h⟩
theorem showable_strs : ∀ zs : List Str, PyData.showableAll (zs.map PyData.str) = true
  | [] => rfl
  | z :: zs => by rw [List.map_cons, PyData.showableAll, PyData.showable, showable_strs zs]; rfl
theorem noDict_strs : ∀ zs : List Str, PyData.hasDictAll (zs.map PyData.str) = false
  | [] => rfl
  | z :: zs => by rw [List.map_cons, PyData.hasDictAll, PyData.hasDict, noDict_strs zs]; rfl
/-- a tuple of names, shown -/
theorem fine_names {hs : List Str} (h : ∀ z ∈ hs, isNameB z = true) : Fine (hs.length * 64 + 3) (PyData.tuple (hs.map PyData.str)).shown := by
  rw [PyData.shown_tuple, PyData.shownAll_strs]
  have f1 : Fine 1 ("(" : Str) := ⟨by decide, by decide⟩
  have f2 := fine_join (n := 62) (ts := hs.map reprText) fun t ht => by
    obtain ⟨z, hz, rfl⟩ := List.mem_map.mp ht
    exact fine_name (h z hz)
  have f3 : Fine 2 ((if (hs.map PyData.str).length == 1 then ",)" else ")" : String) : Str) := by split <;> exact ⟨by decide, by decide⟩
  exact ((f1.app f2).app f3).mono (by rw [List.length_map]; omega)
theorem repr_heard {hs : List Str} {e : Nat} (h : ∀ z ∈ hs, isNameB z = true) (hl : hs.length ≤ 1000) (he : e < 1000) : ReprOk (.list [.tuple (hs.map PyData.str), .int (e : Nat)]) := by
  have hz := sizeLine_eq
  have fin : Fine (hs.length * 64 + 100) (PyData.list [.tuple (hs.map PyData.str), .int (e : Nat)]).shown := by
    rw [PyData.shown_list, PyData.shownAll_cons, PyData.shownAll_cons, PyData.shownAll_nil, PyData.shown_int]
    have f1 : Fine 1 ("[" : Str) := ⟨by decide, by decide⟩
    have f3 : Fine 1 ("]" : Str) := ⟨by decide, by decide⟩
    have fs : Fine 2 (", " : Str) := ⟨by decide, by decide⟩
    have f2 : Fine (hs.length * 64 + 3 + 2 + 3) (Str.join ", " [(PyData.tuple (hs.map PyData.str)).shown, ((toString ((e : Nat) : Int) : String) : Str)]) := ((fine_names h).app fs).app (fine_num he).1
    exact ((f1.app f2).app f3).mono (by omega)
  refine ⟨?_, ?_, ?_, Nat.le_trans fin.1 (by omega), shaped_str fin.ok⟩
  · rw [PyData.showable, PyData.showableAll, PyData.showable, showable_strs, PyData.showableAll, (fine_num he).2, PyData.showableAll]; rfl
  · rw [PyData.hasDict, PyData.hasDictAll, PyData.hasDict, noDict_strs, PyData.hasDictAll, PyData.hasDict, PyData.hasDictAll]; rfl
  · rw [PyData.depth, PyData.depthAll, PyData.depth, depth_strs, PyData.depthAll, PyData.depth, PyData.depthAll]; decide
theorem py_heard (hs : List Str) (e : Nat) : pyOf M (.lst [wordD hs, .int (e : Nat)]) = some (.list [.tuple (hs.map PyData.str), .int (e : Nat)]) := by
  show toPy (.lst [.tup (hs.map .str), .int (e : Nat)]) = _
  rw [toPy, toPys, toPy, toPys_strs, toPys, toPy, toPys]
  rfl
theorem shaped_heard {ws : List Str} {e : Nat} (h : ∀ z ∈ ws, PyData.strOk z = true) : SeqAt.shaped (.list [.tuple (ws.map PyData.str), .int (e : Nat)]) = true := by
  unfold SeqAt.shaped
  simp only [PyData.canLay0, PyData.canLayAll0, lay_strs h, PyData.depth, PyData.depthAll, depth_strs]
  rfl
end
end BB

set_option maxHeartbeats 4000000
namespace BB
open L2 PySem PySem.Spec PyProof.Rows
/-! repr of data of names and numbers: bounded -/
structure Rb (n k : Nat) (p : PyData) : Prop where
  sh : p.showable = true
  nd : p.hasDict = false
  dp : p.depth ≤ k
  fn : Fine n p.shown
theorem Rb.mono {m n j k : Nat} {p : PyData} (h : Rb m j p) (l1 : m ≤ n) (l2 : j ≤ k) : Rb n k p := ⟨h.sh, h.nd, Nat.le_trans h.dp l2, h.fn.mono l1⟩
theorem Rb.none : Rb 4 0 .none := ⟨rfl, rfl, Nat.le_refl _, by rw [PyData.shown_none]; exact ⟨by decide, by decide⟩⟩
theorem Rb.name {z : Str} (h : isNameB z = true) : Rb 62 0 (.str z) := ⟨rfl, rfl, Nat.le_refl _, by rw [PyData.shown_str]; exact fine_name h⟩
theorem Rb.nat {e : Nat} (h : e < 1000) : Rb 3 0 (.int (e : Nat)) := ⟨(fine_num h).2, rfl, Nat.le_refl _, by rw [PyData.shown_int]; exact (fine_num h).1⟩
theorem showable_all : ∀ {xs : List PyData}, (∀ x ∈ xs, x.showable = true) → PyData.showableAll xs = true
  | [], _ => rfl
  | x :: xs, h => by rw [PyData.showableAll, h x List.mem_cons_self, showable_all fun y hy => h y (List.mem_cons_of_mem _ hy)]; rfl
theorem noDict_all : ∀ {xs : List PyData}, (∀ x ∈ xs, x.hasDict = false) → PyData.hasDictAll xs = false
  | [], _ => rfl
  | x :: xs, h => by rw [PyData.hasDictAll, h x List.mem_cons_self, noDict_all fun y hy => h y (List.mem_cons_of_mem _ hy)]; rfl
theorem shown_map : ∀ xs : List PyData, PyData.shownAll xs = xs.map PyData.shown
  | [] => by rw [PyData.shownAll_nil]; rfl
  | x :: xs => by rw [PyData.shownAll_cons, shown_map xs]; rfl
theorem Rb.join {n k : Nat} {xs : List PyData} (h : ∀ x ∈ xs, Rb n k x) : Fine (xs.length * (n + 2)) (Str.join ", " (PyData.shownAll xs)) := by
  rw [shown_map]
  have := fine_join (n := n) (ts := xs.map PyData.shown) fun t ht => by
    obtain ⟨x, hx, rfl⟩ := List.mem_map.mp ht
    exact (h x hx).fn
  rw [List.length_map] at this
  exact this
theorem Rb.tuple {n k : Nat} {xs : List PyData} (h : ∀ x ∈ xs, Rb n k x) : Rb (xs.length * (n + 2) + 3) (k + 1) (.tuple xs) := by
  refine ⟨?_, ?_, ?_, ?_⟩
  · rw [PyData.showable]; exact showable_all fun x hx => (h x hx).sh
  · rw [PyData.hasDict]; exact noDict_all fun x hx => (h x hx).nd
  · rw [PyData.depth]; exact Nat.succ_le_succ (depth_all fun x hx => (h x hx).dp)
  · rw [PyData.shown_tuple]
    have f1 : Fine 1 ("(" : Str) := ⟨by decide, by decide⟩
    have f3 : Fine 2 ((if xs.length == 1 then ",)" else ")" : String) : Str) := by split <;> exact ⟨by decide, by decide⟩
    exact ((f1.app (Rb.join h)).app f3).mono (by omega)
theorem Rb.list {n k : Nat} {xs : List PyData} (h : ∀ x ∈ xs, Rb n k x) : Rb (xs.length * (n + 2) + 3) (k + 1) (.list xs) := by
  refine ⟨?_, ?_, ?_, ?_⟩
  · rw [PyData.showable]; exact showable_all fun x hx => (h x hx).sh
  · rw [PyData.hasDict]; exact noDict_all fun x hx => (h x hx).nd
  · rw [PyData.depth]; exact Nat.succ_le_succ (depth_all fun x hx => (h x hx).dp)
  · rw [PyData.shown_list]
    have f1 : Fine 1 ("[" : Str) := ⟨by decide, by decide⟩
    have f3 : Fine 1 ("]" : Str) := ⟨by decide, by decide⟩
    exact ((f1.app (Rb.join h)).app f3).mono (by omega)
theorem Rb.ok {n k : Nat} {p : PyData} (h : Rb n k p) (h1 : n ≤ 1000000) (h2 : k ≤ 32) : ReprOk p :=
  ⟨h.sh, h.nd, Nat.le_trans h.dp h2, Nat.le_trans h.fn.1 (by rw [sizeLine_eq]; omega), shaped_str h.fn.ok⟩
theorem Rb.names {zs : List Str} (h : ∀ z ∈ zs, isNameB z = true) : Rb (zs.length * 64 + 3) 1 (.tuple (zs.map PyData.str)) := by
  have := Rb.tuple (n := 62) (k := 0) (xs := zs.map PyData.str) fun x hx => by
    obtain ⟨z, hz, rfl⟩ := List.mem_map.mp hx
    exact Rb.name (h z hz)
  rw [List.length_map] at this
  exact this
theorem Rb.door {d : Door} (h : ∀ s n, d = some (s, n) → isNameB s = true ∧ n < 1000) : Rb 131 1 (doorP d) := by
  cases d with
  | none => exact Rb.none.mono (by decide) (by decide)
  | some p =>
    obtain ⟨s, n⟩ := p
    obtain ⟨h1, h2⟩ := h s n rfl
    refine Rb.mono (Rb.tuple (n := 62) (k := 0) (xs := [.str s, .int (n : Nat)]) fun x hx => ?_) (by show 2 * 64 + 3 ≤ 131; omega) (Nat.le_refl _)
    simp only [List.mem_cons, List.not_mem_nil, or_false] at hx
    rcases hx with rfl | rfl
    · exact Rb.name h1
    · exact (Rb.nat h2).mono (by decide) (Nat.le_refl _)
theorem Rb.rooms {p : Pl} (ok : p.Ok) : Rb 20000 3 (rowsP p.rooms) := by
  have hi := ok.hi
  refine Rb.mono (Rb.tuple (n := 535) (k := 2) (xs := p.rooms.map fun r => PyData.tuple (r.map doorP)) fun x hx => ?_) (by rw [List.length_map]; omega) (Nat.le_refl _)
  obtain ⟨r, hr, rfl⟩ := List.mem_map.mp hx
  have h1 := ok.row r hr
  have h2 := ok.ls.2.2.2
  refine Rb.mono (Rb.tuple (n := 131) (k := 1) (xs := r.map doorP) fun y hy => ?_) (by rw [List.length_map, h1]; omega) (Nat.le_refl _)
  obtain ⟨d, hd, rfl⟩ := List.mem_map.mp hy
  refine Rb.door fun s n e => ?_
  obtain ⟨k1, k2⟩ := ok.door r hr s n (e ▸ hd)
  exact ⟨ok.ss.1 s k1, by omega⟩
end BB

set_option maxHeartbeats 4000000
namespace BB
open L2 PySem PySem.Spec PyProof.Rows
local macro_rules | `(tactic| walk_at "bb") => `(tactic| first
  | (with_reducible refine i_c ?_) | (with_reducible refine i_n ?_) | (with_reducible refine i_op ?_) | (with_reducible refine i_cons ?_) | (with_reducible refine i_nil ?_) | (with_reducible refine i_cb ?_)
  | (with_reducible refine i_seq ?_) | (with_reducible refine i_set ?_) | (with_reducible refine i_ret ?_) | (with_reducible refine i_if ?_) | (with_reducible refine i_drop ?_) | (with_reducible refine i_par ?_) | (with_reducible refine i_setF ?_) | (with_reducible refine i_raise ?_) | (with_reducible refine i_raiseI ?_) | (with_reducible refine i_asg ?_)
  | (with_reducible refine i_test ?_) | (with_reducible refine i_chain ?_) | (with_reducible refine i_tru ?_) | (with_reducible refine i_and ?_) | (with_reducible refine i_or ?_) | (with_reducible refine i_not ?_)
  | (with_reducible refine i_andv ?_) | (with_reducible refine i_orv ?_) | (with_reducible refine i_notv ?_) | (with_reducible refine i_ifx ?_) | (with_reducible refine i_tup ?_) | (with_reducible refine i_lst ?_) | (with_reducible refine i_lstM ?_)
  | (with_reducible refine i_neg ?_) | (with_reducible refine i_call ?_) | (with_reducible refine i_callK ?_) | (with_reducible refine i_meth ?_) | (with_reducible refine i_fld ?_) | (with_reducible refine i_tupIx ?_) | (with_reducible refine i_app ?_)
  | (with_reducible refine i_join ?_) | (with_reducible refine i_sl ?_) | (with_reducible refine i_part ?_) | (with_reducible refine i_nopart ?_) | (with_reducible refine i_next ?_) | (with_reducible refine i_retN ?_)
  | (with_reducible refine i_gname ?_) | (with_reducible refine i_gcons ?_) | (with_reducible refine i_gnil ?_) | (with_reducible refine i_seqI ?_) | (with_reducible refine i_rng1 ?_) | (with_reducible refine i_enum ?_) | (with_reducible refine i_zip2 ?_)
  | (with_reducible refine i_yes ?_) | (with_reducible refine i_for ?_) | (with_reducible refine i_lc ?_)
  | ((with_reducible refine i_var (d := ?bbd) ?bbh ?bbq); (case bbh => rfl)) | ((with_reducible refine i_rdo (d := ?bbd) ?bbh ?bbq); (case bbh => rfl); (try dsimp only)) | ((with_reducible refine i_rd1 (d := ?bbd) ?bbh ?bbq); (case bbh => rfl); (try dsimp only))
  | (with_reducible refine i_itt ?_) | (with_reducible refine i_nf ?_) | (with_reducible refine i_nt ?_) | (with_reducible refine i_itf ?_)
  | ((with_reducible show rdIsi _ _ _); first | refine i_isi rfl kb_int_int ?_ | refine i_isi rfl kb_int_bool ?_ | refine i_isi rfl kb_str_str ?_ | refine i_isi rfl kb_tup_tup ?_)
  | (with_reducible refine ⟨_, rfl, ?_⟩)
  | ((with_reducible show wkD _ _ _); first | refine wk_tup ?_ | refine wk_lst ?_ | refine wk_str ?_)
  | ((with_reducible show rdEq _ _ _ _); refine i_eqI ?_) | ((with_reducible show rdNe _ _ _ _); refine i_neI ?_)
  | ((with_reducible show ite _ _ _); refine i_itt ?_) | ((with_reducible show ite _ _ _); refine i_itf ?_))
local macro_rules | `(tactic| walk_at "bbs") => `(tactic| repeat walk_at "bb")

section
variable {K : PySem.W.Frag} {ds : List D} {M : Mem} {Q : DKt} {E : DX}
/-! ### two plans' data, compared -/
theorem eqvAll_map {α : Type} [DecidableEq α] {f : α → PyData} (h : ∀ x y, PyData.eqv (f x) (f y) = decide (x = y)) : ∀ xs ys : List α, PyData.eqvAll (xs.map f) (ys.map f) = decide (xs = ys)
  | [], [] => rfl
  | [], y :: ys => by rw [List.map_nil, List.map_cons, PyData.eqvAll]; rfl
  | x :: xs, [] => by rw [List.map_nil, List.map_cons, PyData.eqvAll]; rfl
  | x :: xs, y :: ys => by
    rw [List.map_cons, List.map_cons, PyData.eqvAll, h, eqvAll_map h xs ys]
    by_cases e1 : x = y
    · by_cases e2 : xs = ys
      · rw [decide_eq_true e1, decide_eq_true e2, decide_eq_true (by rw [e1, e2])]; rfl
      · rw [decide_eq_true e1, decide_eq_false e2, decide_eq_false (by intro z; injection z; contradiction)]; rfl
    · rw [decide_eq_false e1, Bool.false_and, decide_eq_false (by intro z; injection z; contradiction)]
theorem eqv_str (x y : Str) : PyData.eqv (.str x) (.str y) = decide (x = y) := by
  rw [PyData.eqv]
  by_cases h : x = y
  · rw [decide_eq_true h, h]; exact beq_self_eq_true y
  · rw [decide_eq_false h]; exact beq_eq_false_iff_ne.mpr h
theorem eqv_nat (x y : Nat) : PyData.eqv (.int (x : Nat)) (.int (y : Nat)) = decide (x = y) := by
  rw [PyData.eqv]
  by_cases h : x = y
  · rw [decide_eq_true h, h]; exact beq_self_eq_true _
  · rw [decide_eq_false h]; exact beq_eq_false_iff_ne.mpr (by omega)
theorem eqv_names (xs ys : List Str) : PyData.eqv (.tuple (xs.map PyData.str)) (.tuple (ys.map PyData.str)) = decide (xs = ys) := by
  rw [PyData.eqv, eqvAll_map eqv_str]
theorem eqv_door (x y : Door) : PyData.eqv (doorP x) (doorP y) = decide (x = y) := by
  cases x with
  | none =>
    cases y with
    | none => rfl
    | some y => rfl
  | some x =>
    cases y with
    | none => obtain ⟨s, n⟩ := x; rfl
    | some y =>
      obtain ⟨s, n⟩ := x
      obtain ⟨t, m⟩ := y
      show PyData.eqv (.tuple [.str s, .int (n : Nat)]) (.tuple [.str t, .int (m : Nat)]) = _
      rw [PyData.eqv, PyData.eqvAll, PyData.eqvAll, PyData.eqvAll, eqv_str, eqv_nat, Bool.and_true]
      by_cases e1 : s = t
      · by_cases e2 : n = m
        · rw [decide_eq_true e1, decide_eq_true e2, decide_eq_true (by rw [e1, e2])]; rfl
        · rw [decide_eq_true e1, decide_eq_false e2, decide_eq_false (by intro z; exact e2 (Prod.mk.inj (Option.some.inj z)).2)]; rfl
      · rw [decide_eq_false e1, Bool.false_and, decide_eq_false (by intro z; exact e1 (Prod.mk.inj (Option.some.inj z)).1)]
theorem eqv_rows (r s : List (List Door)) : PyData.eqv (rowsP r) (rowsP s) = decide (r = s) := by
  unfold rowsP
  rw [PyData.eqv]
  exact eqvAll_map (f := fun r : List Door => PyData.tuple (r.map doorP)) (fun x y => by rw [PyData.eqv, eqvAll_map eqv_door]) r s
theorem py_names {b : Bool} {zs : List Str} : toPy (nmD b zs) = some (.tuple (zs.map PyData.str)) := by
  cases b
  · show toPy (.tup (zs.map .str)) = _
    rw [toPy, toPys_strs]; rfl
  · show toPy (.ntup (zs.map .str)) = _
    rw [toPy, toPys_strs]; rfl
theorem py_namesN {zs : List Str} : pyOf M (.tup (zs.map .str)) = some (.tuple (zs.map PyData.str)) := by
  show toPy (.tup (zs.map .str)) = _
  rw [toPy, toPys_strs]; rfl
theorem shaped_names {zs : List Str} {lo hi : Nat} (h : isNames zs lo hi) : SeqAt.shaped (.tuple (zs.map PyData.str)) = true := shaped_word fun z hz => strOk_name (h.1 z hz)
def partsP (p : Pl) : PyData := .tuple [.tuple (p.letters.map PyData.str), .tuple (p.signs.map PyData.str), rowsP p.rooms]
theorem py_partsB {b : Bool} {p : Pl} : pyOf M (partsB b p) = some (partsP p) := by
  show toPy (.tup [nmD b p.letters, nmD true p.signs, rowsD' p.rooms]) = _
  have hr : toPy (rowsD' p.rooms) = some (rowsP p.rooms) := py_rooms (M := M) p.rooms
  rw [toPy, toPys, toPys, toPys, py_names, py_names, hr, toPys]
  rfl
theorem shaped_parts {p : Pl} (ok : p.Ok) : SeqAt.shaped (partsP p) = true := by
  have h1 := shaped_names ok.ls
  have h2 := shaped_names ok.ss
  have h3 := shaped_rooms ok.doorsOk
  have key : ∀ {d : PyData}, SeqAt.shaped d = true → d.canLay0 = true := fun h => SeqAt.canLay_of_shaped h
  unfold SeqAt.shaped partsP
  refine Bool.and_eq_true_iff.mpr ⟨?_, decide_eq_true ?_⟩
  · rw [PyData.canLay0, PyData.canLayAll0, PyData.canLayAll0, PyData.canLayAll0, PyData.canLayAll0, key h1, key h2, key h3]; rfl
  · rw [PyData.depth, PyData.depthAll, PyData.depthAll, PyData.depthAll, PyData.depthAll]
    have d1 : (PyData.tuple (p.letters.map PyData.str)).depth ≤ 1 := by rw [PyData.depth, depth_strs]; exact Nat.le_refl _
    have d2 : (PyData.tuple (p.signs.map PyData.str)).depth ≤ 1 := by rw [PyData.depth, depth_strs]; exact Nat.le_refl _
    have d3 : (rowsP p.rooms).depth ≤ 3 := depth_rooms ok.doorsOk
    omega
theorem eqv_parts (p q : Pl) : PyData.eqv (partsP p) (partsP q) = p.eqB q := by
  unfold partsP Pl.eqB
  rw [PyData.eqv, PyData.eqvAll, PyData.eqvAll, PyData.eqvAll, PyData.eqvAll, eqv_names, eqv_names, eqv_rows, Bool.and_true]
theorem eqB_refl (p : Pl) : p.eqB p = true := by unfold Pl.eqB; simp
theorem eqB_comm (p q : Pl) : p.eqB q = q.eqB p := by
  unfold Pl.eqB
  rw [show decide (p.letters = q.letters) = decide (q.letters = p.letters) by simp only [eq_comm], show decide (p.signs = q.signs) = decide (q.signs = p.signs) by simp only [eq_comm], show decide (p.rooms = q.rooms) = decide (q.rooms = p.rooms) by simp only [eq_comm]]
/-! ### is_full -/
theorem flat_le {α : Type} {k : Nat} : ∀ {rs : List (List α)}, (∀ r ∈ rs, r.length ≤ k) → rs.flatten.length ≤ k * rs.length
  | [], _ => Nat.zero_le _
  | r :: rs, h => by
    rw [List.flatten_cons, List.length_append, List.length_cons, Nat.mul_succ]
    have := flat_le fun x hx => h x (List.mem_cons_of_mem _ hx)
    have := h r List.mem_cons_self
    omega
theorem full_any (rs : List (List Door)) : (rs.all fun r => r.all Option.isSome) = !(rs.flatten.map Option.isNone).any id := by
  induction rs with
  | nil => rfl
  | cons r rs ih =>
    rw [List.all_cons, ih, List.flatten_cons, List.map_append, List.any_append, Bool.not_or]
    congr 1
    induction r with
    | nil => rfl
    | cons d r ih2 => rw [List.all_cons, ih2, List.map_cons, List.any_cons, Bool.not_or]; cases d <;> rfl
theorem isNon_door (d : Door) : isNon (doorD d) = d.isNone := by
  cases d with
  | none => rfl
  | some p => obtain ⟨s, n⟩ := p; rfl
theorem i_any {bs : List Bool} {x : D} (h : lstOf M x = some (bs.map D.bl)) (q : Q (.bl (bs.any id)) M) : rdAny [x] M Q := ⟨x, rfl, bs, h, q⟩
theorem nrm_door (d : Door) : nrm (doorD d) = doorD d := by
  cases d with
  | none => rfl
  | some p => obtain ⟨s, n⟩ := p; rfl
theorem lw_Plan_is_full (h : sp_Plan_is_full K ds M Q E) : rd_Plan_is_full K (wd E) (ends Q) (startD ["self", "doors", "door"] ds) M := by
  obtain ⟨o, rfl, p, b, ok, rfl, q⟩ := h
  have hs := sizeLine_eq
  have hrow : ∀ r ∈ p.rooms, r.length ≤ 4 := fun r hr => by rw [ok.row r hr]; exact ok.ls.2.2.2
  unfold rd_Plan_is_full
  walk_at "bbs"
  unfold dLc2
  walk_at "bbs"
  refine ⟨fun i acc M' => M' = M ∧ acc = ((p.rooms.take i).flatten.map Option.isNone).map D.bl, ⟨rfl, rfl⟩, fun _ _ _ _ => trivial, ?_, ?_⟩
  · rintro i d acc M2 hd ⟨rfl, rfl⟩
    rw [List.getElem?_map] at hd
    cases hr : p.rooms[i]? with
    | none => rw [hr] at hd; cases hd
    | some row =>
      rw [hr] at hd
      cases hd
      walk_at "bbs"
      refine ⟨fun j acc M' => M' = M2 ∧ acc = (((p.rooms.take i).flatten ++ row.take j).map Option.isNone).map D.bl, ⟨rfl, by rw [List.take_zero, List.append_nil]⟩, fun _ _ _ _ => trivial, ?_, ?_⟩
      · rintro j e acc M3 he ⟨rfl, rfl⟩
        rw [List.getElem?_map] at he
        cases hdr : row[j]? with
        | none => rw [hdr] at he; cases he
        | some dr =>
          rw [hdr] at he
          cases he
          have hmem := List.mem_of_getElem? hr
          walk_at "bbs"
          refine ⟨?_, ?_⟩
          · rw [List.length_map, List.length_map, List.length_append, List.length_take]
            have h1 : (p.rooms.take i).flatten.length ≤ 4 * (p.rooms.take i).length := flat_le fun r hr => hrow r (List.mem_of_mem_take hr)
            have h2 := ok.hi
            have h3 := hrow _ hmem
            rw [List.length_take] at h1
            omega
          · walk_at "bbs"
            refine ⟨rfl, ?_⟩
            rw [nrm_door, isNon_door, List.take_succ, hdr, Option.toList_some]
            simp only [List.map_append, List.append_assoc]
            rfl
      · rintro acc M3 ⟨rfl, rfl⟩
        refine ⟨rfl, ?_⟩
        rw [List.length_map, List.take_length, List.take_succ, hr, Option.toList_some, List.flatten_append, List.flatten_singleton]
  · rintro acc M2 ⟨rfl, rfl⟩
    walk_at "bbs"
    refine i_any rfl ?_
    rw [List.length_map, List.take_length]
    refine ⟨_, rfl, ?_⟩
    rw [← full_any]
    exact .done q
theorem c_is_full {p : Pl} {b : Bool} (ok : p.Ok) (q : Q (.bl p.fullB) M) : sp_Plan_is_full K [planB K b p] M Q E := ⟨_, rfl, p, b, ok, rfl, q⟩
/-! ### == -/
theorem lw_Plan___eq__ (h : sp_Plan___eq__ K ds M Q E) : rd_Plan___eq__ K (wd E) (ends Q) (startD ["self", "other"] ds) M := by
  obtain ⟨o, y, rfl, p, b, ok, rfl, ⟨fx1, fx2, fx3⟩, h⟩ := h
  unfold rd_Plan___eq__
  rcases h with ⟨q, c, okq, rfl, h⟩ | ⟨hy, h⟩
  · walk_at "bbs"
    refine ⟨_, _, rfl, .inl ⟨_, _, true, rfl, fx1, fx2, ?_⟩⟩
    walk_at "bbs"
    rw [nrm_nm, nrm_nm]
    refine ⟨_, _, py_namesN, py_namesN, shaped_names ok.ls, shaped_names okq.ls, ?_⟩
    rw [eqv_names]
    unfold Pl.eqB at h
    by_cases e1 : p.letters = q.letters
    · rw [decide_eq_true e1] at h ⊢
      walk_at "bbs"
      refine ⟨_, _, py_namesN, py_namesN, shaped_names ok.ss, shaped_names okq.ss, ?_⟩
      rw [eqv_names]
      by_cases e2 : p.signs = q.signs
      · rw [decide_eq_true e2] at h ⊢
        walk_at "bbs"
        refine .done ?_
        walk_at "bbs"
        refine ⟨_, _, py_rooms p.rooms, py_rooms q.rooms, shaped_rooms ok.doorsOk, shaped_rooms okq.doorsOk, ?_⟩
        rw [eqv_rows]
        exact .done h
      · rw [decide_eq_false e2] at h ⊢
        walk_at "bbs"
        exact .done h
    · rw [decide_eq_false e1] at h ⊢
      walk_at "bbs"
      exact .done h
  · walk_at "bbs"
    refine ⟨_, _, rfl, .inr ⟨_, false, hy, fx3, ?_⟩⟩
    walk_at "bbs"
    exact .done h
theorem c_eq {p q : Pl} {b c : Bool} (ok : p.Ok) (okq : q.Ok) (fx : PlanFx K) (h : Q (.bl (p.eqB q)) M) : sp_Plan___eq__ K [planB K b p, planB K c q] M Q E := ⟨_, _, rfl, p, b, ok, rfl, fx, .inl ⟨q, c, okq, rfl, h⟩⟩
theorem c_eqT {p : Pl} {b : Bool} {y : D} (ok : p.Ok) (fx : PlanFx K) (hy : tyD M y = some "tuple") (h : Q (.bl false) M) : sp_Plan___eq__ K [planB K b p, y] M Q E := ⟨_, _, rfl, p, b, ok, rfl, fx, .inr ⟨hy, h⟩⟩
theorem i_own {neg : Bool} {p q : Pl} {b c : Bool} (ok : p.Ok) (okq : q.Ok) (fx : PlanFx K) (h : Q (.bl (if neg then !(p.eqB q) else p.eqB q)) M) : rdOwn K (He.ga K "Plan") (sp_Plan___eq__ K) neg (planB K b p) (planB K c q) M Q :=
  ⟨_, rfl, .inl ⟨_, _, rfl, fx.1, first_own⟩, c_eq ok okq fx ⟨_, rfl, h⟩⟩
theorem i_ownT {neg : Bool} {p : Pl} {b : Bool} {y : D} (ok : p.Ok) (fx : PlanFx K) (hy : tyD M y = some "tuple") (h : Q (.bl (if neg then true else false)) M) : rdOwn K (He.ga K "Plan") (sp_Plan___eq__ K) neg (planB K b p) y M Q :=
  ⟨_, rfl, .inr ⟨_, hy, first_tuple⟩, c_eqT ok fx hy ⟨_, rfl, by cases neg <;> exact h⟩⟩
end
end BB

set_option maxHeartbeats 4000000
namespace BB
open L2 PySem PySem.Spec PyProof.Rows
local macro_rules | `(tactic| walk_at "bb") => `(tactic| first
  | (with_reducible refine i_c ?_) | (with_reducible refine i_n ?_) | (with_reducible refine i_op ?_) | (with_reducible refine i_cons ?_) | (with_reducible refine i_nil ?_) | (with_reducible refine i_cb ?_)
  | (with_reducible refine i_seq ?_) | (with_reducible refine i_set ?_) | (with_reducible refine i_ret ?_) | (with_reducible refine i_if ?_) | (with_reducible refine i_drop ?_) | (with_reducible refine i_par ?_) | (with_reducible refine i_setF ?_) | (with_reducible refine i_raise ?_) | (with_reducible refine i_raiseI ?_) | (with_reducible refine i_asg ?_)
  | (with_reducible refine i_test ?_) | (with_reducible refine i_chain ?_) | (with_reducible refine i_tru ?_) | (with_reducible refine i_and ?_) | (with_reducible refine i_or ?_) | (with_reducible refine i_not ?_)
  | (with_reducible refine i_andv ?_) | (with_reducible refine i_orv ?_) | (with_reducible refine i_notv ?_) | (with_reducible refine i_ifx ?_) | (with_reducible refine i_tup ?_) | (with_reducible refine i_lst ?_) | (with_reducible refine i_lstM ?_)
  | (with_reducible refine i_neg ?_) | (with_reducible refine i_call ?_) | (with_reducible refine i_callK ?_) | (with_reducible refine i_meth ?_) | (with_reducible refine i_fld ?_) | (with_reducible refine i_tupIx ?_) | (with_reducible refine i_app ?_)
  | (with_reducible refine i_join ?_) | (with_reducible refine i_sl ?_) | (with_reducible refine i_part ?_) | (with_reducible refine i_nopart ?_) | (with_reducible refine i_next ?_) | (with_reducible refine i_retN ?_)
  | (with_reducible refine i_gname ?_) | (with_reducible refine i_gcons ?_) | (with_reducible refine i_gnil ?_) | (with_reducible refine i_seqI ?_) | (with_reducible refine i_rng1 ?_) | (with_reducible refine i_enum ?_) | (with_reducible refine i_zip2 ?_)
  | (with_reducible refine i_yes ?_) | (with_reducible refine i_for ?_) | (with_reducible refine i_lc ?_)
  | ((with_reducible refine i_var (d := ?bbd) ?bbh ?bbq); (case bbh => rfl)) | ((with_reducible refine i_rdo (d := ?bbd) ?bbh ?bbq); (case bbh => rfl); (try dsimp only)) | ((with_reducible refine i_rd1 (d := ?bbd) ?bbh ?bbq); (case bbh => rfl); (try dsimp only))
  | (with_reducible refine i_itt ?_) | (with_reducible refine i_nf ?_) | (with_reducible refine i_nt ?_) | (with_reducible refine i_itf ?_)
  | ((with_reducible show rdIsi _ _ _); first | refine i_isi rfl kb_int_int ?_ | refine i_isi rfl kb_int_bool ?_ | refine i_isi rfl kb_str_str ?_ | refine i_isi rfl kb_tup_tup ?_)
  | (with_reducible refine ⟨_, rfl, ?_⟩)
  | ((with_reducible show wkD _ _ _); first | refine wk_tup ?_ | refine wk_lst ?_ | refine wk_str ?_)
  | ((with_reducible show rdEq _ _ _ _); refine i_eqI ?_) | ((with_reducible show rdNe _ _ _ _); refine i_neI ?_)
  | ((with_reducible show ite _ _ _); refine i_itt ?_) | ((with_reducible show ite _ _ _); refine i_itf ?_))
local macro_rules | `(tactic| walk_at "bbs") => `(tactic| repeat walk_at "bb")

section
variable {K : PySem.W.Frag} {ds : List D} {M : Mem} {Q : DKt} {E : DX}
/-! ### what a plan tells -/
theorem py_told {b : Bool} {p : Pl} : pyOf M (.lst [nmD b p.letters, namesD p.signs, rowsD' p.rooms, .int (p.rooms.length : Nat)]) = some (.list [.tuple (p.letters.map PyData.str), .tuple (p.signs.map PyData.str), rowsP p.rooms, .int (p.rooms.length : Nat)]) := by
  show toPy (.lst [nmD b p.letters, nmD true p.signs, rowsD' p.rooms, .int (p.rooms.length : Nat)]) = _
  have hr : toPy (rowsD' p.rooms) = some (rowsP p.rooms) := py_rooms (M := M) p.rooms
  rw [toPy, toPys, toPys, toPys, toPys, py_names, py_names, hr, toPy, toPys]
  rfl
theorem repr_told {p : Pl} (ok : p.Ok) : ReprOk (.list [.tuple (p.letters.map PyData.str), .tuple (p.signs.map PyData.str), rowsP p.rooms, .int (p.rooms.length : Nat)]) := by
  have hi := ok.hi
  have h1 := ok.ls.2.2.2
  have h2 := ok.ss.2.2.2
  refine Rb.ok (n := 100000) (k := 4) (Rb.mono (Rb.list (n := 20000) (k := 3) (xs := [.tuple (p.letters.map PyData.str), .tuple (p.signs.map PyData.str), rowsP p.rooms, .int (p.rooms.length : Nat)]) fun x hx => ?_) (by show 4 * (20000 + 2) + 3 ≤ 100000; omega) (Nat.le_refl _)) (by omega) (by omega)
  simp only [List.mem_cons, List.not_mem_nil, or_false] at hx
  rcases hx with rfl | rfl | rfl | rfl
  · exact (Rb.names ok.ls.1).mono (by omega) (by omega)
  · exact (Rb.names ok.ss.1).mono (by omega) (by omega)
  · exact Rb.rooms ok
  · exact (Rb.nat (by omega)).mono (by omega) (by omega)
def gapB (r : List Door) : Bool := r.any Option.isNone
theorem any_gap (r : List Door) : ((r.map doorP).any fun z => PyData.eqv z .none) = gapB r := by
  unfold gapB
  rw [List.any_map]
  congr 1
  funext d
  cases d with
  | none => rfl
  | some p => obtain ⟨s, n⟩ := p; rfl
theorem py_row (r : List Door) : pyOf M (.tup (r.map doorD)) = some (.tuple (r.map doorP)) := by
  show toPy (.tup (r.map doorD)) = _
  rw [toPy, toPys_map toPy_door]; rfl
theorem row_shaped {r : List Door} (h : ∀ s n, some (s, n) ∈ r → PyData.strOk s = true) : SeqAt.shaped (.list (r.map doorP)) = true := by
  unfold SeqAt.shaped
  refine Bool.and_eq_true_iff.mpr ⟨?_, decide_eq_true ?_⟩
  · rw [PyData.canLay0]
    refine lay_all fun y hy => ?_
    obtain ⟨d, hd, rfl⟩ := List.mem_map.mp hy
    exact (door_lay fun s n e => h s n (e ▸ hd)).1
  · rw [PyData.depth]
    have : PyData.depthAll (r.map doorP) ≤ 1 := depth_all fun y hy => by
      obtain ⟨d, hd, rfl⟩ := List.mem_map.mp hy
      exact (door_lay fun s n e => h s n (e ▸ hd)).2
    omega
def gapsP (rs : List (List Door)) : PyData := .list (rs.map fun r => .tuple (r.map doorP))
theorem py_gaps (rs : List (List Door)) : pyOf M (.lst (rs.map fun r => .tup (r.map doorD))) = some (gapsP rs) := by
  show toPy (.lst (rs.map fun r => .tup (r.map doorD))) = _
  rw [toPy, toPys_map (g := fun r : List Door => PyData.tuple (r.map doorP)) fun r => ?_]
  · rfl
  · show toPy (.tup (r.map doorD)) = _
    rw [toPy, toPys_map toPy_door]; rfl
theorem shaped_gaps {rs : List (List Door)} (h : DoorsOk rs) : SeqAt.shaped (gapsP rs) = true := by
  have h1 := shaped_rooms h
  unfold gapsP
  unfold rowsP at h1
  unfold SeqAt.shaped at h1 ⊢
  simp only [PyData.canLay0, PyData.depth] at h1 ⊢
  exact h1
theorem eqv_gaps (rs : List (List Door)) : PyData.eqv (gapsP rs) (.list []) = rs.isEmpty := by
  unfold gapsP
  cases rs with
  | nil => rfl
  | cons r rs => rw [List.map_cons, PyData.eqv, PyData.eqvAll]; rfl
theorem full_gaps (p : Pl) : (p.rooms.filter gapB).isEmpty = p.fullB := by
  unfold Pl.fullB
  generalize p.rooms = rs
  induction rs with
  | nil => rfl
  | cons r rs ih =>
    have hr : (r.all Option.isSome) = !gapB r := by
      unfold gapB
      induction r with
      | nil => rfl
      | cons d r ih2 => rw [List.all_cons, ih2, List.any_cons, Bool.not_or]; cases d <;> rfl
    rw [List.all_cons, hr, List.filter_cons]
    cases gapB r with
    | true => rfl
    | false => rw [if_neg Bool.false_ne_true, ih]; rfl
theorem lw__law_right (h : sp__law_right K ds M Q E) : rd__law_right K (wd E) (ends Q) (startD ["_law_yard", "_law_parts_here", "_law_names_here", "_law_marks", "_law_halls", "_law_parts_told", "_law_gaps", "_law_doors"] ds) M := by
  obtain ⟨o, y, rfl, p, b, ok, rfl, rfl, q⟩ := h
  have hs := sizeLine_eq
  have hi := ok.hi
  unfold rd__law_right
  walk_at "bbs"
  refine i_gtup rfl ?_
  walk_at "bbs"
  refine .done ?_
  walk_at "bbs"
  refine ⟨no_letters, ?_⟩
  walk_at "bbs"
  refine c_letters ?_
  walk_at "bbs"
  refine ⟨no_signs, ?_⟩
  walk_at "bbs"
  refine c_signs ?_
  walk_at "bbs"
  refine ⟨no_rooms, ?_⟩
  walk_at "bbs"
  refine c_rooms ?_
  walk_at "bbs"
  refine i_lenP (by omega) ?_
  walk_at "bbs"
  refine ⟨by show 4 ≤ sizeLine; omega, ?_⟩
  refine .done ?_
  walk_at "bbs"
  refine i_repr py_told rfl (repr_told ok) ?_
  walk_at "bbs"
  refine ⟨by show 4 ≤ sizeLine; omega, ?_⟩
  walk_at "bbs"
  rw [List.length_map]
  refine i_repr py_told rfl (repr_told ok) ?_
  refine i_neShown (repr_told ok) ?_
  walk_at "bbs"
  refine .done ?_
  walk_at "bbs"
  refine ⟨by rw [List.length_map]; omega, fun i acc M' => M' = M ∧ acc = (((p.rooms.take i).filter gapB).map fun r => .tup (r.map doorD)), ⟨rfl, rfl⟩, fun _ _ _ _ => trivial, ?_, ?_⟩
  · rintro i d acc M2 hd ⟨rfl, rfl⟩
    rw [List.getElem?_map] at hd
    cases hr : p.rooms[i]? with
    | none => rw [hr] at hd; cases hd
    | some row =>
      rw [hr] at hd
      cases hd
      have hmem := List.mem_of_getElem? hr
      walk_at "bbs"
      refine ⟨.none, row.map doorP, rfl, .inl (py_row row), rfl, row_shaped (fun s n e => ok.doorsOk row hmem s n e), ?_⟩
      rw [if_neg Bool.false_ne_true, any_gap]
      refine ⟨_, rfl, ?_⟩
      have e1 : p.rooms.take (i + 1) = p.rooms.take i ++ [row] := by rw [List.take_succ, hr, Option.toList_some]
      cases hg : gapB row with
      | true =>
        walk_at "bbs"
        refine ⟨rfl, ?_⟩
        rw [e1, List.filter_append, List.filter_cons, hg, if_pos rfl, List.filter_nil, List.map_append]
        rfl
      | false =>
        walk_at "bbs"
        refine ⟨rfl, ?_⟩
        rw [e1, List.filter_append, List.filter_cons, hg, if_neg Bool.false_ne_true, List.filter_nil, List.append_nil]
  · rintro acc M2 ⟨rfl, rfl⟩
    rw [List.length_map, List.take_length]
    refine .done ?_
    walk_at "bbs"
    refine ⟨no_isfull, ?_⟩
    walk_at "bbs"
    refine c_is_full ok ?_
    walk_at "bbs"
    refine ⟨by show 0 ≤ sizeLine; omega, ?_⟩
    walk_at "bbs"
    refine ⟨_, .list [], py_gaps _, rfl, shaped_gaps (fun r hr => ok.doorsOk r ((List.mem_filter.mp hr).1)), rfl, ?_⟩
    rw [eqv_gaps, full_gaps]
    refine i_eqSame (p := .bool p.fullB) rfl rfl rfl ?_
    exact .done q
theorem c_right {p : Pl} {b : Bool} (ok : p.Ok) (q : Q (.bl true) M) : sp__law_right K [planB K b p, partsB b p] M Q E := ⟨_, _, rfl, p, b, ok, rfl, rfl, q⟩
end
end BB

set_option maxHeartbeats 4000000
namespace BB
open L2 PySem PySem.Spec PyProof.Rows
local macro_rules | `(tactic| walk_at "bb") => `(tactic| first
  | (with_reducible refine i_c ?_) | (with_reducible refine i_n ?_) | (with_reducible refine i_op ?_) | (with_reducible refine i_cons ?_) | (with_reducible refine i_nil ?_) | (with_reducible refine i_cb ?_)
  | (with_reducible refine i_seq ?_) | (with_reducible refine i_set ?_) | (with_reducible refine i_ret ?_) | (with_reducible refine i_if ?_) | (with_reducible refine i_drop ?_) | (with_reducible refine i_par ?_) | (with_reducible refine i_setF ?_) | (with_reducible refine i_raise ?_) | (with_reducible refine i_raiseI ?_) | (with_reducible refine i_asg ?_)
  | (with_reducible refine i_test ?_) | (with_reducible refine i_chain ?_) | (with_reducible refine i_tru ?_) | (with_reducible refine i_and ?_) | (with_reducible refine i_or ?_) | (with_reducible refine i_not ?_)
  | (with_reducible refine i_andv ?_) | (with_reducible refine i_orv ?_) | (with_reducible refine i_notv ?_) | (with_reducible refine i_ifx ?_) | (with_reducible refine i_tup ?_) | (with_reducible refine i_lst ?_) | (with_reducible refine i_lstM ?_)
  | (with_reducible refine i_neg ?_) | (with_reducible refine i_call ?_) | (with_reducible refine i_callK ?_) | (with_reducible refine i_meth ?_) | (with_reducible refine i_fld ?_) | (with_reducible refine i_tupIx ?_) | (with_reducible refine i_app ?_)
  | (with_reducible refine i_join ?_) | (with_reducible refine i_sl ?_) | (with_reducible refine i_part ?_) | (with_reducible refine i_nopart ?_) | (with_reducible refine i_next ?_) | (with_reducible refine i_retN ?_)
  | (with_reducible refine i_gname ?_) | (with_reducible refine i_gcons ?_) | (with_reducible refine i_gnil ?_) | (with_reducible refine i_seqI ?_) | (with_reducible refine i_rng1 ?_) | (with_reducible refine i_enum ?_) | (with_reducible refine i_zip2 ?_)
  | (with_reducible refine i_yes ?_) | (with_reducible refine i_for ?_) | (with_reducible refine i_lc ?_)
  | ((with_reducible refine i_var (d := ?bbd) ?bbh ?bbq); (case bbh => rfl)) | ((with_reducible refine i_rdo (d := ?bbd) ?bbh ?bbq); (case bbh => rfl); (try dsimp only)) | ((with_reducible refine i_rd1 (d := ?bbd) ?bbh ?bbq); (case bbh => rfl); (try dsimp only))
  | (with_reducible refine i_itt ?_) | (with_reducible refine i_nf ?_) | (with_reducible refine i_nt ?_) | (with_reducible refine i_itf ?_)
  | ((with_reducible show rdIsi _ _ _); first | refine i_isi rfl kb_int_int ?_ | refine i_isi rfl kb_int_bool ?_ | refine i_isi rfl kb_str_str ?_ | refine i_isi rfl kb_tup_tup ?_)
  | (with_reducible refine ⟨_, rfl, ?_⟩)
  | ((with_reducible show wkD _ _ _); first | refine wk_tup ?_ | refine wk_lst ?_ | refine wk_str ?_)
  | ((with_reducible show rdEq _ _ _ _); refine i_eqI ?_) | ((with_reducible show rdNe _ _ _ _); refine i_neI ?_)
  | ((with_reducible show ite _ _ _); refine i_itt ?_) | ((with_reducible show ite _ _ _); refine i_itf ?_))
local macro_rules | `(tactic| walk_at "bbs") => `(tactic| repeat walk_at "bb")

section
variable {K : PySem.W.Frag} {ds : List D} {M : Mem} {Q : DKt} {E : DX}
/-! ### parts with one thing otherwise -/
theorem cut_m1 {α : Type} {xs : List α} (h : xs ≠ []) : cutD xs none (some (-1)) = xs.dropLast := by
  have hp : 0 < xs.length := List.length_pos_iff.mpr h
  have e : HT.sIx xs.length xs.length (some (-1)) = xs.length - 1 := by
    unfold HT.sIx
    simp only [show ((-1 : Int) < 0) = True from eq_true (by decide), if_true]
    omega
  unfold cutD
  rw [HT.sIx_none, List.drop_zero, e, Nat.sub_zero, List.dropLast_eq_take]
def Pl.withRow (p : Pl) (at_ : Nat) (row : List Door) : Pl := { p with rooms := (p.rooms.take at_ ++ [row]) ++ p.rooms.drop (at_ + 1) }
theorem Pl.Ok.withRow {p : Pl} (ok : p.Ok) {at_ : Nat} {row : List Door} (h : at_ < p.rooms.length) (hl : row.length = p.letters.length) (hd : ∀ s n, some (s, n) ∈ row → s ∈ p.signs ∧ n < p.rooms.length) : (p.withRow at_ row).Ok := by
  have hlen : (p.withRow at_ row).rooms.length = p.rooms.length := by
    show ((p.rooms.take at_ ++ [row]) ++ p.rooms.drop (at_ + 1)).length = _
    rw [List.length_append, List.length_append, List.length_take, List.length_drop, List.length_singleton]
    omega
  have hmem : ∀ r ∈ (p.withRow at_ row).rooms, r = row ∨ r ∈ p.rooms := fun r hr => by
    have hr : r ∈ (p.rooms.take at_ ++ [row]) ++ p.rooms.drop (at_ + 1) := hr
    rcases List.mem_append.mp hr with hr | hr
    · rcases List.mem_append.mp hr with hr | hr
      · exact .inr (List.mem_of_mem_take hr)
      · exact .inl (List.mem_singleton.mp hr)
    · exact .inr (List.mem_of_mem_drop hr)
  refine ⟨ok.ls, ok.ss, by rw [hlen]; exact ok.lo, by rw [hlen]; exact ok.hi, fun r hr => ?_, fun r hr s n hs => ?_⟩
  · rcases hmem r hr with rfl | hr
    · exact hl
    · exact ok.row r hr
  · rw [hlen]
    rcases hmem r hr with rfl | hr
    · exact hd s n hs
    · exact ok.door r hr s n hs
def Pl.longer (p : Pl) : Pl := { p with rooms := p.rooms ++ p.rooms.take 1 }
theorem Pl.Ok.longer {p : Pl} (ok : p.Ok) (h : p.rooms.length < 36) : p.longer.Ok := by
  have hlen : p.longer.rooms.length = p.rooms.length + 1 := by
    show (p.rooms ++ p.rooms.take 1).length = _
    rw [List.length_append, List.length_take]
    have := ok.lo
    omega
  have hmem : ∀ r ∈ p.longer.rooms, r ∈ p.rooms := fun r hr => by
    have hr : r ∈ p.rooms ++ p.rooms.take 1 := hr
    rcases List.mem_append.mp hr with hr | hr
    · exact hr
    · exact List.mem_of_mem_take hr
  refine ⟨ok.ls, ok.ss, by rw [hlen]; omega, by rw [hlen]; omega, fun r hr => ok.row r (hmem r hr), fun r hr s n hs => ?_⟩
  obtain ⟨k1, k2⟩ := ok.door r (hmem r hr) s n hs
  exact ⟨k1, by rw [hlen]; omega⟩
def Pl.withLast (p : Pl) (z : Str) : Pl := { p with letters := p.letters.dropLast ++ [z] }
theorem ltS_trans {x y z : Str} (h : ltS x y = true) (k : ltS y z = true) : ltS x z = true :=
  decide_eq_true (List.lt_trans (of_decide_eq_true h) (of_decide_eq_true k))
theorem Pl.Ok.withLast {p : Pl} (ok : p.Ok) {z l0 : Str} (hz : isNameB z = true) (hl : (("" : Str) :: p.letters.dropLast).getLast? = some l0) (h : ltS l0 z = true) : (p.withLast z).Ok := by
  have hne : p.letters ≠ [] := fun e => by have := ok.ls.2.2.1; rw [e] at this; simp at this
  have hp : 0 < p.letters.length := List.length_pos_iff.mpr hne
  have hlen : (p.withLast z).letters.length = p.letters.length := by
    show (p.letters.dropLast ++ [z]).length = _
    rw [List.length_append, List.length_dropLast, List.length_singleton]
    omega
  have hpw : p.letters.dropLast.Pairwise (fun x y => ltS x y = true) := ok.ls.2.1.sublist (List.dropLast_sublist _)
  refine ⟨⟨fun y hy => ?_, ?_, by rw [hlen]; exact ok.ls.2.2.1, by rw [hlen]; exact ok.ls.2.2.2⟩, ok.ss, ok.lo, ok.hi, fun r hr => by rw [hlen]; exact ok.row r hr, ok.door⟩
  · have hy : y ∈ p.letters.dropLast ++ [z] := hy
    rcases List.mem_append.mp hy with hy | hy
    · exact ok.ls.1 y ((List.dropLast_sublist _).subset hy)
    · rw [List.mem_singleton.mp hy]; exact hz
  · show (p.letters.dropLast ++ [z]).Pairwise _
    refine List.pairwise_append.mpr ⟨hpw, List.pairwise_singleton .., fun x hx y hy => ?_⟩
    rw [List.mem_singleton.mp hy]
    generalize p.letters.dropLast = ys at hl hpw hx
    have hys : ys ≠ [] := List.ne_nil_of_mem hx
    have e : ys.getLast hys = l0 := by
      rw [List.getLast?_cons, List.getLast?_eq_some_getLast hys] at hl
      simpa using hl
    have hsp := List.dropLast_concat_getLast hys
    rw [← hsp] at hpw hx
    rw [e] at hpw hx
    rcases List.mem_append.mp hx with hx | hx
    · exact ltS_trans ((List.pairwise_append.mp hpw).2.2 x hx l0 List.mem_cons_self) h
    · rw [List.mem_singleton.mp hx]; exact h
theorem atT_last {zs : List Str} {l : Str} (h : zs.getLast? = some l) : ixD M (.tup (zs.map D.str)) (.int (-1)) = some (.str l) := by
  have hne : zs ≠ [] := fun e => by rw [e] at h; cases h
  have e := List.dropLast_concat_getLast hne
  have el : zs.getLast hne = l := by rw [List.getLast?_eq_some_getLast hne] at h; exact Option.some.inj h
  have := at_last (M := M) (zs := zs.dropLast) (l := zs.getLast hne)
  rw [e, el] at this
  exact this
theorem fillRow_ok {p : Pl} (ok : p.Ok) {row : List Door} (hr : row ∈ p.rooms) {z : Str} (hz : z ∈ p.signs) : (row.map fun d => match d with | none => some (z, 0) | some x => some x).length = p.letters.length ∧ ∀ s n, some (s, n) ∈ (row.map fun d => match d with | none => some (z, 0) | some x => some x) → s ∈ p.signs ∧ n < p.rooms.length := by
  refine ⟨by rw [List.length_map]; exact ok.row row hr, fun s n h => ?_⟩
  obtain ⟨d, hd, e⟩ := List.mem_map.mp h
  cases d with
  | none =>
    have e := Option.some.inj e
    obtain ⟨e1, e2⟩ := Prod.mk.inj e
    subst e1 e2
    exact ⟨hz, ok.lo⟩
  | some x =>
    have e := Option.some.inj e
    subst e
    exact ok.door row hr s n hd
theorem rep_non (n : Nat) : (List.replicate n [D.non]).flatten = (List.replicate n (none : Door)).map doorD := by
  induction n with
  | zero => rfl
  | succ n ih => rw [List.replicate_succ, List.flatten_cons, ih, List.replicate_succ]; rfl
def tl_other (K : PySem.W.Frag) (Wd : DW) : DS :=
  (dSeq (dIfS (dTest (dOp (rdEq) (dN (dVar 5)) (dN (dC (.int 1))))) (dSeq (dSet 9 (dLc (dSeqI (dN (dOp (rdO ixD) (dN (dVar 4)) (dVar 6)))) (gdName 11) dYes (dOp (rdO ixD) (dN (dLst (dCons (dVar 11) (dCons (dTup (dCons (dOp (rdO ixD) (dN (dVar 3)) (dC (.int 0))) (dCons (dC (.int 0)) (dNil)))) (dNil))))) (dCB (rd1 intOfD) (dCons (dN (dOp (rdO isD) (dN (dVar 11)) (dN (dC .non)))) (dNil)))) [11]))
  (dRet (dTup (dCons (dVar 2) (dCons (dVar 3) (dCons (dOp (rdO addD) (dN (dOp (rdO addD) (dN (dSl (dN (dVar 4)) dNoPart (dPart (dVar 6)))) (dN (dTup (dCons (dCB (rd1 tupD) (dCons (dN (dVar 9)) (dNil))) (dNil)))))) (dN (dSl (dN (dVar 4)) (dPart (dOp (rdO addD) (dN (dVar 6)) (dN (dC (.int 1))))) dNoPart))) (dNil))))))) dNext)
  (dSeq (dIfS (dTest (dOp (rdEq) (dN (dVar 5)) (dN (dC (.int 2))))) (dRet (dTup (dCons (dVar 2) (dCons (dVar 3) (dCons (dOp (rdO addD) (dN (dOp (rdO addD) (dN (dSl (dN (dVar 4)) dNoPart (dPart (dVar 6)))) (dN (dTup (dCons (dOp (rdO mulE) (dN (dTup (dCons (dC .non) (dNil)))) (dN (dCB (rd1 lenD) (dCons (dN (dVar 2)) (dNil))))) (dNil)))))) (dN (dSl (dN (dVar 4)) (dPart (dOp (rdO addD) (dN (dVar 6)) (dN (dC (.int 1))))) dNoPart))) (dNil)))))) dNext)
  (dSeq (dIfS ((dAnd (dTest (dOp (rdEq) (dN (dVar 5)) (dN (dC (.int 3))))) (dTest (dOp (rdO (cmpD (fun i j => decide (i < j)) ltS)) (dN (dCB (rd1 lenD) (dCons (dN (dVar 4)) (dNil)))) (dN (dC (.int 36))))))) (dRet (dTup (dCons (dVar 2) (dCons (dVar 3) (dCons (dOp (rdO addD) (dN (dVar 4)) (dN (dSl (dN (dVar 4)) dNoPart (dPart (dC (.int 1)))))) (dNil)))))) dNext)
  (dSeq (dIfS (dTest (dOp (rdEq) (dN (dVar 5)) (dN (dC (.int 4))))) (dSeq (dSet 9 (dOp (rdO addD) (dN (dTup (dCons (dTup (dCons (dOp (rdO ixD) (dN (dVar 3)) (dCall Wd (sp__law_draw K) [] (dCons (dVar 0) (dCons (dCB (rd1 lenD) (dCons (dN (dVar 3)) (dNil))) (dNil))))) (dCons (dCall Wd (sp__law_draw K) [] (dCons (dVar 0) (dCons (dCB (rd1 lenD) (dCons (dN (dVar 4)) (dNil))) (dNil)))) (dNil)))) (dNil)))) (dN (dSl (dN (dOp (rdO ixD) (dN (dVar 4)) (dVar 6))) (dPart (dC (.int 1))) dNoPart))))
  (dRet (dTup (dCons (dVar 2) (dCons (dVar 3) (dCons (dOp (rdO addD) (dN (dOp (rdO addD) (dN (dSl (dN (dVar 4)) dNoPart (dPart (dVar 6)))) (dN (dTup (dCons (dVar 9) (dNil)))))) (dN (dSl (dN (dVar 4)) (dPart (dOp (rdO addD) (dN (dVar 6)) (dN (dC (.int 1))))) dNoPart))) (dNil))))))) dNext)
  (dRet (dVar 1))))))
theorem cut_1 {α : Type} (xs : List α) : cutD xs (some 1) none = xs.drop 1 := by rw [show (1 : Int) = ((1 : Nat) : Int) from rfl, cut_from]
theorem ix_first {d : D} {ds : List D} : ixD M (.lst (d :: ds)) (.int 0) = some d := by
  show atI (d :: ds) 0 = _
  unfold atI ixN
  simp
theorem head_ok {p : Pl} (ok : p.Ok) {row : List Door} (hr : row ∈ p.rooms) {z : Str} (hz : z ∈ p.signs) {n : Nat} (hn : n < p.rooms.length) : (some (z, n) :: row.drop 1).length = p.letters.length ∧ ∀ s m, some (s, m) ∈ (some (z, n) :: row.drop 1) → s ∈ p.signs ∧ m < p.rooms.length := by
  refine ⟨?_, fun s m h => ?_⟩
  · rw [List.length_cons, List.length_drop, ok.row row hr]
    have := ok.ls.2.2.1
    omega
  · rcases List.mem_cons.mp h with h | h
    · obtain ⟨e1, e2⟩ := Prod.mk.inj (Option.some.inj h)
      rw [e1, e2]
      exact ⟨hz, hn⟩
    · exact ok.door row hr s m (List.mem_of_mem_drop h)
theorem ints_ne {x y : Int} (h : x ≠ y) (q : Q (.bl false) M) : rdEq (.int x) (.int y) M Q := i_eqI (by rw [decide_eq_false h]; exact q)
theorem cut_at {rs : List (List Door)} {n : Nat} : cutD (rs.map fun r => D.tup (r.map doorD)) none (some (n : Int)) = (rs.take n).map fun r => D.tup (r.map doorD) := by rw [cut_to, List.map_take]
theorem cut_past {rs : List (List Door)} {n : Nat} : cutD (rs.map fun r => D.tup (r.map doorD)) (some ((n : Int) + 1)) none = (rs.drop (n + 1)).map fun r => D.tup (r.map doorD) := by
  rw [show ((n : Int) + 1) = ((n + 1 : Nat) : Int) by omega, cut_from, List.map_drop]
def fillD (z : Str) : Door → Door
  | none => some (z, 0)
  | some x => some x
theorem fill_ok {p : Pl} (ok : p.Ok) {row : List Door} (hr : row ∈ p.rooms) {z : Str} (hz : z ∈ p.signs) : (row.map (fillD z)).length = p.letters.length ∧ ∀ s n, some (s, n) ∈ row.map (fillD z) → s ∈ p.signs ∧ n < p.rooms.length := fillRow_ok ok hr hz
theorem row_end {p : Pl} (ok : p.Ok) {at_ : Nat} {row : List Door} (hat : at_ < p.rooms.length) (hl : row.length = p.letters.length) (hd : ∀ s n, some (s, n) ∈ row → s ∈ p.signs ∧ n < p.rooms.length) (q : ∀ (q : Pl) (b : Bool), q.Ok → Q (partsB b q) M) :
    FzV Q (.tup [namesD p.letters, namesD p.signs, .tup (((p.rooms.take at_).map (fun r => D.tup (r.map doorD)) ++ [.tup (row.map doorD)]) ++ (p.rooms.drop (at_ + 1)).map fun r => D.tup (r.map doorD))]) M := by
  have := q (p.withRow at_ row) true (ok.withRow hat hl hd)
  unfold partsB Pl.withRow rowsD' at this
  rw [List.map_append, List.map_append] at this
  exact .done this
theorem other_tail {a c : Addr} {p : Pl} {way : Int} {at_ : Nat} {x7 x8 : Option D} (hm : M a = some (.gen c)) (ok : p.Ok) (hat : at_ < p.rooms.length) (q : ∀ (q : Pl) (b : Bool), q.Ok → Q (partsB b q) M) :
    tl_other K (wd E) (ends Q) [some (.ref a), some (partsD p), some (namesD p.letters), some (namesD p.signs), some (rowsD' p.rooms), some (.int way), some (.int at_), x7, x8, none, none, none] M := by
  have hs := sizeLine_eq
  have hi := ok.hi
  have hlo := ok.lo
  have hl1 := ok.ls.2.2.1
  have hl4 := ok.ls.2.2.2
  have hs2 := ok.ss.2.2.1
  have hs4 := ok.ss.2.2.2
  have hrow : p.rooms[at_]? = some p.rooms[at_] := by simp [hat]
  have hmem := List.getElem_mem hat
  have hrl := ok.row _ hmem
  obtain ⟨z0, hz0, hix0⟩ := ix_strs (M := M) (zs := p.signs) (r := 0) (by omega) (by omega)
  unfold tl_other
  walk_at "bbs"
  by_cases h1 : way = 1
  · rw [decide_eq_true h1]
    walk_at "bbs"
    refine i_rdo (rows_at hrow) ?_
    walk_at "bbs"
    refine ⟨by rw [List.length_map, hrl]; omega, fun i acc M' => M' = M ∧ acc = (((p.rooms[at_]).take i).map (fillD z0)).map doorD, ⟨rfl, rfl⟩, fun _ _ _ _ => trivial, ?_, ?_⟩
    · rintro i d acc M2 hd ⟨rfl, rfl⟩
      rw [List.getElem?_map] at hd
      cases hdr : (p.rooms[at_])[i]? with
      | none => rw [hdr] at hd; cases hd
      | some dr =>
        rw [hdr] at hd
        cases hd
        walk_at "bbs"
        refine i_rdo hix0 ?_
        walk_at "bbs"
        refine ⟨by show 2 ≤ sizeLine; omega, ?_⟩
        walk_at "bbs"
        refine ⟨by show 2 ≤ sizeLine; omega, ?_⟩
        cases dr with
        | none =>
          walk_at "bbs"
          refine ⟨rfl, ?_⟩
          rw [List.take_succ, hdr, Option.toList_some, List.map_append, List.map_append]
          rfl
        | some x =>
          obtain ⟨s, n⟩ := x
          walk_at "bbs"
          refine ⟨rfl, ?_⟩
          rw [List.take_succ, hdr, Option.toList_some, List.map_append, List.map_append]
          rfl
    · rintro acc M2 ⟨rfl, rfl⟩
      rw [List.length_map, List.take_length]
      refine .done ?_
      walk_at "bbs"
      refine ⟨by show 1 ≤ sizeLine; omega, ?_⟩
      walk_at "bbs"
      rw [cut_at]
      refine i_rdoN (addD_tup (by rw [List.length_map, List.length_take]; show _ + 1 ≤ _; omega)) ?_
      walk_at "bbs"
      rw [cut_past]
      refine i_rdoN (addD_tup (by rw [List.length_append, List.length_map, List.length_map, List.length_take, List.length_drop]; show _ + 1 + _ ≤ _; omega)) ?_
      walk_at "bbs"
      refine ⟨by show 3 ≤ sizeLine; omega, ?_⟩
      exact row_end ok hat (fill_ok ok hmem hz0).1 (fill_ok ok hmem hz0).2 q
  · rw [decide_eq_false h1]
    walk_at "bbs"
    refine .done ?_
    walk_at "bbs"
    by_cases h2 : way = 2
    · rw [decide_eq_true h2]
      walk_at "bbs"
      refine ⟨by show 1 ≤ sizeLine; omega, ?_⟩
      walk_at "bbs"
      refine i_rdoN (mulE_tup ⟨by simp, by rw [List.length_map]; omega, by rw [List.length_map]; omega, by simp⟩) ?_
      rw [List.length_map, Int.toNat_natCast, rep_non]
      walk_at "bbs"
      refine ⟨by show 1 ≤ sizeLine; omega, ?_⟩
      rw [cut_at]
      refine i_rdoN (addD_tup (by rw [List.length_map, List.length_take]; show _ + 1 ≤ _; omega)) ?_
      walk_at "bbs"
      rw [cut_past]
      refine i_rdoN (addD_tup (by rw [List.length_append, List.length_map, List.length_map, List.length_take, List.length_drop]; show _ + 1 + _ ≤ _; omega)) ?_
      walk_at "bbs"
      refine ⟨by show 3 ≤ sizeLine; omega, ?_⟩
      exact row_end ok hat (List.length_replicate ..) (fun s n h => by cases (List.mem_replicate.mp h).2) q
    · rw [decide_eq_false h2]
      walk_at "bbs"
      refine .done ?_
      walk_at "bbs"
      by_cases h3 : way = 3
      · rw [decide_eq_true h3]
        walk_at "bbs"
        rw [List.length_map]
        by_cases h5 : (p.rooms.length : Int) < 36
        · rw [decide_eq_true h5]
          walk_at "bbs"
          rw [show (1 : Int) = ((1 : Nat) : Int) from rfl, cut_at]
          refine i_rdoN (addD_tup (by rw [List.length_map, List.length_map, List.length_take]; omega)) ?_
          walk_at "bbs"
          refine ⟨by show 3 ≤ sizeLine; omega, ?_⟩
          have := q p.longer true (ok.longer (by omega))
          unfold partsB Pl.longer rowsD' at this
          rw [List.map_append] at this
          exact .done this
        · rw [decide_eq_false h5]
          walk_at "bbs"
          refine .done ?_
          walk_at "bbs"
          rw [decide_eq_false (by omega)]
          walk_at "bbs"
          refine .done ?_
          walk_at "bbs"
          exact .done (q p true ok)
      · rw [decide_eq_false h3]
        walk_at "bbs"
        refine .done ?_
        walk_at "bbs"
        by_cases h4 : way = 4
        · rw [decide_eq_true h4]
          walk_at "bbs"
          rw [List.length_map]
          refine c_draw hm (by omega) (by omega) fun r5 a5 a6 => ?_
          obtain ⟨z5, hz5, hix5⟩ := ix_strs (M := M) (zs := p.signs) a5 (by omega)
          refine i_rdo hix5 ?_
          walk_at "bbs"
          rw [List.length_map]
          refine c_draw hm (by omega) (by omega) fun r6 a7 a8 => ?_
          obtain ⟨n6, rfl⟩ := Int.eq_ofNat_of_zero_le a7
          walk_at "bbs"
          refine ⟨by show 2 ≤ sizeLine; omega, ?_⟩
          walk_at "bbs"
          refine ⟨by show 1 ≤ sizeLine; omega, ?_⟩
          walk_at "bbs"
          refine i_rdo (rows_at hrow) ?_
          walk_at "bbs"
          rw [cut_1, ← List.map_drop]
          refine i_rdoN (addD_tup (by rw [List.length_map, List.length_drop]; show 1 + _ ≤ _; omega)) ?_
          refine .done ?_
          walk_at "bbs"
          refine ⟨by show 1 ≤ sizeLine; omega, ?_⟩
          rw [cut_at]
          refine i_rdoN (addD_tup (by rw [List.length_map, List.length_take]; show _ + 1 ≤ _; omega)) ?_
          walk_at "bbs"
          rw [cut_past]
          refine i_rdoN (addD_tup (by rw [List.length_append, List.length_map, List.length_map, List.length_take, List.length_drop]; show _ + 1 + _ ≤ _; omega)) ?_
          walk_at "bbs"
          refine ⟨by show 3 ≤ sizeLine; omega, ?_⟩
          exact row_end (row := some (z5, n6) :: p.rooms[at_].drop 1) ok hat (head_ok ok hmem hz5 (by omega)).1 (head_ok ok hmem hz5 (by omega)).2 q
        · rw [decide_eq_false h4]
          walk_at "bbs"
          refine .done ?_
          walk_at "bbs"
          exact .done (q p true ok)
theorem lw__law_otherwise (h : sp__law_otherwise K ds M Q E) : rd__law_otherwise K (wd E) (ends Q) (startD ["_law_state", "_law_parts_here", "_law_names_here", "_law_marks", "_law_halls", "_law_way", "_law_at", "_law_ahead", "_law_more", "_law_doors", "_law_name_here", "_law_door"] ds) M := by
  obtain ⟨o, y, rfl, a, c, p, rfl, hm, rfl, ok, q⟩ := h
  have hs := sizeLine_eq
  have hi := ok.hi
  have hlo := ok.lo
  have hl1 := ok.ls.2.2.1
  have hl4 := ok.ls.2.2.2
  have hs2 := ok.ss.2.2.1
  have hs4 := ok.ss.2.2.2
  have hne : p.letters ≠ [] := fun e => by rw [e] at hl1; simp at hl1
  unfold rd__law_otherwise
  walk_at "bbs"
  refine i_gtup rfl ?_
  walk_at "bbs"
  refine .done ?_
  walk_at "bbs"
  refine c_draw hm (by omega) (by omega) fun way w1 w2 => ?_
  walk_at "bbs"
  rw [List.length_map]
  refine c_draw hm (by omega) (by omega) fun r0 a1 a2 => ?_
  obtain ⟨at_, rfl⟩ := Int.eq_ofNat_of_zero_le a1
  have hat : at_ < p.rooms.length := by omega
  refine .done ?_
  walk_at "bbs"
  refine ⟨by show 1 ≤ sizeLine; omega, ?_⟩
  walk_at "bbs"
  have hc1 : cutD (p.letters.map D.str) none (some (-1)) = p.letters.dropLast.map D.str := by
    rw [cut_m1 (by simpa using hne), List.map_dropLast]
  rw [hc1]
  refine i_rdoN (addD_tup (by rw [List.length_map, List.length_dropLast]; show 1 + _ ≤ _; omega)) ?_
  obtain ⟨l0, hl0⟩ : ∃ l0, (("" : Str) :: p.letters.dropLast).getLast? = some l0 := ⟨_, List.getLast?_eq_some_getLast (by simp)⟩
  obtain ⟨l1, hl1'⟩ : ∃ l1, p.letters.getLast? = some l1 := ⟨_, List.getLast?_eq_some_getLast hne⟩
  have hl1n : isNameB l1 = true := ok.ls.1 l1 (List.mem_of_getLast? hl1')
  rw [show ([D.str ""] ++ p.letters.dropLast.map D.str) = (("" : Str) :: p.letters.dropLast).map D.str from rfl]
  refine .done ?_
  walk_at "bbs"
  refine ⟨by show 2 ≤ sizeLine; omega, ?_⟩
  walk_at "bbs"
  have hzz : ∀ z : Str, (z = "zzzzzz" ∨ z = "zzzzzy") → isNameB z = true := by rintro z (rfl | rfl) <;> decide +kernel
  refine ⟨by show 2 ≤ sizeLine; omega, fun i acc M' => M' = M ∧ ∃ zs : List Str, acc = zs.map D.str ∧ zs.length ≤ i ∧ ∀ z ∈ zs, isNameB z = true ∧ ltS l0 z = true, ⟨rfl, [], rfl, Nat.le_refl _, by simp⟩, fun _ _ _ _ => trivial, ?_, ?_⟩
  · rintro i d acc M2 hd ⟨rfl, zs, rfl, hzl, hzs⟩
    obtain ⟨z, hz, rfl⟩ : ∃ z : Str, (z = "zzzzzz" ∨ z = "zzzzzy") ∧ d = .str z := by
      match i, hd with
      | 0, hd => exact ⟨_, .inl rfl, (Option.some.inj hd).symm⟩
      | 1, hd => exact ⟨_, .inr rfl, (Option.some.inj hd).symm⟩
      | i + 2, hd => simp at hd
    have hzn := hzz z hz
    walk_at "bbs"
    refine i_rdoN (atT_last hl0) ?_
    walk_at "bbs"
    cases hlt : ltS l0 z with
    | false =>
      walk_at "bbs"
      exact ⟨rfl, zs, rfl, by omega, hzs⟩
    | true =>
      walk_at "bbs"
      refine i_rdoN (atT_last hl1') ?_
      refine ⟨.str z, .str l1, rfl, rfl, shaped_str (strOk_name hzn), shaped_str (strOk_name hl1n), ?_⟩
      refine ⟨_, rfl, ?_⟩
      cases PyData.eqv (.str z) (.str l1) with
      | true =>
        walk_at "bbs"
        exact ⟨rfl, zs, rfl, by omega, hzs⟩
      | false =>
        walk_at "bbs"
        refine ⟨rfl, zs ++ [z], by rw [List.map_append]; rfl, by rw [List.length_append, List.length_singleton]; omega, fun y hy => ?_⟩
        rcases List.mem_append.mp hy with hy | hy
        · exact hzs y hy
        · rw [List.mem_singleton.mp hy]; exact ⟨hzn, hlt⟩
  rintro acc M2 ⟨rfl, zs, rfl, hzl, hzs⟩
  refine .done ?_
  walk_at "bbs"
  have hsh : SeqAt.shaped (.list (zs.map PyData.str)) = true := shaped_list fun z hz => strOk_name (hzs z hz).1
  have py0 : pyOf M2 (.lst (zs.map D.str)) = some (.list (zs.map PyData.str)) := by
    show toPy (.lst (zs.map .str)) = _
    rw [toPy, toPys_strs]; rfl
  have e0 : PyData.eqv (.list (zs.map PyData.str)) (.list []) = zs.isEmpty := by
    cases zs with
    | nil => rfl
    | cons z zs => rw [List.map_cons, PyData.eqv, PyData.eqvAll]; rfl
  by_cases hw : way = 0
  · rw [decide_eq_true hw]
    walk_at "bbs"
    refine ⟨by show 0 ≤ sizeLine; omega, ?_⟩
    walk_at "bbs"
    refine ⟨_, .list [], py0, rfl, hsh, rfl, ?_⟩
    rw [e0]
    cases zs with
    | nil =>
      walk_at "bbs"
      exact .done (other_tail hm ok hat q)
    | cons z zs =>
      walk_at "bbs"
      rw [hc1]
      refine i_rdo ix_first ?_
      walk_at "bbs"
      refine ⟨by show 1 ≤ sizeLine; omega, ?_⟩
      refine i_rdoN (addD_tup (by rw [List.length_map, List.length_dropLast]; show _ + 1 ≤ _; omega)) ?_
      walk_at "bbs"
      refine ⟨by show 3 ≤ sizeLine; omega, ?_⟩
      have := q (p.withLast z) false (ok.withLast (hzs z List.mem_cons_self).1 hl0 (hzs z List.mem_cons_self).2)
      have e : partsB false (p.withLast z) = .tup [.tup (p.letters.dropLast.map D.str ++ [.str z]), namesD p.signs, rowsD' p.rooms] := by
        show D.tup [.tup ((p.letters.dropLast ++ [z]).map D.str), namesD p.signs, rowsD' p.rooms] = _
        rw [List.map_append]; rfl
      rw [e] at this
      exact .done this
  · rw [decide_eq_false hw]
    walk_at "bbs"
    exact .done (other_tail hm ok hat q)
theorem c_otherwise {a c : Addr} {p : Pl} (hm : M a = some (.gen c)) (ok : p.Ok) (q : ∀ (q : Pl) (b : Bool), q.Ok → Q (partsB b q) M) : sp__law_otherwise K [.ref a, partsD p] M Q E := ⟨_, _, rfl, a, c, p, rfl, hm, rfl, ok, q⟩
theorem c_init {a : Addr} {p : Pl} {b : Bool} (ok : p.Ok) (hm : M a = some (.ins (He.ga K "Plan") [])) (q : Q .non (mset M a (.ins (He.ga K "Plan") [("own_letters", nmD b p.letters), ("own_signs", namesD p.signs), ("own_rooms", rowsD' p.rooms)]))) : sp_Plan___init__ K [.ref a, nmD b p.letters, namesD p.signs, rowsD' p.rooms] M Q E := ⟨_, _, _, _, rfl, p, b, a, ok, rfl, hm, rfl, rfl, rfl, q⟩
theorem ne_bools {a b : Bool} (h : a = b) (q : Q (.bl false) M) : rdNe (.bl a) (.bl b) M Q := i_neB (by subst h; rw [decide_eq_true rfl]; exact q)
theorem eq_not {a b : Bool} (h : a = b) (q : Q (.bl false) M) : rdEq (.bl (!a)) (.bl b) M Q := ⟨.bool (!a), .bool b, rfl, rfl, rfl, rfl, by
  subst h
  have : PyData.eqv (.bool (!a)) (.bool a) = false := by cases a <;> rfl
  rw [this]; exact q⟩
theorem lw_law (h : sp_law K ds M Q E) : rd_law K (wd E) (ends Q) (startD ["_law_script", "_law_state", "_law_turn", "_law_many", "_law_parts_here", "_law_other", "_law_yard", "_law_beside", "_law_same"] ds) M := by
  obtain ⟨d, rfl, xs, rfl, hlen, h0, fx, q⟩ := h
  have hs := sizeLine_eq
  unfold rd_law
  walk_at "bbs"
  refine c_begun hlen fun a c ha hc hac => ?_
  have hm : (mset (mset M c (.own a)) a (.gen c)) a = some (.gen c) := mset_same
  have hmade := fun {p dx : Addr} {fs : List (Str × D)} {C : Addr} {Q : DKt} => made (M := M) (Q := Q) (a := a) (c := c) (p := p) (dx := dx) (fs := fs) (C := C) h0 hac
  obtain ⟨M0, hM0⟩ : ∃ M0, M0 = mset (mset M c (.own a)) a (.gen c) := ⟨_, rfl⟩
  rw [← hM0] at hm hmade ⊢
  refine .done ?_
  walk_at "bbs"
  refine ⟨by omega, by omega, ?_⟩
  refine ⟨fun i env M' => M' = M0 ∧ ∃ x2 x3 x4 x5 x6 x7 x8 : Option D, env = [some (.frz (xs.map .int)), some (.ref a), x2, x3, x4, x5, x6, x7, x8], ⟨rfl, _, _, _, _, _, _, _, rfl⟩, fun _ _ _ _ => trivial, ?_, ?_⟩
  · rintro i d env M2 hd ⟨rfl, x2, x3, x4, x5, x6, x7, x8, rfl⟩
    obtain ⟨hi, rfl⟩ := rng_at hd
    walk_at "bbs"
    refine c_draw hm (by omega) (by omega) fun r0 a1 a2 => ?_
    walk_at "bbs"
    refine ⟨by show 2 ≤ sizeLine; omega, ?_⟩
    walk_at "bbs"
    refine c_draw hm (by omega) (by omega) fun r1 a3 a4 => ?_
    walk_at "bbs"
    obtain ⟨d2, hd2, e2⟩ := ix_drawn (M := M2) (xs := [.int (1 + r0), .int 36]) (r := r1 / 7) (by omega) (by show r1 / 7 < (2 : Nat); omega)
    obtain ⟨m, rfl, hm1, hm2⟩ : ∃ m : Int, d2 = .int m ∧ 1 ≤ m ∧ m ≤ 36 := by
      simp only [List.mem_cons, List.not_mem_nil, or_false] at hd2
      rcases hd2 with rfl | rfl
      · exact ⟨_, rfl, by omega, by omega⟩
      · exact ⟨_, rfl, by omega, by omega⟩
    refine i_rdo e2 ?_
    refine .done ?_
    walk_at "bbs"
    refine ⟨by show 2 ≤ sizeLine; omega, ?_⟩
    walk_at "bbs"
    refine c_draw hm (by omega) (by omega) fun r2 a5 a6 => ?_
    obtain ⟨d3, hd3, e3⟩ := ix_drawn (M := M2) (xs := ([0, 5] : List Int).map .int) a5 (by show r2 < (2 : Nat); omega)
    obtain ⟨sh, hsh, rfl⟩ := List.mem_map.mp hd3
    have hsh1 : 0 ≤ sh ∧ sh < 1000 := by
      simp only [List.mem_cons, List.not_mem_nil, or_false] at hsh
      omega
    refine i_rdo e3 ?_
    walk_at "bbs"
    refine c_parts (m := m) hm hm1 hm2 (by omega) (by omega) hsh1.1 hsh1.2 fun p ok hrooms => ?_
    refine .done ?_
    walk_at "bbs"
    refine c_otherwise hm ok fun o b oko => ?_
    refine .done ?_
    walk_at "bbs"
    refine i_make ?_
    walk_at "bbs"
    intro pa dx hpa hdx hne
    refine c_init (b := true) ok mset_same ⟨rfl, ?_⟩
    refine hmade hpa hdx hne ?_
    refine i_make ?_
    walk_at "bbs"
    intro pa dx hpa hdx hne
    refine c_init (b := b) oko mset_same ⟨rfl, ?_⟩
    refine hmade hpa hdx hne ?_
    refine .done ?_
    walk_at "bbs"
    refine c_right (b := true) ok ?_
    walk_at "bbs"
    refine c_right (b := b) oko ?_
    walk_at "bbs"
    refine c_right (b := true) ok ?_
    walk_at "bbs"
    refine .done ?_
    walk_at "bbs"
    refine ⟨_, _, py_partsB (b := true) (p := p), py_partsB (b := b) (p := o), shaped_parts ok, shaped_parts oko, ?_⟩
    rw [eqv_parts]
    refine .done ?_
    walk_at "bbs"
    refine i_own (b := true) (c := b) ok oko fx ?_
    rw [if_neg Bool.false_ne_true]
    walk_at "bbs"
    refine ne_bools rfl ?_
    walk_at "bbs"
    refine i_own (b := b) (c := true) oko ok fx ?_
    rw [if_neg Bool.false_ne_true, eqB_comm]
    walk_at "bbs"
    refine ne_bools rfl ?_
    walk_at "bbs"
    refine i_own (b := true) (c := b) ok oko fx ?_
    rw [if_pos rfl]
    walk_at "bbs"
    refine eq_not (eqB_comm p o) ?_
    walk_at "bbs"
    refine .done ?_
    walk_at "bbs"
    refine i_ownT (b := true) ok fx rfl ?_
    rw [if_neg Bool.false_ne_true]
    walk_at "bbs"
    refine i_ownT (b := true) ok fx rfl ?_
    rw [if_neg Bool.false_ne_true]
    walk_at "bbs"
    refine i_make ?_
    walk_at "bbs"
    intro pa dx hpa hdx hne
    refine c_init (b := true) ok mset_same ⟨rfl, ?_⟩
    refine hmade hpa hdx hne ?_
    walk_at "bbs"
    refine i_own (b := true) (c := true) ok ok fx ?_
    rw [if_neg Bool.false_ne_true, eqB_refl]
    walk_at "bbs"
    exact .done ⟨rfl, _, _, _, _, _, _, _, rfl⟩
  · rintro env M2 ⟨rfl, x2, x3, x4, x5, x6, x7, x8, rfl⟩
    refine .done ?_
    walk_at "bbs"
    exact .done (q _)
end
end BB

set_option maxHeartbeats 4000000
namespace BB
open L2 PySem PySem.Spec PyProof.Rows
local macro_rules | `(tactic| walk_at "bb") => `(tactic| first
  | (with_reducible refine i_c ?_) | (with_reducible refine i_n ?_) | (with_reducible refine i_op ?_) | (with_reducible refine i_cons ?_) | (with_reducible refine i_nil ?_) | (with_reducible refine i_cb ?_)
  | (with_reducible refine i_seq ?_) | (with_reducible refine i_set ?_) | (with_reducible refine i_ret ?_) | (with_reducible refine i_if ?_) | (with_reducible refine i_drop ?_) | (with_reducible refine i_par ?_) | (with_reducible refine i_setF ?_) | (with_reducible refine i_raise ?_) | (with_reducible refine i_raiseI ?_) | (with_reducible refine i_asg ?_)
  | (with_reducible refine i_test ?_) | (with_reducible refine i_chain ?_) | (with_reducible refine i_tru ?_) | (with_reducible refine i_and ?_) | (with_reducible refine i_or ?_) | (with_reducible refine i_not ?_)
  | (with_reducible refine i_andv ?_) | (with_reducible refine i_orv ?_) | (with_reducible refine i_notv ?_) | (with_reducible refine i_ifx ?_) | (with_reducible refine i_tup ?_) | (with_reducible refine i_lst ?_) | (with_reducible refine i_lstM ?_)
  | (with_reducible refine i_neg ?_) | (with_reducible refine i_call ?_) | (with_reducible refine i_callK ?_) | (with_reducible refine i_meth ?_) | (with_reducible refine i_fld ?_) | (with_reducible refine i_tupIx ?_) | (with_reducible refine i_app ?_)
  | (with_reducible refine i_join ?_) | (with_reducible refine i_sl ?_) | (with_reducible refine i_part ?_) | (with_reducible refine i_nopart ?_) | (with_reducible refine i_next ?_) | (with_reducible refine i_retN ?_)
  | (with_reducible refine i_gname ?_) | (with_reducible refine i_gcons ?_) | (with_reducible refine i_gnil ?_) | (with_reducible refine i_seqI ?_) | (with_reducible refine i_rng1 ?_) | (with_reducible refine i_enum ?_) | (with_reducible refine i_zip2 ?_)
  | (with_reducible refine i_yes ?_) | (with_reducible refine i_for ?_) | (with_reducible refine i_lc ?_)
  | ((with_reducible refine i_var (d := ?bbd) ?bbh ?bbq); (case bbh => rfl)) | ((with_reducible refine i_rdo (d := ?bbd) ?bbh ?bbq); (case bbh => rfl); (try dsimp only)) | ((with_reducible refine i_rd1 (d := ?bbd) ?bbh ?bbq); (case bbh => rfl); (try dsimp only))
  | (with_reducible refine i_itt ?_) | (with_reducible refine i_nf ?_) | (with_reducible refine i_nt ?_) | (with_reducible refine i_itf ?_)
  | ((with_reducible show rdIsi _ _ _); first | refine i_isi rfl kb_int_int ?_ | refine i_isi rfl kb_int_bool ?_ | refine i_isi rfl kb_str_str ?_ | refine i_isi rfl kb_tup_tup ?_)
  | (with_reducible refine ⟨_, rfl, ?_⟩)
  | ((with_reducible show wkD _ _ _); first | refine wk_tup ?_ | refine wk_lst ?_ | refine wk_str ?_)
  | ((with_reducible show rdEq _ _ _ _); refine i_eqI ?_) | ((with_reducible show rdNe _ _ _ _); refine i_neI ?_)
  | ((with_reducible show ite _ _ _); refine i_itt ?_) | ((with_reducible show ite _ _ _); refine i_itf ?_))
local macro_rules | `(tactic| walk_at "bbs") => `(tactic| repeat walk_at "bb")

section
/-- what the state of the draws keeps -/
def Good (cells : List Int) (p x : Int) : Prop := cells ≠ [] ∧ cells.length ≤ 64 ∧ (∀ z ∈ cells, 0 ≤ z) ∧ 0 ≤ p ∧ 0 ≤ x ∧ x < 2147483647
variable {K : PySem.W.Frag} {F I H : Hp} {M : Mem} {a c : Addr}
def openM (M : Mem) (a c : Addr) (cells : List Int) (p x : Int) : Mem := mset (mset M c (.lst (cells.map .int))) a (.lst [.ref c, .int p, .int x])
theorem openM_a {cells : List Int} {p x : Int} : openM M a c cells p x a = some (.lst [.ref c, .int p, .int x]) := mset_same
theorem openM_c {cells : List Int} {p x : Int} (h : c ≠ a) : openM M a c cells p x c = some (.lst (cells.map .int)) := by unfold openM; rw [mset_ne h, mset_same]
theorem openM_ne {cells : List Int} {p x : Int} {b : Addr} (h1 : b ≠ a) (h2 : b ≠ c) : openM M a c cells p x b = M b := by unfold openM; rw [mset_ne h1, mset_ne h2]
theorem At.explode (A : At K F I M H) (ha : M a = some (.gen c)) : ∃ cells p x, Good cells p x ∧ c ≠ a ∧ M c = some (.own a) ∧ At K F I (openM M a c cells p x) H := by
  obtain ⟨hIa, hca, hMc, cells, p, x, h1, h2, g1, g2, g3, g4, g5, g6⟩ := A.mem _ _ ha
  obtain ⟨hIc, _⟩ := A.mem _ _ hMc
  refine ⟨cells, p, x, ⟨g1, g2, g3, g4, g5, g6⟩, hca, hMc, A.ex, fun b u e => ?_, fun b u e => ?_⟩
  · by_cases hb : b = a
    · subst hb
      rw [openM_a] at e
      cases e
      exact ⟨hIa, _, h1, .cons (.ref c) (.cons (.int p) (.cons (.int x) .nil))⟩
    · by_cases hbc : b = c
      · subst hbc
        rw [openM_c hca] at e
        cases e
        exact ⟨hIc, _, h2, Rps.ofInts cells⟩
      · rw [openM_ne hb hbc] at e
        obtain ⟨q1, q2⟩ := A.mem _ _ e
        refine ⟨q1, q2.mono (Ext.refl I) (fun _ _ _ hv => hv) (fun b' hb' => ?_)⟩
        rw [openM_ne (fun z => by subst z; rw [ha] at hb'; cases hb') (fun z => by subst z; rw [hMc] at hb'; cases hb'; exact hb rfl)]
        exact hb'
  · obtain ⟨q1, q2, q3⟩ := A.fr _ _ e
    exact ⟨q1, q2, by rw [openM_ne (fun z => by subst z; rw [ha] at q3; cases q3) (fun z => by subst z; rw [hMc] at q3; cases q3)]; exact q3⟩
theorem At.implode {cells : List Int} {p x : Int} (A : At K F I (openM M a c cells p x) H) (ha : M a = some (.gen c)) (hMc : M c = some (.own a)) (hca : c ≠ a) (g : Good cells p x) : At K F I M H := by
  obtain ⟨hIa, va, h1, r1⟩ := A.mem _ _ openM_a
  obtain ⟨hIc, vc, h2, r2⟩ := A.mem _ _ (openM_c hca)
  have e2 := r2.ints
  obtain ⟨v1, s1, rfl, k1, r1⟩ := r1.cons_inv
  obtain ⟨v2, v3, rfl, k2, k3⟩ := r1.two_inv
  have e3 := k1.ref_inv
  have e4 := k2.int_inv
  have e5 := k3.int_inv
  subst e2 e3 e4 e5
  refine ⟨A.ex, fun b u e => ?_, fun b u e => ?_⟩
  · by_cases hb : b = a
    · subst hb
      rw [ha] at e
      cases e
      exact ⟨hIa, hca, hMc, cells, p, x, h1, h2, g⟩
    · by_cases hbc : b = c
      · subst hbc
        rw [hMc] at e
        cases e
        exact ⟨hIc, _, h2, .inr ⟨_, rfl⟩⟩
      · obtain ⟨q1, q2⟩ := A.mem b u (by rw [openM_ne hb hbc]; exact e)
        refine ⟨q1, q2.mono (Ext.refl I) (fun _ _ _ hv => hv) (fun b' hb' => ?_)⟩
        by_cases z1 : b' = a
        · subst z1; rw [openM_a] at hb'; cases hb'
        · by_cases z2 : b' = c
          · subst z2; rw [openM_c hca] at hb'; cases hb'
          · rw [openM_ne z1 z2] at hb'; exact hb'
  · obtain ⟨q1, q2, q3⟩ := A.fr _ _ e
    refine ⟨q1, q2, ?_⟩
    have z1 : b ≠ a := fun z => by subst z; rw [openM_a] at q3; cases q3
    have z2 : b ≠ c := fun z => by subst z; rw [openM_c hca] at q3; cases q3
    rw [openM_ne z1 z2] at q3
    exact q3
end

/-! ### a new list of the store by + -/
def rdAddM : RD2 := fun x y M Q => ∃ xs ys, lstOf M x = some xs ∧ lstOf M y = some ys ∧ xs.length + ys.length ≤ sizeLine ∧ ∀ p, M p = none → Q (.ref p) (mset M p (.lst (xs ++ ys)))
theorem snd_addM {X : Cx} : SndR X (rAddA X.K) rdAddM := by
  intro Δ I M H σ env G x y dx dy rx ry Q Qd k ⟨xs, ys, e1, e2, hz, q⟩
  obtain ⟨p1, v1, rfl, h1, r1⟩ := lst_of G.at_ rx e1
  obtain ⟨p2, v2, rfl, h2, r2⟩ := lst_of G.at_ ry e2
  refine .inr (.inr (.inr ⟨p1, p2, v1, v2, rfl, rfl, h1, h2, by rw [r1.length, r2.length]; exact hz, fun p hp => ?_⟩))
  exact k _ _ _ _ _ (Ext.refl I) (G.newM hp (.lst (v1 ++ v2)) (.lst (xs ++ ys)) ⟨_, upd_same, r1.append r2⟩) (.ref p) (q p (G.at_.freeM hp))
theorem wk_frz {M : Mem} {xs : List D} {R : List D → (Mem → Prop) → Mem → Prop} (q : R xs (fun _ => True) M) : wkD M (.frz xs) R := q
theorem i_gsub {da db : DE} {d : D} {env : Env} {M : Mem} {P : Env → Mem → Prop} (q : da env M fun o M1 => db env M1 fun i M2 => ∃ p xs k j, o = .ref p ∧ i = .int k ∧ M2 p = some (.lst xs) ∧ ixN xs.length k = some j ∧ P env (mset M2 p (.lst (xs.set j d)))) : gdSub da db d env M P := q
/-! ### the draws, their state open -/
def spX_draw : SpD := fun ds M1 Q E => ∃ a c M cells p x m, ds = [.ref a, .int m] ∧ c ≠ a ∧ M1 = openM M a c cells p x ∧ Good cells p x ∧ 0 < m ∧ m < 1073741824 ∧
  ∀ cells' p' x' r, Good cells' p' x' → 0 ≤ r → r < m → Q (.int r) (openM M a c cells' p' x')
def rdX_draw : DS :=
  (dSeq (dSet 2 (dOp (rdO ixD) (dN (dVar 0)) (dC (.int 0))))
  (dSeq (dSet 3 (dOp (rdO modD) (dN (dOp (rdO ixD) (dN (dVar 0)) (dC (.int 1)))) (dN (dCB (rd1 lenD) (dCons (dN (dVar 2)) (dNil))))))
  (dSeq (dSet 4 (dOp (rdO ixD) (dN (dVar 2)) (dVar 3)))
  (dSeq (dIfS (dTest (dOp (rdO (intD fun i j => decide (i ≥ j))) (dN (dVar 4)) (dN (dC (.int 1000000000000000000))))) (dSeq (dAsg (dOp (rdO divD) (dN (dVar 4)) (dN (dVar 1))) (gdSub (dVar 2) (dVar 3)))
  (dRet (dOp (rdO modD) (dN (dVar 4)) (dN (dVar 1))))) dNext)
  (dSeq (dAsg (dOp (rdO addD) (dN (dOp (rdO ixD) (dN (dVar 0)) (dC (.int 1)))) (dN (dC (.int 1)))) (gdSub (dVar 0) (dC (.int 1))))
  (dSeq (dAsg (dOp (rdO modD) (dN (dOp (rdO addD) (dN (dOp (rdO addD) (dN (dOp (rdO mulE) (dN (dOp (rdO ixD) (dN (dVar 0)) (dC (.int 2)))) (dN (dC (.int 48271))))) (dN (dVar 4)))) (dN (dC (.int 12345))))) (dN (dC (.int 2147483647)))) (gdSub (dVar 0) (dC (.int 2))))
  (dRet (dOp (rdO modD) (dN (dOp (rdO divD) (dN (dOp (rdO modD) (dN (dOp (rdO mulE) (dN (dOp (rdO ixD) (dN (dVar 0)) (dC (.int 2)))) (dN (dOp (rdO ixD) (dN (dVar 0)) (dC (.int 2)))))) (dN (dC (.int 2147483629))))) (dN (dC (.int 16))))) (dN (dVar 1))))))))))
section
variable {K : PySem.W.Frag} {ds : List D} {M : Mem} {Q : DKt} {E : DX}
theorem ixN_nat {n j : Nat} (h : j < n) : ixN n (j : Int) = some j := by
  unfold ixN
  rw [if_pos (by omega), if_pos (by omega), Int.toNat_natCast]
theorem openM_re {a c : Addr} {cells : List Int} {p x p' x' : Int} : mset (openM M a c cells p x) a (.lst [.ref c, .int p', .int x']) = openM M a c cells p' x' := by unfold openM; rw [mset_mset]
theorem mulE_int {i j : Int} (h : (-(2 ^ 64) < i ∧ i < 2 ^ 64) ∨ (-(2 ^ 64) < j ∧ j < 2 ^ 64)) : mulE M (.int i) (.int j) = some (.int (i * j)) := if_pos h
theorem lwX_draw (h : spX_draw ds M Q E) : rdX_draw (ends Q) (startD ["_law_state", "_law_many", "_law_cells", "_law_at", "_law_cell"] ds) M := by
  obtain ⟨a, c, M0, cells, p, x, m, rfl, hca, rfl, ⟨g1, g2, g3, g4, g5, g6⟩, h0, h1, q⟩ := h
  have hs := sizeLine_eq
  have hlen : 0 < cells.length := List.length_pos_iff.mpr g1
  unfold rdX_draw
  walk_at "bbs"
  refine i_ixRef openM_a (ix_lst (i := 0) rfl) ?_
  refine .done ?_
  walk_at "bbs"
  refine i_ixRef openM_a (ix_lst (i := 1) rfl) ?_
  walk_at "bbs"
  refine i_rd1 (d := .int cells.length) (by show (seqOf _ _).map _ = _; rw [show nrm (D.ref c) = D.ref c from rfl, seqOf_ref (openM_c hca)]; simp) ?_
  refine i_rdo (modD_int (by omega)) ?_
  refine .done ?_
  obtain ⟨j, hj⟩ : ∃ j : Nat, p % (cells.length : Int) = (j : Int) := ⟨(p % (cells.length : Int)).toNat, by have := Int.emod_nonneg p (show (cells.length : Int) ≠ 0 by omega); omega⟩
  have hjl : j < cells.length := by have := Int.emod_lt_of_pos p (show (0 : Int) < cells.length by omega); omega
  rw [hj]
  walk_at "bbs"
  refine i_ixRef (openM_c hca) (ix_lst (i := j) (d := .int cells[j]) (by simp [hjl])) ?_
  have hcj : 0 ≤ cells[j] := g3 _ (List.getElem_mem hjl)
  refine .done ?_
  walk_at "bbs"
  by_cases hbig : cells[j] ≥ 1000000000000000000
  · rw [decide_eq_true hbig]
    walk_at "bbs"
    refine i_rdo (divD_int ⟨h0, h1⟩) ?_
    refine i_gsub ?_
    walk_at "bbs"
    refine ⟨c, _, (j : Int), j, rfl, rfl, openM_c hca, by rw [List.length_map]; exact ixN_nat hjl, ?_⟩
    refine .done ?_
    walk_at "bbs"
    refine i_rdo (modD_int h0) ?_
    refine .done ?_
    have key := q (cells.set j (cells[j] / m)) p x (cells[j] % m) ⟨fun e => g1 (List.eq_nil_of_length_eq_zero (by have h3 := congrArg List.length e; rw [List.length_set] at h3; exact h3)), by rw [List.length_set]; exact g2, fun z hz => ?_, g4, g5, g6⟩ (Int.emod_nonneg _ (by omega)) (Int.emod_lt_of_pos _ h0)
    · unfold openM at key ⊢
      rw [mset_comm hca.symm, mset_mset, ← List.map_set]
      exact key
    · rcases List.mem_or_eq_of_mem_set hz with hz | hz
      · exact g3 z hz
      · rw [hz]; exact Int.ediv_nonneg hcj (by omega)
  · rw [decide_eq_false hbig]
    walk_at "bbs"
    refine .done ?_
    walk_at "bbs"
    refine i_ixRef openM_a (ix_lst (i := 1) rfl) ?_
    walk_at "bbs"
    refine i_gsub ?_
    walk_at "bbs"
    refine ⟨a, _, 1, 1, rfl, rfl, openM_a, rfl, ?_⟩
    have r1 : mset (openM M0 a c cells p x) a (.lst (List.set [D.ref c, .int p, .int x] 1 (.int (p + 1)))) = openM M0 a c cells (p + 1) x := openM_re
    rw [r1]
    refine .done ?_
    walk_at "bbs"
    refine i_ixRef openM_a (ix_lst (i := 2) rfl) ?_
    walk_at "bbs"
    refine i_rdoN (mulE_int (.inl ⟨by omega, by omega⟩)) ?_
    walk_at "bbs"
    obtain ⟨x2, hx2⟩ : ∃ x2 : Int, x2 = (x * 48271 + cells[j] + 12345) % 2147483647 := ⟨_, rfl⟩
    have k1 : 0 ≤ x2 := by rw [hx2]; exact Int.emod_nonneg _ (by omega)
    have k2 : x2 < 2147483647 := by rw [hx2]; exact Int.emod_lt_of_pos _ (by omega)
    rw [← hx2]
    refine i_gsub ?_
    walk_at "bbs"
    refine ⟨a, _, 2, 2, rfl, rfl, openM_a, rfl, ?_⟩
    have r2 : mset (openM M0 a c cells (p + 1) x) a (.lst (List.set [D.ref c, .int (p + 1), .int x] 2 (.int x2))) = openM M0 a c cells (p + 1) x2 := openM_re
    rw [r2]
    refine .done ?_
    walk_at "bbs"
    refine i_ixRef openM_a (ix_lst (i := 2) rfl) ?_
    walk_at "bbs"
    refine i_ixRef openM_a (ix_lst (i := 2) rfl) ?_
    refine i_rdoN (mulE_int (.inl ⟨by omega, by omega⟩)) ?_
    walk_at "bbs"
    refine i_rdo (modD_int h0) ?_
    exact .done (q cells (p + 1) x2 _ ⟨g1, g2, g3, by omega, k1, k2⟩ (Int.emod_nonneg _ (by omega)) (Int.emod_lt_of_pos _ h0))
/-! the begin -/
def spX_begun : SpD := spN1 fun d M Q E => ∃ xs : List Int, d = .frz (xs.map .int) ∧ xs.length ≤ 63 ∧ ∀ a c cells, M a = none → M c = none → c ≠ a → Good cells 0 1 → Q (.ref a) (openM M a c cells 0 1)
def rdX_begun : DS :=
  (dRet (dLstM (dCons (dOp rdAddM (dN (dLc (dSeqI (dN (dVar 0))) (gdName 1) dYes (dCB (rd1 absD) (dCons (dN (dVar 1)) (dNil))) [1])) (dN (dOp (rdO mulE) (dN (dLst (dCons (dC (.int 1)) (dNil)))) (dN (dCB (rd1 intOfD) (dCons (dN (dOp (rdEq) (dN (dCB (rd1 lenD) (dCons (dN (dVar 0)) (dNil)))) (dN (dC (.int 0))))) (dNil))))))) (dCons (dC (.int 0)) (dCons (dC (.int 1)) (dNil))))))
theorem lwX_begun (h : spX_begun ds M Q E) : rdX_begun (ends Q) (startD ["_law_script", "_law_cell"] ds) M := by
  obtain ⟨d, rfl, xs, rfl, hl, q⟩ := h
  have hs := sizeLine_eq
  unfold rdX_begun
  walk_at "bbs"
  refine wk_frz ?_
  refine ⟨by rw [List.length_map]; omega, fun i acc M' => M' = M ∧ acc = (xs.take i).map (fun z => D.int (if z < 0 then -z else z)), ⟨rfl, rfl⟩, fun _ _ _ _ => trivial, ?_, ?_⟩
  · rintro i d acc M2 hd ⟨rfl, rfl⟩
    rw [List.getElem?_map] at hd
    cases hz : xs[i]? with
    | none => rw [hz] at hd; cases hd
    | some z =>
      rw [hz] at hd
      cases hd
      walk_at "bbs"
      exact ⟨rfl, take_map_succ (fun z => D.int (if z < 0 then -z else z)) hz⟩
  · rintro acc M2 ⟨rfl, rfl⟩
    rw [List.length_map, List.take_length]
    walk_at "bbs"
    refine ⟨by show 1 ≤ sizeLine; omega, ?_⟩
    walk_at "bbs"
    rw [List.length_map]
    obtain ⟨n, hn, hn1⟩ : ∃ n : Nat, (if decide ((xs.length : Int) = 0) = true then (1 : Int) else 0) = (n : Int) ∧ (n = 1 ∧ xs = [] ∨ n = 0 ∧ xs ≠ []) := by
      by_cases h : xs = []
      · exact ⟨1, by rw [h]; rfl, .inl ⟨rfl, h⟩⟩
      · refine ⟨0, ?_, .inr ⟨rfl, h⟩⟩
        have h2 : ¬ (xs.length : Int) = 0 := fun e => h (List.eq_nil_of_length_eq_zero (by omega))
        rw [decide_eq_false h2]
        rfl
    rw [hn]
    have hn2 : n ≤ 1 := by omega
    have hmul : mulD M2 (.lst [.int 1]) (.int (n : Int)) = some (.lst (List.replicate ((n : Nat) : Int).toNat [D.int 1]).flatten) := by
      refine mulD_lst ⟨by omega, by omega, ?_⟩
      rw [Int.toNat_natCast, List.length_singleton, Nat.one_mul]
      exact Nat.le_trans hn2 (by rw [sizeLine_eq]; omega)
    refine i_rdoN hmul ?_
    have hrep : (List.replicate ((n : Nat) : Int).toNat [D.int 1]).flatten = (List.replicate n (1 : Int)).map D.int := by
      rw [Int.toNat_natCast]
      rcases hn1 with ⟨rfl, _⟩ | ⟨rfl, _⟩ <;> rfl
    rw [hrep]
    refine ⟨_, _, rfl, rfl, by rw [List.length_map, List.length_map, List.length_replicate]; omega, fun c hc => ?_⟩
    walk_at "bbs"
    refine ⟨by show 3 ≤ sizeLine; omega, fun a ha => ?_⟩
    have hca : c ≠ a := fun e => by rw [e, mset_same] at ha; cases ha
    have ha0 : M2 a = none := by rw [mset_ne hca.symm] at ha; exact ha
    refine .done ?_
    have key := q a c (xs.map (fun z => if z < 0 then -z else z) ++ List.replicate n 1) ha0 hc hca ⟨?_, ?_, ?_, by omega, by omega, by omega⟩
    · unfold openM at key
      rw [List.map_append, List.map_map] at key
      exact key
    · intro e
      obtain ⟨e1, e2⟩ := List.append_eq_nil_iff.mp e
      rcases hn1 with ⟨rfl, _⟩ | ⟨rfl, h⟩
      · cases e2
      · exact h (List.map_eq_nil_iff.mp e1)
    · rw [List.length_append, List.length_map, List.length_replicate]
      omega
    · intro z hz
      rcases List.mem_append.mp hz with hz | hz
      · obtain ⟨y, _, rfl⟩ := List.mem_map.mp hz
        split <;> omega
      · rw [(List.mem_replicate.mp hz).2]; omega
end
end BB

set_option maxHeartbeats 4000000

namespace BB
open L2 PySem PySem.Spec PyProof.Rows
/-! the text: where each def stands: printed by gen.py -/
def top (i : Nat) : Stmt := PySem.Challenge.pw_barredbox_k02_plans_told.main.body.getD i (.Pass ⟨0, 0, 0, 0⟩)
def mth (s : Stmt) (j : Nat) : Stmt := match s with
  | .ClassDef _ _ _ body _ _ _ _ _ _ _ => body.getD j (.Pass ⟨0, 0, 0, 0⟩)
  | _ => s
/-- what of the text is leant on -/
structure Fx (K : PySem.W.Frag) (mg : Str → Option Value) : Prop where
  d__law_begun : ∃ fd, FunD K "_law_begun" "_law_begun" (defArgs (top 17)) (defBody (top 17)) (defScope (top 17)) [] [] (He.ga K "_law_begun") fd
  d__law_draw : ∃ fd, FunD K "_law_draw" "_law_draw" (defArgs (top 18)) (defBody (top 18)) (defScope (top 18)) [] [] (He.ga K "_law_draw") fd
  d__law_name : ∃ fd, FunD K "_law_name" "_law_name" (defArgs (top 19)) (defBody (top 19)) (defScope (top 19)) [] [] (He.ga K "_law_name") fd
  d__law_names : ∃ fd, FunD K "_law_names" "_law_names" (defArgs (top 20)) (defBody (top 20)) (defScope (top 20)) [] [] (He.ga K "_law_names") fd
  d__law_parts : ∃ fd, FunD K "_law_parts" "_law_parts" (defArgs (top 21)) (defBody (top 21)) (defScope (top 21)) [] [] (He.ga K "_law_parts") fd
  d__law_otherwise : ∃ fd, FunD K "_law_otherwise" "_law_otherwise" (defArgs (top 22)) (defBody (top 22)) (defScope (top 22)) [] [] (He.ga K "_law_otherwise") fd
  d_is_name : ∃ fd, FunD K "is_name" "is_name" (defArgs (top 10)) (defBody (top 10)) (defScope (top 10)) [] [] (He.ga K "is_name") fd
  d_are_names : ∃ fd, FunD K "are_names" "are_names" (defArgs (top 12)) (defBody (top 12)) (defScope (top 12)) [] [] (He.ga K "are_names") fd
  d_is_count : ∃ fd, FunD K "is_count" "is_count" (defArgs (top 11)) (defBody (top 11)) (defScope (top 11)) [] [] (He.ga K "is_count") fd
  d_is_door : ∃ fd, FunD K "is_door" "is_door" (defArgs (top 13)) (defBody (top 13)) (defScope (top 13)) [] [] (He.ga K "is_door") fd
  d_are_rooms : ∃ fd, FunD K "are_rooms" "are_rooms" (defArgs (top 14)) (defBody (top 14)) (defScope (top 14)) [] [] (He.ga K "are_rooms") fd
  d_Plan___init__ : ∃ fd, FunD K "__init__" "Plan.__init__" (defArgs (mth (top 15) 0)) (defBody (mth (top 15) 0)) (defScope (mth (top 15) 0)) [] [] (He.ma K (He.ga K "Plan") "__init__") fd
  d_Plan___len__ : ∃ fd, FunD K "__len__" "Plan.__len__" (defArgs (mth (top 15) 2)) (defBody (mth (top 15) 2)) (defScope (mth (top 15) 2)) [] [] (He.ma K (He.ga K "Plan") "__len__") fd
  d_Plan_rooms : ∃ fd, FunD K "rooms" "Plan.rooms" (defArgs (mth (top 15) 5)) (defBody (mth (top 15) 5)) (defScope (mth (top 15) 5)) [] [] (He.ma K (He.ga K "Plan") "rooms") fd
  d_Plan_signs : ∃ fd, FunD K "signs" "Plan.signs" (defArgs (mth (top 15) 4)) (defBody (mth (top 15) 4)) (defScope (mth (top 15) 4)) [] [] (He.ma K (He.ga K "Plan") "signs") fd
  d_Plan_letters : ∃ fd, FunD K "letters" "Plan.letters" (defArgs (mth (top 15) 3)) (defBody (mth (top 15) 3)) (defScope (mth (top 15) 3)) [] [] (He.ma K (He.ga K "Plan") "letters") fd
  d_Plan_is_full : ∃ fd, FunD K "is_full" "Plan.is_full" (defArgs (mth (top 15) 6)) (defBody (mth (top 15) 6)) (defScope (mth (top 15) 6)) [] [] (He.ma K (He.ga K "Plan") "is_full") fd
  d__law_right : ∃ fd, FunD K "_law_right" "_law_right" (defArgs (top 23)) (defBody (top 23)) (defScope (top 23)) [] [] (He.ga K "_law_right") fd
  d_Plan___eq__ : ∃ fd, FunD K "__eq__" "Plan.__eq__" (defArgs (mth (top 15) 1)) (defBody (mth (top 15) 1)) (defScope (mth (top 15) 1)) [] [] (He.ma K (He.ga K "Plan") "__eq__") fd
  d_law : ∃ fd, FunD K "law" "law" (defArgs (top 24)) (defBody (top 24)) (defScope (top 24)) [] [] (He.ga K "law") fd
  all_Plan : PySem.W.mroIn K (He.ga K "Plan") (.type "object") = some true
  b_abs : mg "abs" = none
  b_all : mg "all" = none
  b_any : mg "any" = none
  b_bool : mg "bool" = none
  b_int : mg "int" = none
  b_isinstance : mg "isinstance" = none
  b_len : mg "len" = none
  b_range : mg "range" = none
  b_repr : mg "repr" = none
  b_sorted : mg "sorted" = none
  b_str : mg "str" = none
  b_tuple : mg "tuple" = none
  b_zip : mg "zip" = none
  cl_Plan : Cls K (He.ga K "Plan")
  e_NoPlan : (He.Fa.exc "NoPlan").ok K = true
  g_NoPlan : mg "NoPlan" = some (.ref (He.ga K "NoPlan"))
  g_Plan : mg "Plan" = some (.ref (He.ga K "Plan"))
  g__law_begun : mg "_law_begun" = some (.ref (He.ga K "_law_begun"))
  g__law_draw : mg "_law_draw" = some (.ref (He.ga K "_law_draw"))
  g__law_name : mg "_law_name" = some (.ref (He.ga K "_law_name"))
  g__law_names : mg "_law_names" = some (.ref (He.ga K "_law_names"))
  g__law_otherwise : mg "_law_otherwise" = some (.ref (He.ga K "_law_otherwise"))
  g__law_parts : mg "_law_parts" = some (.ref (He.ga K "_law_parts"))
  g__law_right : mg "_law_right" = some (.ref (He.ga K "_law_right"))
  g_are_names : mg "are_names" = some (.ref (He.ga K "are_names"))
  g_are_rooms : mg "are_rooms" = some (.ref (He.ga K "are_rooms"))
  g_is_count : mg "is_count" = some (.ref (He.ga K "is_count"))
  g_is_door : mg "is_door" = some (.ref (He.ga K "is_door"))
  g_is_name : mg "is_name" = some (.ref (He.ga K "is_name"))
  g_law : mg "law" = some (.ref (He.ga K "law"))
  i_LEAST_SIGNS : ∃ t, mg "LEAST_SIGNS" = some (.int 2 t)
  i_MOST_LETTERS : ∃ t, mg "MOST_LETTERS" = some (.int 4 t)
  i_MOST_NAME : ∃ t, mg "MOST_NAME" = some (.int 6 t)
  i_MOST_ROOMS : ∃ t, mg "MOST_ROOMS" = some (.int 36 t)
  i_MOST_SIGNS : ∃ t, mg "MOST_SIGNS" = some (.int 4 t)
  isi_Plan : IsiC K (He.ga K "Plan")
  kit_Plan_Plan : PySem.W.kitOne K (.ref (He.ga K "Plan")) (.ref (He.ga K "Plan")) = some true
  kitT_tuple_Plan : PySem.W.kitOne K (.type "tuple") (.ref (He.ga K "Plan")) = some false
  m_Plan___eq__ : Meth K (He.ga K "Plan") "__eq__" (He.ma K (He.ga K "Plan") "__eq__")
  m_Plan___len__ : Meth K (He.ga K "Plan") "__len__" (He.ma K (He.ga K "Plan") "__len__")
  m_Plan_is_full : Meth K (He.ga K "Plan") "is_full" (He.ma K (He.ga K "Plan") "is_full")
  m_Plan_letters : Meth K (He.ga K "Plan") "letters" (He.ma K (He.ga K "Plan") "letters")
  m_Plan_rooms : Meth K (He.ga K "Plan") "rooms" (He.ma K (He.ga K "Plan") "rooms")
  m_Plan_signs : Meth K (He.ga K "Plan") "signs" (He.ma K (He.ga K "Plan") "signs")
  mk_Plan : Mk K (He.ga K "Plan") (He.ma K (He.ga K "Plan") "__init__")
  na_Plan_own_letters : NoAttr K (He.ga K "Plan") "own_letters"
  na_Plan_own_rooms : NoAttr K (He.ga K "Plan") "own_rooms"
  na_Plan_own_signs : NoAttr K (He.ga K "Plan") "own_signs"
  ne_Plan : PySem.W.findIn K (.ref (He.ga K "Plan")) "__ne__" = some (some (.builtin "object.__ne__"))
  s_SMALL : ∃ t, mg "SMALL" = some (.str "abcdefghijklmnopqrstuvwxyz" t)
theorem sc__law_begun : FnScope ["_law_script", "_law_cell"] ["_law_script"] (defScope (top 17)) := ⟨rfl, rfl, rfl, by decide +kernel, rfl, by decide +kernel, by decide +kernel⟩
theorem sc__law_draw : FnScope ["_law_state", "_law_many", "_law_cells", "_law_at", "_law_cell"] ["_law_state", "_law_many"] (defScope (top 18)) := ⟨rfl, rfl, rfl, by decide +kernel, rfl, by decide +kernel, by decide +kernel⟩
theorem sc__law_name : FnScope ["_law_state", "_law_size", "_law_k"] ["_law_state"] (defScope (top 19)) := ⟨rfl, rfl, rfl, by decide +kernel, rfl, by decide +kernel, by decide +kernel⟩
theorem sc__law_names : FnScope ["_law_state", "_law_many", "_law_some", "_law_name_here", "_law_others", "_law_sign", "_law_one"] ["_law_state", "_law_many"] (defScope (top 20)) := ⟨rfl, rfl, rfl, by decide +kernel, rfl, by decide +kernel, by decide +kernel⟩
theorem sc__law_parts : FnScope ["_law_state", "_law_many", "_law_most_letters", "_law_shut", "_law_names_here", "_law_marks", "_law_halls", "_law_k", "_law_doors", "_law_name_here", "_law_door"] ["_law_state", "_law_many", "_law_most_letters", "_law_shut"] (defScope (top 21)) := ⟨rfl, rfl, rfl, by decide +kernel, rfl, by decide +kernel, by decide +kernel⟩
theorem sc__law_otherwise : FnScope ["_law_state", "_law_parts_here", "_law_names_here", "_law_marks", "_law_halls", "_law_way", "_law_at", "_law_ahead", "_law_more", "_law_doors", "_law_name_here", "_law_door"] ["_law_state", "_law_parts_here"] (defScope (top 22)) := ⟨rfl, rfl, rfl, by decide +kernel, rfl, by decide +kernel, by decide +kernel⟩
theorem sc_is_name : FnScope ["thing", "sign"] ["thing"] (defScope (top 10)) := ⟨rfl, rfl, rfl, by decide +kernel, rfl, by decide +kernel, by decide +kernel⟩
theorem sc_are_names : FnScope ["thing", "least", "most", "one", "other"] ["thing", "least", "most"] (defScope (top 12)) := ⟨rfl, rfl, rfl, by decide +kernel, rfl, by decide +kernel, by decide +kernel⟩
theorem sc_is_count : FnScope ["thing"] ["thing"] (defScope (top 11)) := ⟨rfl, rfl, rfl, by decide +kernel, rfl, by decide +kernel, by decide +kernel⟩
theorem sc_is_door : FnScope ["thing", "signs", "many"] ["thing", "signs", "many"] (defScope (top 13)) := ⟨rfl, rfl, rfl, by decide +kernel, rfl, by decide +kernel, by decide +kernel⟩
theorem sc_are_rooms : FnScope ["thing", "letters", "signs", "doors", "door"] ["thing", "letters", "signs"] (defScope (top 14)) := ⟨rfl, rfl, rfl, by decide +kernel, rfl, by decide +kernel, by decide +kernel⟩
theorem sc_Plan___init__ : FnScope ["self", "letters", "signs", "rooms"] ["self", "letters", "signs", "rooms"] (defScope (mth (top 15) 0)) := ⟨rfl, rfl, rfl, by decide +kernel, rfl, by decide +kernel, by decide +kernel⟩
theorem sc_Plan___len__ : FnScope ["self"] ["self"] (defScope (mth (top 15) 2)) := ⟨rfl, rfl, rfl, by decide +kernel, rfl, by decide +kernel, by decide +kernel⟩
theorem sc_Plan_rooms : FnScope ["self"] ["self"] (defScope (mth (top 15) 5)) := ⟨rfl, rfl, rfl, by decide +kernel, rfl, by decide +kernel, by decide +kernel⟩
theorem sc_Plan_signs : FnScope ["self"] ["self"] (defScope (mth (top 15) 4)) := ⟨rfl, rfl, rfl, by decide +kernel, rfl, by decide +kernel, by decide +kernel⟩
theorem sc_Plan_letters : FnScope ["self"] ["self"] (defScope (mth (top 15) 3)) := ⟨rfl, rfl, rfl, by decide +kernel, rfl, by decide +kernel, by decide +kernel⟩
theorem sc_Plan_is_full : FnScope ["self", "doors", "door"] ["self"] (defScope (mth (top 15) 6)) := ⟨rfl, rfl, rfl, by decide +kernel, rfl, by decide +kernel, by decide +kernel⟩
theorem sc__law_right : FnScope ["_law_yard", "_law_parts_here", "_law_names_here", "_law_marks", "_law_halls", "_law_parts_told", "_law_gaps", "_law_doors"] ["_law_yard", "_law_parts_here"] (defScope (top 23)) := ⟨rfl, rfl, rfl, by decide +kernel, rfl, by decide +kernel, by decide +kernel⟩
theorem sc_Plan___eq__ : FnScope ["self", "other"] ["self", "other"] (defScope (mth (top 15) 1)) := ⟨rfl, rfl, rfl, by decide +kernel, rfl, by decide +kernel, by decide +kernel⟩
theorem sc_law : FnScope ["_law_script", "_law_state", "_law_turn", "_law_many", "_law_parts_here", "_law_other", "_law_yard", "_law_beside", "_law_same"] ["_law_script"] (defScope (top 24)) := ⟨rfl, rfl, rfl, by decide +kernel, rfl, by decide +kernel, by decide +kernel⟩
section
variable {base : Heap} {mg : Str → Option Value} {K : PySem.W.Frag} {P : Program} {w : World}
def Ok__law_begun (P : Program) (w : World) (K : PySem.W.Frag) (mg : Str → Option Value) (base : Heap) : Prop := ∃ fd, FnOk P w K mg base (L2.CX P w) 1 (He.ga K "_law_begun") fd ["_law_script"] (liftSp K (sp__law_begun K)) ∧ Binds K fd ["_law_script"] []
def Ok__law_draw (P : Program) (w : World) (K : PySem.W.Frag) (mg : Str → Option Value) (base : Heap) : Prop := ∃ fd, FnOk P w K mg base (L2.CX P w) 1 (He.ga K "_law_draw") fd ["_law_state", "_law_many"] (liftSp K (sp__law_draw K)) ∧ Binds K fd ["_law_state", "_law_many"] []
structure Rw (P : Program) (w : World) (K : PySem.W.Frag) (mg : Str → Option Value) (base : Heap) : Prop where
  _law_begun : Ok__law_begun P w K mg base
  _law_draw : Ok__law_draw P w K mg base
theorem ok__law_begun (Z : Fx K mg) (L : Lw K) (R : Rw P w K mg base) : Ok__law_begun P w K mg base := R._law_begun
theorem ok__law_draw (Z : Fx K mg) (L : Lw K) (R : Rw P w K mg base) : Ok__law_draw P w K mg base := R._law_draw
def Ok__law_name (P : Program) (w : World) (K : PySem.W.Frag) (mg : Str → Option Value) (base : Heap) : Prop := ∃ fd, FnOk P w K mg base (L2.CX P w) 2 (He.ga K "_law_name") fd ["_law_state"] (liftSp K (sp__law_name K)) ∧ Binds K fd ["_law_state"] []
theorem ok__law_name (Z : Fx K mg) (L : Lw K) (R : Rw P w K mg base) : Ok__law_name P w K mg base := by
  obtain ⟨fd, F⟩ := Z.d__law_name
  obtain ⟨fd__law_draw, F__law_draw, B__law_draw⟩ := ok__law_draw (P := P) (w := w) (base := base) Z L R
  have kp__law_draw : PySem.W.keepIn K (.ref (He.ga K "_law_draw")) = true := Z.d__law_draw.choose_spec.kp
  refine ⟨fd, fn_mkD F sc__law_name len1 (fun X Δ M ds Q E cx xo hW h => ?_), F.bindsN fun _ _ _ _ _ _ us hl => match us, hl with | [_], _ => rfl⟩
  obtain ⟨cdv, A, outer, s, H, Ev, eX, hr⟩ := cx
  subst eX
  have hu := hu_of hr
  have hu65 := hu65_of hr
  refine ⟨_, rd__law_name K Δ.Wd, (pdss_cons (pds_if (pdt_cmp (op_eqD hu) snd_eq (pd_nrm (pd_call F__law_draw (hr.mono (by decide)) rfl Z.g__law_draw kp__law_draw B__law_draw xo (pda_cons (pd_var (pv 0)) (pda_cons (pd_int) (pda_nil))))) (pd_nrm (pd_int)) (by rfl)) (pdss_one (pds_ret (pd_ix (pd_nrm (pd_lst (pda_cons (pd_str) (pda_cons (pd_str) (pda_cons (pd_str) (pda_cons (pd_str) (pda_cons (pd_str) (pda_cons (pd_str) (pda_cons (pd_str) (pda_cons (pd_str) (pda_cons (pd_str) (pda_cons (pd_str) (pda_nil))))))))))))) (pd_call F__law_draw (hr.mono (by decide)) rfl Z.g__law_draw kp__law_draw B__law_draw xo (pda_cons (pd_var (pv 0)) (pda_cons (pd_int) (pda_nil))))))) pdss_nil)
  (pdss_cons (pds_set (i := 1) sc__law_name.nd rfl (Or.inl rfl) (pd_ix (pd_nrm (pd_lst (pda_cons (pd_int) (pda_cons (pd_int) (pda_cons (pd_int) (pda_cons (pd_int) (pda_cons (pd_int) (pda_cons (pd_int) (pda_nil))))))))) (pd_call F__law_draw (hr.mono (by decide)) rfl Z.g__law_draw kp__law_draw B__law_draw xo (pda_cons (pd_var (pv 0)) (pda_cons (pd_int) (pda_nil))))))
  (pdss_one (pds_ret (pd_join (pd_str) (pd_nrm (pd_lcX rfl sc__law_name.nd (pdi_rng1 rfl Z.b_range (pda_cons (pd_nrm (pd_var (pv 1))) (pda_nil))) (own := [("_law_k", 2)]) (blkB_ok (by kernel_rfl)) (fun _ _ _ _ _ _ => ⟨_, (pdgw_name (pg_name sc__law_name.nd (i := 2) rfl (Or.inl rfl)) (by decide))⟩) (fun _ _ _ _ _ _ => ⟨_, pdts_nil⟩) (fun _ _ _ _ _ _ => ⟨_, (pd_ix (pd_nrm (pd_str)) (pd_call F__law_draw (hr.mono (by decide)) rfl Z.g__law_draw kp__law_draw B__law_draw xok_blk (pda_cons (pd_var (pv 0)) (pda_cons (pd_int) (pda_nil)))))⟩)))))))), ?_⟩
  rw [hW]
  exact L._law_name h
def Ok__law_names (P : Program) (w : World) (K : PySem.W.Frag) (mg : Str → Option Value) (base : Heap) : Prop := ∃ fd, FnOk P w K mg base (L2.CX P w) 3 (He.ga K "_law_names") fd ["_law_state", "_law_many"] (liftSp K (sp__law_names K)) ∧ Binds K fd ["_law_state", "_law_many"] []
theorem ok__law_names (Z : Fx K mg) (L : Lw K) (R : Rw P w K mg base) : Ok__law_names P w K mg base := by
  obtain ⟨fd, F⟩ := Z.d__law_names
  obtain ⟨fd__law_name, F__law_name, B__law_name⟩ := ok__law_name (P := P) (w := w) (base := base) Z L R
  have kp__law_name : PySem.W.keepIn K (.ref (He.ga K "_law_name")) = true := Z.d__law_name.choose_spec.kp
  obtain ⟨fd__law_draw, F__law_draw, B__law_draw⟩ := ok__law_draw (P := P) (w := w) (base := base) Z L R
  have kp__law_draw : PySem.W.keepIn K (.ref (He.ga K "_law_draw")) = true := Z.d__law_draw.choose_spec.kp
  refine ⟨fd, fn_mkD F sc__law_names len2 (fun X Δ M ds Q E cx xo hW h => ?_), F.bindsN fun _ _ _ _ _ _ us hl => match us, hl with | [_, _], _ => rfl⟩
  obtain ⟨cdv, A, outer, s, H, Ev, eX, hr⟩ := cx
  subst eX
  have hu := hu_of hr
  have hu65 := hu65_of hr
  refine ⟨_, rd__law_names K Δ.Wd, (pdss_cons (pds_set (i := 2) sc__law_names.nd rfl (Or.inr rfl) (pd_lstM (pda_nil)))
  (pdss_cons (pds_while (passes_of rfl) (pdt_cmp op_ltA snd_lt (pd_nrm (pd_callB call_lenA snd_len rfl Z.b_len (by decide +kernel) (pda_cons (pd_nrm (pd_var (pv 2))) (pda_nil)))) (pd_nrm (pd_var (pv 1))) (by rfl)) (pdss_cons (pds_set (i := 3) sc__law_names.nd rfl (Or.inr rfl) (pd_call F__law_name (hr.mono (by decide)) rfl Z.g__law_name kp__law_name B__law_name xo (pda_cons (pd_var (pv 0)) (pda_nil))))
  (pdss_cons (pds_if (pdt_w (pdw_and (pdt_cmp (op_neD hu) snd_ne (pd_nrm (pd_var (pv 2))) (pd_nrm (pd_lst (pda_nil))) (by rfl)) (pdw_and1 (pdt_cmp (op_eqD hu) snd_eq (pd_nrm (pd_call F__law_draw (hr.mono (by decide)) rfl Z.g__law_draw kp__law_draw B__law_draw xo (pda_cons (pd_var (pv 0)) (pda_cons (pd_int) (pda_nil))))) (pd_nrm (pd_int)) (by rfl))))) (pdss_one (pds_set (i := 3) sc__law_names.nd rfl (Or.inr rfl) (pd_op op_addA snd_add (pd_nrm (pd_slice (pd_nrm (pd_ix (pd_nrm (pd_var (pv 2))) (pd_neg (pd_int)))) pdo_none (pdo_some (pd_int)))) (pd_nrm (pd_ix (pd_nrm (pd_str)) (pd_call F__law_draw (hr.mono (by decide)) rfl Z.g__law_draw kp__law_draw B__law_draw xo (pda_cons (pd_var (pv 0)) (pda_cons (pd_int) (pda_nil))))))))) pdss_nil)
  (pdss_cons (pds_set (i := 4) sc__law_names.nd rfl (Or.inl rfl) (pd_op op_addA snd_add (pd_nrm (pd_lst (pda_cons (pd_var (pv 3)) (pda_nil)))) (pd_nrm (pd_lcX rfl sc__law_names.nd (pdi_seq (pd_nrm (pd_str))) (own := [("_law_sign", 5)]) (blkB_ok (by kernel_rfl)) (fun _ _ _ _ _ _ => ⟨_, (pdgw_name (pg_name sc__law_names.nd (i := 5) rfl (Or.inl rfl)) (by decide))⟩) (fun _ _ _ _ _ _ => ⟨_, pdts_nil⟩) (fun _ _ _ _ _ _ => ⟨_, (pd_op op_addA snd_add (pd_nrm (pd_slice (pd_nrm (pd_var (pv 3))) pdo_none (pdo_some (pd_int)))) (pd_nrm (pd_var (pv 5))))⟩)))))
  (pdss_one (pds_expr (pd_app (pd_var (pv 2)) (pd_ix (pd_nrm (pd_lcX rfl sc__law_names.nd (pdi_seq (pd_nrm (pd_var (pv 4)))) (own := [("_law_one", 6)]) (blkB_ok (by kernel_rfl)) (fun _ _ _ _ _ _ => ⟨_, (pdgw_name (pg_name sc__law_names.nd (i := 6) rfl (Or.inl rfl)) (by decide))⟩) (fun _ _ _ _ _ _ => ⟨_, (pdts_one (pdt_cmp op_notInA (snd_in (neg := true)) (pd_nrm (pd_var (pv 6))) (pd_nrm (pd_var (pv 2))) (by rfl)))⟩) (fun _ _ _ _ _ _ => ⟨_, (pd_var (pv 6))⟩))) (pd_int)))))))))
  (pdss_one (pds_ret (pd_callTy call_tupN snd_tupN rfl Z.b_tuple (by decide +kernel) (pda_cons (pd_nrm (pd_callB cr_sortedS snd_sortS rfl Z.b_sorted (by decide +kernel) (pda_cons (pd_nrm (pd_var (pv 2))) (pda_nil)))) (pda_nil))))))), ?_⟩
  rw [hW]
  exact L._law_names h
def Ok__law_parts (P : Program) (w : World) (K : PySem.W.Frag) (mg : Str → Option Value) (base : Heap) : Prop := ∃ fd, FnOk P w K mg base (L2.CX P w) 4 (He.ga K "_law_parts") fd ["_law_state", "_law_many", "_law_most_letters", "_law_shut"] (liftSp K (sp__law_parts K)) ∧ Binds K fd ["_law_state", "_law_many", "_law_most_letters", "_law_shut"] []
theorem ok__law_parts (Z : Fx K mg) (L : Lw K) (R : Rw P w K mg base) : Ok__law_parts P w K mg base := by
  obtain ⟨fd, F⟩ := Z.d__law_parts
  obtain ⟨fd__law_names, F__law_names, B__law_names⟩ := ok__law_names (P := P) (w := w) (base := base) Z L R
  have kp__law_names : PySem.W.keepIn K (.ref (He.ga K "_law_names")) = true := Z.d__law_names.choose_spec.kp
  obtain ⟨fd__law_draw, F__law_draw, B__law_draw⟩ := ok__law_draw (P := P) (w := w) (base := base) Z L R
  have kp__law_draw : PySem.W.keepIn K (.ref (He.ga K "_law_draw")) = true := Z.d__law_draw.choose_spec.kp
  refine ⟨fd, fn_mkD F sc__law_parts len4 (fun X Δ M ds Q E cx xo hW h => ?_), F.bindsN fun _ _ _ _ _ _ us hl => match us, hl with | [_, _, _, _], _ => rfl⟩
  obtain ⟨cdv, A, outer, s, H, Ev, eX, hr⟩ := cx
  subst eX
  have hu := hu_of hr
  have hu65 := hu65_of hr
  refine ⟨_, rd__law_parts K Δ.Wd, (pdss_cons (pds_set (i := 4) sc__law_parts.nd rfl (Or.inl rfl) (pd_call F__law_names (hr.mono (by decide)) rfl Z.g__law_names kp__law_names B__law_names xo (pda_cons (pd_var (pv 0)) (pda_cons (pd_op op_addA snd_add (pd_nrm (pd_int)) (pd_nrm (pd_call F__law_draw (hr.mono (by decide)) rfl Z.g__law_draw kp__law_draw B__law_draw xo (pda_cons (pd_var (pv 0)) (pda_cons (pd_var (pv 2)) (pda_nil)))))) (pda_nil)))))
  (pdss_cons (pds_par (i := 5) (j := 6) rfl sc__law_parts.nd rfl rfl (by decide) rfl rfl (pd_call F__law_names (hr.mono (by decide)) rfl Z.g__law_names kp__law_names B__law_names xo (pda_cons (pd_var (pv 0)) (pda_cons (pd_op op_addA snd_add (pd_nrm (pd_int)) (pd_nrm (pd_call F__law_draw (hr.mono (by decide)) rfl Z.g__law_draw kp__law_draw B__law_draw xo (pda_cons (pd_var (pv 0)) (pda_cons (pd_int) (pda_nil)))))) (pda_nil)))) (pd_lstM (pda_nil)))
  (pdss_cons (pds_for (passes_of rfl) rfl (pdi_rng1 rfl Z.b_range (pda_cons (pd_nrm (pd_var (pv 1))) (pda_nil))) (pdg_name (pg_name sc__law_parts.nd (i := 7) rfl (Or.inl rfl))) (pdss_cons (pds_set (i := 8) sc__law_parts.nd rfl (Or.inl rfl) (pd_lstM (pda_nil)))
  (pdss_cons (pds_for (passes_of rfl) rfl (pdi_seq (pd_nrm (pd_var (pv 4)))) (pdg_name (pg_name sc__law_parts.nd (i := 9) rfl (Or.inl rfl))) (pdss_cons (pds_set (i := 10) sc__law_parts.nd rfl (Or.inl rfl) (pd_tup (pda_cons (pd_ix (pd_nrm (pd_var (pv 5))) (pd_call F__law_draw (hr.mono (by decide)) rfl Z.g__law_draw kp__law_draw B__law_draw xo (pda_cons (pd_var (pv 0)) (pda_cons (pd_callB call_lenA snd_len rfl Z.b_len (by decide +kernel) (pda_cons (pd_nrm (pd_var (pv 5))) (pda_nil))) (pda_nil))))) (pda_cons (pd_call F__law_draw (hr.mono (by decide)) rfl Z.g__law_draw kp__law_draw B__law_draw xo (pda_cons (pd_var (pv 0)) (pda_cons (pd_var (pv 1)) (pda_nil)))) (pda_nil)))))
  (pdss_cons (pds_if (pdt_w (pdw_and (pdt_cmp op_ltA snd_lt (pd_nrm (pd_op op_addA snd_add (pd_nrm (pd_var (pv 7))) (pd_nrm (pd_int)))) (pd_nrm (pd_var (pv 1))) (by rfl)) (pdw_and1 (pdt_cmp (op_eqD hu) snd_eq (pd_nrm (pd_call F__law_draw (hr.mono (by decide)) rfl Z.g__law_draw kp__law_draw B__law_draw xo (pda_cons (pd_var (pv 0)) (pda_cons (pd_int) (pda_nil))))) (pd_nrm (pd_int)) (by rfl))))) (pdss_one (pds_set (i := 10) sc__law_parts.nd rfl (Or.inl rfl) (pd_tup (pda_cons (pd_ix (pd_nrm (pd_var (pv 10))) (pd_int)) (pda_cons (pd_op op_addA snd_add (pd_nrm (pd_var (pv 7))) (pd_nrm (pd_int))) (pda_nil)))))) pdss_nil)
  (pdss_cons (pds_if (pdt_w (pdw_and (pdt_cmp op_gt snd_int (pd_nrm (pd_var (pv 3))) (pd_nrm (pd_int)) (by rfl)) (pdw_and1 (pdt_cmp (op_eqD hu) snd_eq (pd_nrm (pd_call F__law_draw (hr.mono (by decide)) rfl Z.g__law_draw kp__law_draw B__law_draw xo (pda_cons (pd_var (pv 0)) (pda_cons (pd_var (pv 3)) (pda_nil))))) (pd_nrm (pd_int)) (by rfl))))) (pdss_one (pds_set (i := 10) sc__law_parts.nd rfl (Or.inl rfl) (pd_non))) pdss_nil)
  (pdss_one (pds_expr (pd_app (pd_var (pv 8)) (pd_var (pv 10)))))))))
  (pdss_one (pds_expr (pd_app (pd_var (pv 6)) (pd_callTy call_tuple_of snd_tup rfl Z.b_tuple (by decide +kernel) (pda_cons (pd_nrm (pd_var (pv 8))) (pda_nil)))))))))
  (pdss_one (pds_ret (pd_tup (pda_cons (pd_var (pv 4)) (pda_cons (pd_var (pv 5)) (pda_cons (pd_callTy call_tuple_of snd_tup rfl Z.b_tuple (by decide +kernel) (pda_cons (pd_nrm (pd_var (pv 6))) (pda_nil))) (pda_nil)))))))))), ?_⟩
  rw [hW]
  exact L._law_parts h
def Ok__law_otherwise (P : Program) (w : World) (K : PySem.W.Frag) (mg : Str → Option Value) (base : Heap) : Prop := ∃ fd, FnOk P w K mg base (L2.CX P w) 2 (He.ga K "_law_otherwise") fd ["_law_state", "_law_parts_here"] (liftSp K (sp__law_otherwise K)) ∧ Binds K fd ["_law_state", "_law_parts_here"] []
theorem ok__law_otherwise (Z : Fx K mg) (L : Lw K) (R : Rw P w K mg base) : Ok__law_otherwise P w K mg base := by
  obtain ⟨fd, F⟩ := Z.d__law_otherwise
  obtain ⟨fd__law_draw, F__law_draw, B__law_draw⟩ := ok__law_draw (P := P) (w := w) (base := base) Z L R
  have kp__law_draw : PySem.W.keepIn K (.ref (He.ga K "_law_draw")) = true := Z.d__law_draw.choose_spec.kp
  refine ⟨fd, fn_mkD F sc__law_otherwise len2 (fun X Δ M ds Q E cx xo hW h => ?_), F.bindsN fun _ _ _ _ _ _ us hl => match us, hl with | [_, _], _ => rfl⟩
  obtain ⟨cdv, A, outer, s, H, Ev, eX, hr⟩ := cx
  subst eX
  have hu := hu_of hr
  have hu65 := hu65_of hr
  refine ⟨_, rd__law_otherwise K Δ.Wd, (pdss_cons (pds_asg (pd_nrm (pd_var (pv 1))) (pdg_tup rfl (pdgs_cons (pdg_name (pg_name sc__law_otherwise.nd (i := 2) rfl (Or.inr rfl))) (pdgs_cons (pdg_name (pg_name sc__law_otherwise.nd (i := 3) rfl (Or.inr rfl))) (pdgs_cons (pdg_name (pg_name sc__law_otherwise.nd (i := 4) rfl (Or.inl rfl))) (pdgs_nil))))))
  (pdss_cons (pds_par (i := 5) (j := 6) rfl sc__law_otherwise.nd rfl rfl (by decide) rfl rfl (pd_call F__law_draw (hr.mono (by decide)) rfl Z.g__law_draw kp__law_draw B__law_draw xo (pda_cons (pd_var (pv 0)) (pda_cons (pd_int) (pda_nil)))) (pd_call F__law_draw (hr.mono (by decide)) rfl Z.g__law_draw kp__law_draw B__law_draw xo (pda_cons (pd_var (pv 0)) (pda_cons (pd_callB call_lenA snd_len rfl Z.b_len (by decide +kernel) (pda_cons (pd_nrm (pd_var (pv 4))) (pda_nil))) (pda_nil)))))
  (pdss_cons (pds_set (i := 7) sc__law_otherwise.nd rfl (Or.inr rfl) (pd_op op_addA snd_add (pd_nrm (pd_tup (pda_cons (pd_str) (pda_nil)))) (pd_nrm (pd_slice (pd_nrm (pd_var (pv 2))) pdo_none (pdo_some (pd_neg (pd_int)))))))
  (pdss_cons (pds_setLcX (i := 8) rfl sc__law_otherwise.nd rfl rfl (by rfl) (pdi_seq (pd_nrm (pd_lst (pda_cons (pd_str) (pda_cons (pd_str) (pda_nil)))))) (own := [("_law_name_here", 10)]) (blkB_ok (by kernel_rfl)) (fun _ _ _ _ _ _ => ⟨_, (pdgw_name (pg_name sc__law_otherwise.nd (i := 10) rfl (Or.inl rfl)) (by decide))⟩) (fun _ _ _ _ _ _ => ⟨_, (pdts_one (pdt_w (pdw_and (pdt_cmp op_ltA snd_lt (pd_nrm (pd_ix (pd_nrm (pd_var (pv 7))) (pd_neg (pd_int)))) (pd_nrm (pd_var (pv 10))) (by rfl)) (pdw_and1 (pdt_cmp (op_neD hu) snd_ne (pd_nrm (pd_var (pv 10))) (pd_nrm (pd_ix (pd_nrm (pd_var (pv 2))) (pd_neg (pd_int)))) (by rfl))))))⟩) (fun _ _ _ _ _ _ => ⟨_, (pd_var (pv 10))⟩))
  (pdss_cons (pds_if (pdt_w (pdw_and (pdt_cmp (op_eqD hu) snd_eq (pd_nrm (pd_var (pv 5))) (pd_nrm (pd_int)) (by rfl)) (pdw_and1 (pdt_cmp (op_neD hu) snd_ne (pd_nrm (pd_var (pv 8))) (pd_nrm (pd_lst (pda_nil))) (by rfl))))) (pdss_one (pds_ret (pd_tup (pda_cons (pd_op op_addA snd_add (pd_nrm (pd_slice (pd_nrm (pd_var (pv 2))) pdo_none (pdo_some (pd_neg (pd_int))))) (pd_nrm (pd_tup (pda_cons (pd_ix (pd_nrm (pd_var (pv 8))) (pd_int)) (pda_nil))))) (pda_cons (pd_var (pv 3)) (pda_cons (pd_var (pv 4)) (pda_nil))))))) pdss_nil)
  (pdss_cons (pds_if (pdt_cmp (op_eqD hu) snd_eq (pd_nrm (pd_var (pv 5))) (pd_nrm (pd_int)) (by rfl)) (pdss_cons (pds_setLcX (i := 9) rfl sc__law_otherwise.nd rfl rfl (by rfl) (pdi_seq (pd_nrm (pd_ix (pd_nrm (pd_var (pv 4))) (pd_var (pv 6))))) (own := [("_law_door", 11)]) (blkB_ok (by kernel_rfl)) (fun _ _ _ _ _ _ => ⟨_, (pdgw_name (pg_name sc__law_otherwise.nd (i := 11) rfl (Or.inl rfl)) (by decide))⟩) (fun _ _ _ _ _ _ => ⟨_, pdts_nil⟩) (fun _ _ _ _ _ _ => ⟨_, (pd_ix (pd_nrm (pd_lst (pda_cons (pd_var (pv 11)) (pda_cons (pd_tup (pda_cons (pd_ix (pd_nrm (pd_var (pv 3))) (pd_int)) (pda_cons (pd_int) (pda_nil)))) (pda_nil))))) (pd_callTy call_int1 snd_intOf rfl Z.b_int (by decide +kernel) (pda_cons (pd_nrm (pd_cmp op_isN snd_is (pd_nrm (pd_var (pv 11))) (pd_nrm (pd_non)) (by rfl))) (pda_nil))))⟩))
  (pdss_one (pds_ret (pd_tup (pda_cons (pd_var (pv 2)) (pda_cons (pd_var (pv 3)) (pda_cons (pd_op op_addA snd_add (pd_nrm (pd_op op_addA snd_add (pd_nrm (pd_slice (pd_nrm (pd_var (pv 4))) pdo_none (pdo_some (pd_var (pv 6))))) (pd_nrm (pd_tup (pda_cons (pd_callTy call_tuple_of snd_tup rfl Z.b_tuple (by decide +kernel) (pda_cons (pd_nrm (pd_var (pv 9))) (pda_nil))) (pda_nil)))))) (pd_nrm (pd_slice (pd_nrm (pd_var (pv 4))) (pdo_some (pd_op op_addA snd_add (pd_nrm (pd_var (pv 6))) (pd_nrm (pd_int)))) pdo_none))) (pda_nil)))))))) pdss_nil)
  (pdss_cons (pds_if (pdt_cmp (op_eqD hu) snd_eq (pd_nrm (pd_var (pv 5))) (pd_nrm (pd_int)) (by rfl)) (pdss_one (pds_ret (pd_tup (pda_cons (pd_var (pv 2)) (pda_cons (pd_var (pv 3)) (pda_cons (pd_op op_addA snd_add (pd_nrm (pd_op op_addA snd_add (pd_nrm (pd_slice (pd_nrm (pd_var (pv 4))) pdo_none (pdo_some (pd_var (pv 6))))) (pd_nrm (pd_tup (pda_cons (pd_op op_mulB snd_mulE (pd_nrm (pd_tup (pda_cons (pd_non) (pda_nil)))) (pd_nrm (pd_callB call_lenA snd_len rfl Z.b_len (by decide +kernel) (pda_cons (pd_nrm (pd_var (pv 2))) (pda_nil))))) (pda_nil)))))) (pd_nrm (pd_slice (pd_nrm (pd_var (pv 4))) (pdo_some (pd_op op_addA snd_add (pd_nrm (pd_var (pv 6))) (pd_nrm (pd_int)))) pdo_none))) (pda_nil))))))) pdss_nil)
  (pdss_cons (pds_if (pdt_w (pdw_and (pdt_cmp (op_eqD hu) snd_eq (pd_nrm (pd_var (pv 5))) (pd_nrm (pd_int)) (by rfl)) (pdw_and1 (pdt_cmp op_ltA snd_lt (pd_nrm (pd_callB call_lenA snd_len rfl Z.b_len (by decide +kernel) (pda_cons (pd_nrm (pd_var (pv 4))) (pda_nil)))) (pd_nrm (pd_int)) (by rfl))))) (pdss_one (pds_ret (pd_tup (pda_cons (pd_var (pv 2)) (pda_cons (pd_var (pv 3)) (pda_cons (pd_op op_addA snd_add (pd_nrm (pd_var (pv 4))) (pd_nrm (pd_slice (pd_nrm (pd_var (pv 4))) pdo_none (pdo_some (pd_int))))) (pda_nil))))))) pdss_nil)
  (pdss_cons (pds_if (pdt_cmp (op_eqD hu) snd_eq (pd_nrm (pd_var (pv 5))) (pd_nrm (pd_int)) (by rfl)) (pdss_cons (pds_set (i := 9) sc__law_otherwise.nd rfl (Or.inl rfl) (pd_op op_addA snd_add (pd_nrm (pd_tup (pda_cons (pd_tup (pda_cons (pd_ix (pd_nrm (pd_var (pv 3))) (pd_call F__law_draw (hr.mono (by decide)) rfl Z.g__law_draw kp__law_draw B__law_draw xo (pda_cons (pd_var (pv 0)) (pda_cons (pd_callB call_lenA snd_len rfl Z.b_len (by decide +kernel) (pda_cons (pd_nrm (pd_var (pv 3))) (pda_nil))) (pda_nil))))) (pda_cons (pd_call F__law_draw (hr.mono (by decide)) rfl Z.g__law_draw kp__law_draw B__law_draw xo (pda_cons (pd_var (pv 0)) (pda_cons (pd_callB call_lenA snd_len rfl Z.b_len (by decide +kernel) (pda_cons (pd_nrm (pd_var (pv 4))) (pda_nil))) (pda_nil)))) (pda_nil)))) (pda_nil)))) (pd_nrm (pd_slice (pd_nrm (pd_ix (pd_nrm (pd_var (pv 4))) (pd_var (pv 6)))) (pdo_some (pd_int)) pdo_none))))
  (pdss_one (pds_ret (pd_tup (pda_cons (pd_var (pv 2)) (pda_cons (pd_var (pv 3)) (pda_cons (pd_op op_addA snd_add (pd_nrm (pd_op op_addA snd_add (pd_nrm (pd_slice (pd_nrm (pd_var (pv 4))) pdo_none (pdo_some (pd_var (pv 6))))) (pd_nrm (pd_tup (pda_cons (pd_var (pv 9)) (pda_nil)))))) (pd_nrm (pd_slice (pd_nrm (pd_var (pv 4))) (pdo_some (pd_op op_addA snd_add (pd_nrm (pd_var (pv 6))) (pd_nrm (pd_int)))) pdo_none))) (pda_nil)))))))) pdss_nil)
  (pdss_one (pds_ret (pd_var (pv 1))))))))))))), ?_⟩
  rw [hW]
  exact L._law_otherwise h
def Ok_is_name (P : Program) (w : World) (K : PySem.W.Frag) (mg : Str → Option Value) (base : Heap) : Prop := ∃ fd, FnOk P w K mg base (L2.CX P w) 1 (He.ga K "is_name") fd ["thing"] (liftSp K (sp_is_name K)) ∧ Binds K fd ["thing"] []
theorem ok_is_name (Z : Fx K mg) (L : Lw K) (R : Rw P w K mg base) : Ok_is_name P w K mg base := by
  obtain ⟨fd, F⟩ := Z.d_is_name
  refine ⟨fd, fn_mkD F sc_is_name len1 (fun X Δ M ds Q E cx xo hW h => ?_), F.bindsN fun _ _ _ _ _ _ us hl => match us, hl with | [_], _ => rfl⟩
  obtain ⟨cdv, A, outer, s, H, Ev, eX, hr⟩ := cx
  subst eX
  have hu := hu_of hr
  have hu65 := hu65_of hr
  refine ⟨_, rd_is_name K Δ.Wd, (pdss_one (pds_ret (pd_and (pd_callB call_isi snd_isi rfl Z.b_isinstance (by decide +kernel) (pda_cons (pd_var (pv 0)) (pda_cons (pd_bltn rfl Z.b_str (by decide +kernel)) (pda_nil)))) (pd_and (pd_chain op_le snd_int op_le snd_int (pd_nrm (pd_int)) (pd_nrm (pd_callB call_lenA snd_len rfl Z.b_len (by decide +kernel) (pda_cons (pd_nrm (pd_var (pv 0))) (pda_nil)))) (pd_nrm (pd_globI rfl Z.i_MOST_NAME.choose_spec))) (pd_one (pd_callB (cr_all rfl) snd_all rfl Z.b_all (by decide +kernel) (pda_cons (pd_nrm (pd_lcX rfl sc_is_name.nd (pdi_seq (pd_nrm (pd_var (pv 0)))) (own := [("sign", 1)]) (blkB_ok (by kernel_rfl)) (fun _ _ _ _ _ _ => ⟨_, (pdgw_name (pg_name sc_is_name.nd (i := 1) rfl (Or.inl rfl)) (by decide))⟩) (fun _ _ _ _ _ _ => ⟨_, pdts_nil⟩) (fun _ _ _ _ _ _ => ⟨_, (pd_cmp op_inA (snd_in (neg := false)) (pd_nrm (pd_var (pv 1))) (pd_nrm (pd_globS rfl Z.s_SMALL.choose_spec)) (by rfl))⟩))) (pda_nil)))))))), ?_⟩
  rw [hW]
  exact L.is_name h
def Ok_are_names (P : Program) (w : World) (K : PySem.W.Frag) (mg : Str → Option Value) (base : Heap) : Prop := ∃ fd, FnOk P w K mg base (L2.CX P w) 2 (He.ga K "are_names") fd ["thing", "least", "most"] (liftSp K (sp_are_names K)) ∧ Binds K fd ["thing", "least", "most"] []
theorem ok_are_names (Z : Fx K mg) (L : Lw K) (R : Rw P w K mg base) : Ok_are_names P w K mg base := by
  obtain ⟨fd, F⟩ := Z.d_are_names
  obtain ⟨fd_is_name, F_is_name, B_is_name⟩ := ok_is_name (P := P) (w := w) (base := base) Z L R
  have kp_is_name : PySem.W.keepIn K (.ref (He.ga K "is_name")) = true := Z.d_is_name.choose_spec.kp
  refine ⟨fd, fn_mkD F sc_are_names len3 (fun X Δ M ds Q E cx xo hW h => ?_), F.bindsN fun _ _ _ _ _ _ us hl => match us, hl with | [_, _, _], _ => rfl⟩
  obtain ⟨cdv, A, outer, s, H, Ev, eX, hr⟩ := cx
  subst eX
  have hu := hu_of hr
  have hu65 := hu65_of hr
  refine ⟨_, rd_are_names K Δ.Wd, (pdss_cons (pds_if (pdt_w (pdw_or (pdt_not (pdt_tru (pd_nrm (pd_callB call_isi snd_isi rfl Z.b_isinstance (by decide +kernel) (pda_cons (pd_var (pv 0)) (pda_cons (pd_bltn rfl Z.b_tuple (by decide +kernel)) (pda_nil))))))) (pdw_or (pdt_not (pdt_chain op_le snd_int op_le snd_int (pd_nrm (pd_var (pv 1))) (pd_nrm (pd_callB call_lenA snd_len rfl Z.b_len (by decide +kernel) (pda_cons (pd_nrm (pd_var (pv 0))) (pda_nil)))) (pd_nrm (pd_var (pv 2))))) (pdw_or1 (pdt_not (pdt_tru (pd_nrm (pd_callB (cr_all rfl) snd_all rfl Z.b_all (by decide +kernel) (pda_cons (pd_nrm (pd_lcX rfl sc_are_names.nd (pdi_seq (pd_nrm (pd_var (pv 0)))) (own := [("one", 3)]) (blkB_ok (by kernel_rfl)) (fun _ _ _ _ _ _ => ⟨_, (pdgw_name (pg_name sc_are_names.nd (i := 3) rfl (Or.inl rfl)) (by decide))⟩) (fun _ _ _ _ _ _ => ⟨_, pdts_nil⟩) (fun _ _ _ _ _ _ => ⟨_, (pd_call F_is_name (hr.mono (by decide)) rfl Z.g_is_name kp_is_name B_is_name xok_blk (pda_cons (pd_var (pv 3)) (pda_nil)))⟩))) (pda_nil)))))))))) (pdss_one (pds_ret (pd_bl))) pdss_nil)
  (pdss_one (pds_ret (pd_callB (cr_all rfl) snd_all rfl Z.b_all (by decide +kernel) (pda_cons (pd_nrm (pd_lcX rfl sc_are_names.nd (pdi_zip2 rfl Z.b_zip (pda_cons (pd_nrm (pd_var (pv 0))) (pda_cons (pd_nrm (pd_slice (pd_nrm (pd_var (pv 0))) (pdo_some (pd_int)) pdo_none)) (pda_nil)))) (own := [("one", 3), ("other", 4)]) (blkB_ok (by kernel_rfl)) (fun _ _ _ _ _ _ => ⟨_, (pdgw_tup rfl (pdgws_cons (pdgw_name (pg_name sc_are_names.nd (i := 3) rfl (Or.inl rfl)) (by decide)) (pdgws_cons (pdgw_name (pg_name sc_are_names.nd (i := 4) rfl (Or.inl rfl)) (by decide)) (pdgws_nil))))⟩) (fun _ _ _ _ _ _ => ⟨_, pdts_nil⟩) (fun _ _ _ _ _ _ => ⟨_, (pd_cmp op_ltA snd_lt (pd_nrm (pd_var (pv 3))) (pd_nrm (pd_var (pv 4))) (by rfl))⟩))) (pda_nil)))))), ?_⟩
  rw [hW]
  exact L.are_names h
def Ok_is_count (P : Program) (w : World) (K : PySem.W.Frag) (mg : Str → Option Value) (base : Heap) : Prop := ∃ fd, FnOk P w K mg base (L2.CX P w) 1 (He.ga K "is_count") fd ["thing"] (liftSp K (sp_is_count K)) ∧ Binds K fd ["thing"] []
theorem ok_is_count (Z : Fx K mg) (L : Lw K) (R : Rw P w K mg base) : Ok_is_count P w K mg base := by
  obtain ⟨fd, F⟩ := Z.d_is_count
  refine ⟨fd, fn_mkD F sc_is_count len1 (fun X Δ M ds Q E cx xo hW h => ?_), F.bindsN fun _ _ _ _ _ _ us hl => match us, hl with | [_], _ => rfl⟩
  obtain ⟨cdv, A, outer, s, H, Ev, eX, hr⟩ := cx
  subst eX
  have hu := hu_of hr
  have hu65 := hu65_of hr
  refine ⟨_, rd_is_count K Δ.Wd, (pdss_one (pds_ret (pd_and (pd_callB call_isi snd_isi rfl Z.b_isinstance (by decide +kernel) (pda_cons (pd_var (pv 0)) (pda_cons (pd_bltn rfl Z.b_int (by decide +kernel)) (pda_nil)))) (pd_and (pd_not (pd_nrm (pd_callB call_isi snd_isi rfl Z.b_isinstance (by decide +kernel) (pda_cons (pd_var (pv 0)) (pda_cons (pd_bltn rfl Z.b_bool (by decide +kernel)) (pda_nil)))))) (pd_one (pd_cmp op_ge snd_int (pd_nrm (pd_var (pv 0))) (pd_nrm (pd_int)) (by rfl))))))), ?_⟩
  rw [hW]
  exact L.is_count h
def Ok_is_door (P : Program) (w : World) (K : PySem.W.Frag) (mg : Str → Option Value) (base : Heap) : Prop := ∃ fd, FnOk P w K mg base (L2.CX P w) 2 (He.ga K "is_door") fd ["thing", "signs", "many"] (liftSp K (sp_is_door K)) ∧ Binds K fd ["thing", "signs", "many"] []
theorem ok_is_door (Z : Fx K mg) (L : Lw K) (R : Rw P w K mg base) : Ok_is_door P w K mg base := by
  obtain ⟨fd, F⟩ := Z.d_is_door
  obtain ⟨fd_is_count, F_is_count, B_is_count⟩ := ok_is_count (P := P) (w := w) (base := base) Z L R
  have kp_is_count : PySem.W.keepIn K (.ref (He.ga K "is_count")) = true := Z.d_is_count.choose_spec.kp
  refine ⟨fd, fn_mkD F sc_is_door len3 (fun X Δ M ds Q E cx xo hW h => ?_), F.bindsN fun _ _ _ _ _ _ us hl => match us, hl with | [_, _, _], _ => rfl⟩
  obtain ⟨cdv, A, outer, s, H, Ev, eX, hr⟩ := cx
  subst eX
  have hu := hu_of hr
  have hu65 := hu65_of hr
  refine ⟨_, rd_is_door K Δ.Wd, (pdss_cons (pds_if (pdt_cmp op_isN snd_is (pd_nrm (pd_var (pv 0))) (pd_nrm (pd_non)) (by rfl)) (pdss_one (pds_ret (pd_bl))) pdss_nil)
  (pdss_cons (pds_if (pdt_w (pdw_or (pdt_not (pdt_tru (pd_nrm (pd_callB call_isi snd_isi rfl Z.b_isinstance (by decide +kernel) (pda_cons (pd_var (pv 0)) (pda_cons (pd_bltn rfl Z.b_tuple (by decide +kernel)) (pda_nil))))))) (pdw_or (pdt_cmp (op_neD hu) snd_ne (pd_nrm (pd_callB call_lenA snd_len rfl Z.b_len (by decide +kernel) (pda_cons (pd_nrm (pd_var (pv 0))) (pda_nil)))) (pd_nrm (pd_int)) (by rfl)) (pdw_or (pdt_not (pdt_tru (pd_nrm (pd_callB call_isi snd_isi rfl Z.b_isinstance (by decide +kernel) (pda_cons (pd_ix (pd_nrm (pd_var (pv 0))) (pd_int)) (pda_cons (pd_bltn rfl Z.b_str (by decide +kernel)) (pda_nil))))))) (pdw_or1 (pdt_cmp op_notInA (snd_in (neg := true)) (pd_nrm (pd_ix (pd_nrm (pd_var (pv 0))) (pd_int))) (pd_nrm (pd_var (pv 1))) (by rfl))))))) (pdss_one (pds_ret (pd_bl))) pdss_nil)
  (pdss_one (pds_ret (pd_and (pd_call F_is_count (hr.mono (by decide)) rfl Z.g_is_count kp_is_count B_is_count xo (pda_cons (pd_ix (pd_nrm (pd_var (pv 0))) (pd_int)) (pda_nil))) (pd_one (pd_cmp op_ltA snd_lt (pd_nrm (pd_ix (pd_nrm (pd_var (pv 0))) (pd_int))) (pd_nrm (pd_var (pv 2))) (by rfl)))))))), ?_⟩
  rw [hW]
  exact L.is_door h
def Ok_are_rooms (P : Program) (w : World) (K : PySem.W.Frag) (mg : Str → Option Value) (base : Heap) : Prop := ∃ fd, FnOk P w K mg base (L2.CX P w) 3 (He.ga K "are_rooms") fd ["thing", "letters", "signs"] (liftSp K (sp_are_rooms K)) ∧ Binds K fd ["thing", "letters", "signs"] []
theorem ok_are_rooms (Z : Fx K mg) (L : Lw K) (R : Rw P w K mg base) : Ok_are_rooms P w K mg base := by
  obtain ⟨fd, F⟩ := Z.d_are_rooms
  obtain ⟨fd_is_door, F_is_door, B_is_door⟩ := ok_is_door (P := P) (w := w) (base := base) Z L R
  have kp_is_door : PySem.W.keepIn K (.ref (He.ga K "is_door")) = true := Z.d_is_door.choose_spec.kp
  refine ⟨fd, fn_mkD F sc_are_rooms len3 (fun X Δ M ds Q E cx xo hW h => ?_), F.bindsN fun _ _ _ _ _ _ us hl => match us, hl with | [_, _, _], _ => rfl⟩
  obtain ⟨cdv, A, outer, s, H, Ev, eX, hr⟩ := cx
  subst eX
  have hu := hu_of hr
  have hu65 := hu65_of hr
  refine ⟨_, rd_are_rooms K Δ.Wd, (pdss_cons (pds_if (pdt_w (pdw_or (pdt_not (pdt_tru (pd_nrm (pd_callB call_isi snd_isi rfl Z.b_isinstance (by decide +kernel) (pda_cons (pd_var (pv 0)) (pda_cons (pd_bltn rfl Z.b_tuple (by decide +kernel)) (pda_nil))))))) (pdw_or1 (pdt_not (pdt_chain op_le snd_int op_le snd_int (pd_nrm (pd_int)) (pd_nrm (pd_callB call_lenA snd_len rfl Z.b_len (by decide +kernel) (pda_cons (pd_nrm (pd_var (pv 0))) (pda_nil)))) (pd_nrm (pd_globI rfl Z.i_MOST_ROOMS.choose_spec))))))) (pdss_one (pds_ret (pd_bl))) pdss_nil)
  (pdss_cons (pds_for (passes_of rfl) rfl (pdi_seq (pd_nrm (pd_var (pv 0)))) (pdg_name (pg_name sc_are_rooms.nd (i := 3) rfl (Or.inl rfl))) (pdss_cons (pds_if (pdt_w (pdw_or (pdt_not (pdt_tru (pd_nrm (pd_callB call_isi snd_isi rfl Z.b_isinstance (by decide +kernel) (pda_cons (pd_var (pv 3)) (pda_cons (pd_bltn rfl Z.b_tuple (by decide +kernel)) (pda_nil))))))) (pdw_or1 (pdt_cmp (op_neD hu) snd_ne (pd_nrm (pd_callB call_lenA snd_len rfl Z.b_len (by decide +kernel) (pda_cons (pd_nrm (pd_var (pv 3))) (pda_nil)))) (pd_nrm (pd_callB call_lenA snd_len rfl Z.b_len (by decide +kernel) (pda_cons (pd_nrm (pd_var (pv 1))) (pda_nil)))) (by rfl))))) (pdss_one (pds_ret (pd_bl))) pdss_nil)
  (pdss_one (pds_if (pdt_not (pdt_tru (pd_nrm (pd_callB (cr_all rfl) snd_all rfl Z.b_all (by decide +kernel) (pda_cons (pd_nrm (pd_lcX rfl sc_are_rooms.nd (pdi_seq (pd_nrm (pd_var (pv 3)))) (own := [("door", 4)]) (blkB_ok (by kernel_rfl)) (fun _ _ _ _ _ _ => ⟨_, (pdgw_name (pg_name sc_are_rooms.nd (i := 4) rfl (Or.inl rfl)) (by decide))⟩) (fun _ _ _ _ _ _ => ⟨_, pdts_nil⟩) (fun _ _ _ _ _ _ => ⟨_, (pd_call F_is_door (hr.mono (by decide)) rfl Z.g_is_door kp_is_door B_is_door xok_blk (pda_cons (pd_var (pv 4)) (pda_cons (pd_var (pv 2)) (pda_cons (pd_callB call_lenA snd_len rfl Z.b_len (by decide +kernel) (pda_cons (pd_nrm (pd_var (pv 0))) (pda_nil))) (pda_nil)))))⟩))) (pda_nil)))))) (pdss_one (pds_ret (pd_bl))) pdss_nil))))
  (pdss_one (pds_ret (pd_bl))))), ?_⟩
  rw [hW]
  exact L.are_rooms h
def Ok_Plan___init__ (P : Program) (w : World) (K : PySem.W.Frag) (mg : Str → Option Value) (base : Heap) : Prop := ∃ fd, FnOk P w K mg base (L2.CX P w) 4 (He.ma K (He.ga K "Plan") "__init__") fd ["self", "letters", "signs", "rooms"] (liftSp K (sp_Plan___init__ K)) ∧ Binds K fd ["self", "letters", "signs", "rooms"] []
theorem ok_Plan___init__ (Z : Fx K mg) (L : Lw K) (R : Rw P w K mg base) : Ok_Plan___init__ P w K mg base := by
  obtain ⟨fd, F⟩ := Z.d_Plan___init__
  obtain ⟨fd_are_names, F_are_names, B_are_names⟩ := ok_are_names (P := P) (w := w) (base := base) Z L R
  have kp_are_names : PySem.W.keepIn K (.ref (He.ga K "are_names")) = true := Z.d_are_names.choose_spec.kp
  obtain ⟨fd_are_rooms, F_are_rooms, B_are_rooms⟩ := ok_are_rooms (P := P) (w := w) (base := base) Z L R
  have kp_are_rooms : PySem.W.keepIn K (.ref (He.ga K "are_rooms")) = true := Z.d_are_rooms.choose_spec.kp
  refine ⟨fd, fn_mkD F sc_Plan___init__ len4 (fun X Δ M ds Q E cx xo hW h => ?_), F.bindsN fun _ _ _ _ _ _ us hl => match us, hl with | [_, _, _, _], _ => rfl⟩
  obtain ⟨cdv, A, outer, s, H, Ev, eX, hr⟩ := cx
  subst eX
  have hu := hu_of hr
  have hu65 := hu65_of hr
  refine ⟨_, rd_Plan___init__ K Δ.Wd, (pdss_cons (pds_if (pdt_w (pdw_or (pdt_not (pdt_tru (pd_nrm (pd_call F_are_names (hr.mono (by decide)) rfl Z.g_are_names kp_are_names B_are_names xo (pda_cons (pd_var (pv 1)) (pda_cons (pd_int) (pda_cons (pd_globI rfl Z.i_MOST_LETTERS.choose_spec) (pda_nil)))))))) (pdw_or1 (pdt_not (pdt_tru (pd_nrm (pd_call F_are_names (hr.mono (by decide)) rfl Z.g_are_names kp_are_names B_are_names xo (pda_cons (pd_var (pv 2)) (pda_cons (pd_globI rfl Z.i_LEAST_SIGNS.choose_spec) (pda_cons (pd_globI rfl Z.i_MOST_SIGNS.choose_spec) (pda_nil))))))))))) (pdss_one (pds_raise PySem.F.excBase_ValueError (He.exc_ok Z.e_NoPlan).1 Z.g_NoPlan (He.exc_ok Z.e_NoPlan).2.1 (raises_fa Z.e_NoPlan) rfl rfl xo)) pdss_nil)
  (pdss_cons (pds_if (pdt_not (pdt_tru (pd_nrm (pd_call F_are_rooms (hr.mono (by decide)) rfl Z.g_are_rooms kp_are_rooms B_are_rooms xo (pda_cons (pd_var (pv 3)) (pda_cons (pd_var (pv 1)) (pda_cons (pd_var (pv 2)) (pda_nil)))))))) (pdss_one (pds_raise PySem.F.excBase_ValueError (He.exc_ok Z.e_NoPlan).1 Z.g_NoPlan (He.exc_ok Z.e_NoPlan).2.1 (raises_fa Z.e_NoPlan) rfl rfl xo)) pdss_nil)
  (pdss_cons (pds_fld (pd_var (pv 0)) (pd_var (pv 1)) Z.cl_Plan Z.na_Plan_own_letters)
  (pdss_cons (pds_fld (pd_var (pv 0)) (pd_var (pv 2)) Z.cl_Plan Z.na_Plan_own_signs)
  (pdss_one (pds_fld (pd_var (pv 0)) (pd_var (pv 3)) Z.cl_Plan Z.na_Plan_own_rooms)))))), ?_⟩
  rw [hW]
  exact L.Plan___init__ h
def Ok_Plan___len__ (P : Program) (w : World) (K : PySem.W.Frag) (mg : Str → Option Value) (base : Heap) : Prop := ∃ fd, FnOk P w K mg base (L2.CX P w) 1 (He.ma K (He.ga K "Plan") "__len__") fd ["self"] (liftSp K (sp_Plan___len__ K)) ∧ Binds K fd ["self"] []
theorem ok_Plan___len__ (Z : Fx K mg) (L : Lw K) (R : Rw P w K mg base) : Ok_Plan___len__ P w K mg base := by
  obtain ⟨fd, F⟩ := Z.d_Plan___len__
  refine ⟨fd, fn_mkD F sc_Plan___len__ len1 (fun X Δ M ds Q E cx xo hW h => ?_), F.bindsN fun _ _ _ _ _ _ us hl => match us, hl with | [_], _ => rfl⟩
  obtain ⟨cdv, A, outer, s, H, Ev, eX, hr⟩ := cx
  subst eX
  have hu := hu_of hr
  have hu65 := hu65_of hr
  refine ⟨_, rd_Plan___len__ K Δ.Wd, (pdss_one (pds_ret (pd_callB call_lenA snd_len rfl Z.b_len (by decide +kernel) (pda_cons (pd_nrm (pd_fld (pd_var (pv 0)) Z.cl_Plan Z.na_Plan_own_rooms)) (pda_nil))))), ?_⟩
  rw [hW]
  exact L.Plan___len__ h
def Ok_Plan_rooms (P : Program) (w : World) (K : PySem.W.Frag) (mg : Str → Option Value) (base : Heap) : Prop := ∃ fd, FnOk P w K mg base (L2.CX P w) 1 (He.ma K (He.ga K "Plan") "rooms") fd ["self"] (liftSp K (sp_Plan_rooms K)) ∧ Binds K fd ["self"] []
theorem ok_Plan_rooms (Z : Fx K mg) (L : Lw K) (R : Rw P w K mg base) : Ok_Plan_rooms P w K mg base := by
  obtain ⟨fd, F⟩ := Z.d_Plan_rooms
  refine ⟨fd, fn_mkD F sc_Plan_rooms len1 (fun X Δ M ds Q E cx xo hW h => ?_), F.bindsN fun _ _ _ _ _ _ us hl => match us, hl with | [_], _ => rfl⟩
  obtain ⟨cdv, A, outer, s, H, Ev, eX, hr⟩ := cx
  subst eX
  have hu := hu_of hr
  have hu65 := hu65_of hr
  refine ⟨_, rd_Plan_rooms K Δ.Wd, (pdss_one (pds_ret (pd_fld (pd_var (pv 0)) Z.cl_Plan Z.na_Plan_own_rooms))), ?_⟩
  rw [hW]
  exact L.Plan_rooms h
def Ok_Plan_signs (P : Program) (w : World) (K : PySem.W.Frag) (mg : Str → Option Value) (base : Heap) : Prop := ∃ fd, FnOk P w K mg base (L2.CX P w) 1 (He.ma K (He.ga K "Plan") "signs") fd ["self"] (liftSp K (sp_Plan_signs K)) ∧ Binds K fd ["self"] []
theorem ok_Plan_signs (Z : Fx K mg) (L : Lw K) (R : Rw P w K mg base) : Ok_Plan_signs P w K mg base := by
  obtain ⟨fd, F⟩ := Z.d_Plan_signs
  refine ⟨fd, fn_mkD F sc_Plan_signs len1 (fun X Δ M ds Q E cx xo hW h => ?_), F.bindsN fun _ _ _ _ _ _ us hl => match us, hl with | [_], _ => rfl⟩
  obtain ⟨cdv, A, outer, s, H, Ev, eX, hr⟩ := cx
  subst eX
  have hu := hu_of hr
  have hu65 := hu65_of hr
  refine ⟨_, rd_Plan_signs K Δ.Wd, (pdss_one (pds_ret (pd_fld (pd_var (pv 0)) Z.cl_Plan Z.na_Plan_own_signs))), ?_⟩
  rw [hW]
  exact L.Plan_signs h
def Ok_Plan_letters (P : Program) (w : World) (K : PySem.W.Frag) (mg : Str → Option Value) (base : Heap) : Prop := ∃ fd, FnOk P w K mg base (L2.CX P w) 1 (He.ma K (He.ga K "Plan") "letters") fd ["self"] (liftSp K (sp_Plan_letters K)) ∧ Binds K fd ["self"] []
theorem ok_Plan_letters (Z : Fx K mg) (L : Lw K) (R : Rw P w K mg base) : Ok_Plan_letters P w K mg base := by
  obtain ⟨fd, F⟩ := Z.d_Plan_letters
  refine ⟨fd, fn_mkD F sc_Plan_letters len1 (fun X Δ M ds Q E cx xo hW h => ?_), F.bindsN fun _ _ _ _ _ _ us hl => match us, hl with | [_], _ => rfl⟩
  obtain ⟨cdv, A, outer, s, H, Ev, eX, hr⟩ := cx
  subst eX
  have hu := hu_of hr
  have hu65 := hu65_of hr
  refine ⟨_, rd_Plan_letters K Δ.Wd, (pdss_one (pds_ret (pd_fld (pd_var (pv 0)) Z.cl_Plan Z.na_Plan_own_letters))), ?_⟩
  rw [hW]
  exact L.Plan_letters h
def Ok_Plan_is_full (P : Program) (w : World) (K : PySem.W.Frag) (mg : Str → Option Value) (base : Heap) : Prop := ∃ fd, FnOk P w K mg base (L2.CX P w) 1 (He.ma K (He.ga K "Plan") "is_full") fd ["self"] (liftSp K (sp_Plan_is_full K)) ∧ Binds K fd ["self"] []
theorem ok_Plan_is_full (Z : Fx K mg) (L : Lw K) (R : Rw P w K mg base) : Ok_Plan_is_full P w K mg base := by
  obtain ⟨fd, F⟩ := Z.d_Plan_is_full
  refine ⟨fd, fn_mkD F sc_Plan_is_full len1 (fun X Δ M ds Q E cx xo hW h => ?_), F.bindsN fun _ _ _ _ _ _ us hl => match us, hl with | [_], _ => rfl⟩
  obtain ⟨cdv, A, outer, s, H, Ev, eX, hr⟩ := cx
  subst eX
  have hu := hu_of hr
  have hu65 := hu65_of hr
  refine ⟨_, rd_Plan_is_full K Δ.Wd, (pdss_one (pds_ret (pd_not (pd_nrm (pd_callB (cr_any rfl) snd_any rfl Z.b_any (by decide +kernel) (pda_cons (pd_nrm (pd_lc2X rfl sc_Plan_is_full.nd (pdi_seq (pd_nrm (pd_fld (pd_var (pv 0)) Z.cl_Plan Z.na_Plan_own_rooms))) (own := [("doors", 1), ("door", 2)]) (vs1 := [2]) (blkB_ok (by kernel_rfl)) (by decide) (fun _ _ _ _ _ _ => ⟨_, (pdgw_name (pg_name sc_Plan_is_full.nd (i := 1) rfl (Or.inl rfl)) (by decide))⟩) (fun _ _ _ _ _ _ => ⟨_, pdts_nil⟩) (fun _ _ _ _ _ _ => ⟨_, (pdi_seq (pd_nrm (pd_var (pv 1))))⟩) (fun _ _ _ _ _ _ => ⟨_, (pdgw_name (pg_name sc_Plan_is_full.nd (i := 2) rfl (Or.inl rfl)) (by decide))⟩) (fun _ _ _ _ _ _ => ⟨_, pdts_nil⟩) (fun _ _ _ _ _ _ => ⟨_, (pd_cmp op_isN snd_is (pd_nrm (pd_var (pv 2))) (pd_nrm (pd_non)) (by rfl))⟩))) (pda_nil))))))), ?_⟩
  rw [hW]
  exact L.Plan_is_full h
def Ok__law_right (P : Program) (w : World) (K : PySem.W.Frag) (mg : Str → Option Value) (base : Heap) : Prop := ∃ fd, OkG P w K mg base 3 (He.ga K "_law_right") fd ["_law_yard", "_law_parts_here"] (sp__law_right K) ∧ Binds K fd ["_law_yard", "_law_parts_here"] []
theorem ok__law_right (Z : Fx K mg) (L : Lw K) (R : Rw P w K mg base) : Ok__law_right P w K mg base := by
  obtain ⟨fd, F⟩ := Z.d__law_right
  obtain ⟨fd_Plan___len__, F_Plan___len__, B_Plan___len__⟩ := ok_Plan___len__ (P := P) (w := w) (base := base) Z L R
  obtain ⟨fd_Plan_rooms, F_Plan_rooms, B_Plan_rooms⟩ := ok_Plan_rooms (P := P) (w := w) (base := base) Z L R
  obtain ⟨fd_Plan_signs, F_Plan_signs, B_Plan_signs⟩ := ok_Plan_signs (P := P) (w := w) (base := base) Z L R
  obtain ⟨fd_Plan_letters, F_Plan_letters, B_Plan_letters⟩ := ok_Plan_letters (P := P) (w := w) (base := base) Z L R
  obtain ⟨fd_Plan_is_full, F_Plan_is_full, B_Plan_is_full⟩ := ok_Plan_is_full (P := P) (w := w) (base := base) Z L R
  refine ⟨fd, okG_mk F sc__law_right len2 (fun X Δ M ds Q E cx hq xo hW h => ?_), F.bindsN fun _ _ _ _ _ _ us hl => match us, hl with | [_, _], _ => rfl⟩
  obtain ⟨cdv, A, outer, s, H, Ev, eX, hr⟩ := cx
  subst eX
  have hu := hu_of hr
  have hu65 := hu65_of hr
  refine ⟨_, rd__law_right K Δ.Wd, (pdss_cons (pds_asg (pd_nrm (pd_var (pv 1))) (pdg_tup rfl (pdgs_cons (pdg_name (pg_name sc__law_right.nd (i := 2) rfl (Or.inl rfl))) (pdgs_cons (pdg_name (pg_name sc__law_right.nd (i := 3) rfl (Or.inl rfl))) (pdgs_cons (pdg_name (pg_name sc__law_right.nd (i := 4) rfl (Or.inl rfl))) (pdgs_nil))))))
  (pdss_cons (pds_set (i := 5) sc__law_right.nd rfl (Or.inl rfl) (pd_lst (pda_cons (pd_meth0 (pd_var (pv 0)) Z.cl_Plan Z.m_Plan_letters F_Plan_letters (hr.mono (by decide)) B_Plan_letters xo) (pda_cons (pd_meth0 (pd_var (pv 0)) Z.cl_Plan Z.m_Plan_signs F_Plan_signs (hr.mono (by decide)) B_Plan_signs xo) (pda_cons (pd_meth0 (pd_var (pv 0)) Z.cl_Plan Z.m_Plan_rooms F_Plan_rooms (hr.mono (by decide)) B_Plan_rooms xo) (pda_cons (pd_callB (call_lenO F_Plan___len__ (hr.mono (by decide)) Z.m_Plan___len__ B_Plan___len__) snd_lenO rfl Z.b_len (by decide +kernel) (pda_cons (pd_var (pv 0)) (pda_nil))) (pda_nil)))))))
  (pdss_cons (pds_if (pdt_cmp (op_neD hu) snd_ne (pd_nrm (pd_callB (call_repr hq hu) snd_repr rfl Z.b_repr (by decide +kernel) (pda_cons (pd_nrm (pd_var (pv 5))) (pda_nil)))) (pd_nrm (pd_callB (call_repr hq hu) snd_repr rfl Z.b_repr (by decide +kernel) (pda_cons (pd_nrm (pd_lst (pda_cons (pd_var (pv 2)) (pda_cons (pd_var (pv 3)) (pda_cons (pd_var (pv 4)) (pda_cons (pd_callB call_lenA snd_len rfl Z.b_len (by decide +kernel) (pda_cons (pd_nrm (pd_var (pv 4))) (pda_nil))) (pda_nil))))))) (pda_nil)))) (by rfl)) (pdss_one (pds_ret (pd_bl))) pdss_nil)
  (pdss_cons (pds_setLcX (i := 6) rfl sc__law_right.nd rfl rfl (by rfl) (pdi_seq (pd_nrm (pd_var (pv 4)))) (own := [("_law_doors", 7)]) (blkB_ok (by kernel_rfl)) (fun _ _ _ _ _ _ => ⟨_, (pdgw_name (pg_name sc__law_right.nd (i := 7) rfl (Or.inl rfl)) (by decide))⟩) (fun _ _ _ _ _ _ => ⟨_, (pdts_one (pdt_cmp (op_inT hu65) (snd_inT (neg := false)) (pd_nrm (pd_non)) (pd_nrm (pd_var (pv 7))) (by rfl)))⟩) (fun _ _ _ _ _ _ => ⟨_, (pd_var (pv 7))⟩))
  (pdss_one (pds_ret (pd_cmp (op_eqD hu) snd_eq (pd_nrm (pd_meth0 (pd_var (pv 0)) Z.cl_Plan Z.m_Plan_is_full F_Plan_is_full (hr.mono (by decide)) B_Plan_is_full xo)) (pd_nrm (pd_cmp (op_eqD hu) snd_eq (pd_nrm (pd_var (pv 6))) (pd_nrm (pd_lst (pda_nil))) (by rfl))) (by rfl)))))))), ?_⟩
  rw [hW]
  exact L._law_right h
def Ok_Plan___eq__ (P : Program) (w : World) (K : PySem.W.Frag) (mg : Str → Option Value) (base : Heap) : Prop := ∃ fd, FnOk P w K mg base (L2.CX P w) 1 (He.ma K (He.ga K "Plan") "__eq__") fd ["self", "other"] (liftSp K (sp_Plan___eq__ K)) ∧ Binds K fd ["self", "other"] []
theorem ok_Plan___eq__ (Z : Fx K mg) (L : Lw K) (R : Rw P w K mg base) : Ok_Plan___eq__ P w K mg base := by
  obtain ⟨fd, F⟩ := Z.d_Plan___eq__
  refine ⟨fd, fn_mkD F sc_Plan___eq__ len2 (fun X Δ M ds Q E cx xo hW h => ?_), F.bindsN fun _ _ _ _ _ _ us hl => match us, hl with | [_, _], _ => rfl⟩
  obtain ⟨cdv, A, outer, s, H, Ev, eX, hr⟩ := cx
  subst eX
  have hu := hu_of hr
  have hu65 := hu65_of hr
  refine ⟨_, rd_Plan___eq__ K Δ.Wd, (pdss_cons (pds_if (pdt_w (pdw_or (pdt_not (pdt_tru (pd_nrm (pd_callB call_isi snd_isiO rfl Z.b_isinstance (by decide +kernel) (pda_cons (pd_var (pv 1)) (pda_cons (pd_globR rfl Z.g_Plan) (pda_nil))))))) (pdw_or (pdt_cmp (op_neD hu) snd_ne (pd_nrm (pd_fld (pd_var (pv 0)) Z.cl_Plan Z.na_Plan_own_letters)) (pd_nrm (pd_fld (pd_var (pv 1)) Z.cl_Plan Z.na_Plan_own_letters)) (by rfl)) (pdw_or1 (pdt_cmp (op_neD hu) snd_ne (pd_nrm (pd_fld (pd_var (pv 0)) Z.cl_Plan Z.na_Plan_own_signs)) (pd_nrm (pd_fld (pd_var (pv 1)) Z.cl_Plan Z.na_Plan_own_signs)) (by rfl)))))) (pdss_one (pds_ret (pd_bl))) pdss_nil)
  (pdss_one (pds_ret (pd_cmp (op_eqD hu) snd_eq (pd_nrm (pd_fld (pd_var (pv 0)) Z.cl_Plan Z.na_Plan_own_rooms)) (pd_nrm (pd_fld (pd_var (pv 1)) Z.cl_Plan Z.na_Plan_own_rooms)) (by rfl))))), ?_⟩
  rw [hW]
  exact L.Plan___eq__ h
theorem okl_law (Z : Fx K mg) (L : Lw K) (R : Rw P w K mg base) {fd : FuncData} (F : FunD K "law" "law" (defArgs (top 24)) (defBody (top 24)) (defScope (top 24)) [] [] (He.ga K "law") fd) : OkG P w K mg base 6 (He.ga K "law") fd ["_law_script"] (sp_law K) := by
  obtain ⟨fd__law_begun, F__law_begun, B__law_begun⟩ := ok__law_begun (P := P) (w := w) (base := base) Z L R
  have kp__law_begun : PySem.W.keepIn K (.ref (He.ga K "_law_begun")) = true := Z.d__law_begun.choose_spec.kp
  obtain ⟨fd__law_draw, F__law_draw, B__law_draw⟩ := ok__law_draw (P := P) (w := w) (base := base) Z L R
  have kp__law_draw : PySem.W.keepIn K (.ref (He.ga K "_law_draw")) = true := Z.d__law_draw.choose_spec.kp
  obtain ⟨fd__law_parts, F__law_parts, B__law_parts⟩ := ok__law_parts (P := P) (w := w) (base := base) Z L R
  have kp__law_parts : PySem.W.keepIn K (.ref (He.ga K "_law_parts")) = true := Z.d__law_parts.choose_spec.kp
  obtain ⟨fd__law_otherwise, F__law_otherwise, B__law_otherwise⟩ := ok__law_otherwise (P := P) (w := w) (base := base) Z L R
  have kp__law_otherwise : PySem.W.keepIn K (.ref (He.ga K "_law_otherwise")) = true := Z.d__law_otherwise.choose_spec.kp
  obtain ⟨fd_Plan___init__, F_Plan___init__, B_Plan___init__⟩ := ok_Plan___init__ (P := P) (w := w) (base := base) Z L R
  obtain ⟨fd__law_right, F__law_right, B__law_right⟩ := ok__law_right (P := P) (w := w) (base := base) Z L R
  have kp__law_right : PySem.W.keepIn K (.ref (He.ga K "_law_right")) = true := Z.d__law_right.choose_spec.kp
  obtain ⟨fd_Plan___eq__, F_Plan___eq__, B_Plan___eq__⟩ := ok_Plan___eq__ (P := P) (w := w) (base := base) Z L R
  refine okG_mk F sc_law len1 (fun X Δ M ds Q E cx hq xo hW h => ?_)
  obtain ⟨cdv, A, outer, s, H, Ev, eX, hr⟩ := cx
  subst eX
  have hu := hu_of hr
  have hu65 := hu65_of hr
  refine ⟨_, rd_law K Δ.Wd, (pdss_cons (pds_set (i := 1) sc_law.nd rfl (Or.inl rfl) (pd_call F__law_begun (hr.mono (by decide)) rfl Z.g__law_begun kp__law_begun B__law_begun xo (pda_cons (pd_var (pv 0)) (pda_nil))))
  (pdss_cons (pds_for (passes_of rfl) rfl (pdi_rng1 rfl Z.b_range (pda_cons (pd_nrm (pd_int)) (pda_nil))) (pdg_name (pg_name sc_law.nd (i := 2) rfl (Or.inl rfl))) (pdss_cons (pds_set (i := 3) sc_law.nd rfl (Or.inl rfl) (pd_ix (pd_nrm (pd_lst (pda_cons (pd_op op_addA snd_add (pd_nrm (pd_int)) (pd_nrm (pd_call F__law_draw (hr.mono (by decide)) rfl Z.g__law_draw kp__law_draw B__law_draw xo (pda_cons (pd_var (pv 1)) (pda_cons (pd_int) (pda_nil)))))) (pda_cons (pd_int) (pda_nil))))) (pd_op op_fdiv snd_div (pd_nrm (pd_call F__law_draw (hr.mono (by decide)) rfl Z.g__law_draw kp__law_draw B__law_draw xo (pda_cons (pd_var (pv 1)) (pda_cons (pd_int) (pda_nil))))) (pd_nrm (pd_int)))))
  (pdss_cons (pds_set (i := 4) sc_law.nd rfl (Or.inl rfl) (pd_call F__law_parts (hr.mono (by decide)) rfl Z.g__law_parts kp__law_parts B__law_parts xo (pda_cons (pd_var (pv 1)) (pda_cons (pd_var (pv 3)) (pda_cons (pd_int) (pda_cons (pd_ix (pd_nrm (pd_lst (pda_cons (pd_int) (pda_cons (pd_int) (pda_nil))))) (pd_call F__law_draw (hr.mono (by decide)) rfl Z.g__law_draw kp__law_draw B__law_draw xo (pda_cons (pd_var (pv 1)) (pda_cons (pd_int) (pda_nil))))) (pda_nil)))))))
  (pdss_cons (pds_set (i := 5) sc_law.nd rfl (Or.inl rfl) (pd_call F__law_otherwise (hr.mono (by decide)) rfl Z.g__law_otherwise kp__law_otherwise B__law_otherwise xo (pda_cons (pd_var (pv 1)) (pda_cons (pd_var (pv 4)) (pda_nil)))))
  (pdss_cons (pds_par (i := 6) (j := 7) rfl sc_law.nd rfl rfl (by decide) rfl rfl (pd_make Z.mk_Plan F_Plan___init__ (hr.mono (by decide)) rfl Z.g_Plan B_Plan___init__ xo (pda_cons (pd_ix (pd_nrm (pd_var (pv 4))) (pd_int)) (pda_cons (pd_ix (pd_nrm (pd_var (pv 4))) (pd_int)) (pda_cons (pd_ix (pd_nrm (pd_var (pv 4))) (pd_int)) (pda_nil))))) (pd_make Z.mk_Plan F_Plan___init__ (hr.mono (by decide)) rfl Z.g_Plan B_Plan___init__ xo (pda_cons (pd_ix (pd_nrm (pd_var (pv 5))) (pd_int)) (pda_cons (pd_ix (pd_nrm (pd_var (pv 5))) (pd_int)) (pda_cons (pd_ix (pd_nrm (pd_var (pv 5))) (pd_int)) (pda_nil))))))
  (pdss_cons (pds_if (pdt_w (pdw_or (pdt_not (pdt_tru (pd_nrm (pd_callG F__law_right (hr.mono (by decide)) hq len2 rfl Z.g__law_right kp__law_right B__law_right xo (pda_cons (pd_var (pv 6)) (pda_cons (pd_var (pv 4)) (pda_nil))))))) (pdw_or (pdt_not (pdt_tru (pd_nrm (pd_callG F__law_right (hr.mono (by decide)) hq len2 rfl Z.g__law_right kp__law_right B__law_right xo (pda_cons (pd_var (pv 7)) (pda_cons (pd_var (pv 5)) (pda_nil))))))) (pdw_or1 (pdt_not (pdt_tru (pd_nrm (pd_callG F__law_right (hr.mono (by decide)) hq len2 rfl Z.g__law_right kp__law_right B__law_right xo (pda_cons (pd_var (pv 6)) (pda_cons (pd_var (pv 4)) (pda_nil))))))))))) (pdss_one (pds_ret (pd_bl))) pdss_nil)
  (pdss_cons (pds_set (i := 8) sc_law.nd rfl (Or.inl rfl) (pd_cmp (op_eqD hu) snd_eq (pd_nrm (pd_var (pv 4))) (pd_nrm (pd_var (pv 5))) (by rfl)))
  (pdss_cons (pds_if (pdt_w (pdw_or (pdt_cmp (op_neD hu) snd_ne (pd_nrm (pd_cmp (op_ownEq F_Plan___eq__ (hr.mono (by decide)) Z.m_Plan___eq__ B_Plan___eq__) (snd_own (neg := false)) (pd_nrm (pd_var (pv 6))) (pd_nrm (pd_var (pv 7))) (by rfl))) (pd_nrm (pd_var (pv 8))) (by rfl)) (pdw_or (pdt_cmp (op_neD hu) snd_ne (pd_nrm (pd_cmp (op_ownEq F_Plan___eq__ (hr.mono (by decide)) Z.m_Plan___eq__ B_Plan___eq__) (snd_own (neg := false)) (pd_nrm (pd_var (pv 7))) (pd_nrm (pd_var (pv 6))) (by rfl))) (pd_nrm (pd_var (pv 8))) (by rfl)) (pdw_or1 (pdt_cmp (op_eqD hu) snd_eq (pd_nrm (pd_cmp (op_ownNe F_Plan___eq__ (hr.mono (by decide)) Z.m_Plan___eq__ Z.ne_Plan Z.all_Plan B_Plan___eq__) (snd_own (neg := true)) (pd_nrm (pd_var (pv 6))) (pd_nrm (pd_var (pv 7))) (by rfl))) (pd_nrm (pd_var (pv 8))) (by rfl)))))) (pdss_one (pds_ret (pd_bl))) pdss_nil)
  (pdss_one (pds_if (pdt_w (pdw_or (pdt_cmp (op_ownEq F_Plan___eq__ (hr.mono (by decide)) Z.m_Plan___eq__ B_Plan___eq__) (snd_own (neg := false)) (pd_nrm (pd_var (pv 6))) (pd_nrm (pd_var (pv 4))) (by rfl)) (pdw_or (pdt_cmp (op_ownEq F_Plan___eq__ (hr.mono (by decide)) Z.m_Plan___eq__ B_Plan___eq__) (snd_own (neg := false)) (pd_nrm (pd_var (pv 6))) (pd_nrm (pd_ix (pd_nrm (pd_var (pv 4))) (pd_int))) (by rfl)) (pdw_or1 (pdt_not (pdt_cmp (op_ownEq F_Plan___eq__ (hr.mono (by decide)) Z.m_Plan___eq__ B_Plan___eq__) (snd_own (neg := false)) (pd_nrm (pd_var (pv 6))) (pd_nrm (pd_make Z.mk_Plan F_Plan___init__ (hr.mono (by decide)) rfl Z.g_Plan B_Plan___init__ xo (pda_cons (pd_ix (pd_nrm (pd_var (pv 4))) (pd_int)) (pda_cons (pd_ix (pd_nrm (pd_var (pv 4))) (pd_int)) (pda_cons (pd_ix (pd_nrm (pd_var (pv 4))) (pd_int)) (pda_nil)))))) (by rfl))))))) (pdss_one (pds_ret (pd_bl))) pdss_nil))))))))))
  (pdss_one (pds_ret (pd_bl))))), ?_⟩
  rw [hW]
  exact L.law h
end
end BB

set_option maxHeartbeats 4000000
namespace BB
open L2 PySem PySem.Spec PyProof.Rows
theorem lwAll (K : PySem.W.Frag) : Lw K where
  _law_name := lw__law_name
  _law_names := lw__law_names
  _law_parts := lw__law_parts
  _law_otherwise := lw__law_otherwise
  is_name := lw_is_name
  are_names := lw_are_names
  is_count := lw_is_count
  is_door := lw_is_door
  are_rooms := lw_are_rooms
  Plan___init__ := lw_Plan___init__
  Plan___len__ := lw_Plan___len__
  Plan_rooms := lw_Plan_rooms
  Plan_signs := lw_Plan_signs
  Plan_letters := lw_Plan_letters
  Plan_is_full := lw_Plan_is_full
  _law_right := lw__law_right
  Plan___eq__ := lw_Plan___eq__
  law := lw_law
section
variable {base : Heap} {mg : Str → Option Value} {K : PySem.W.Frag} {P : Program} {w : World}
theorem lenX : ∀ ds M Q E, spX_draw ds M Q E → ds.length = 2 := by
  rintro _ _ _ _ ⟨_, _, _, _, _, _, _, rfl, _⟩
  rfl
theorem ok_draw (Z : Fx K mg) : Ok__law_draw P w K mg base := by
  obtain ⟨fd, F⟩ := Z.d__law_draw
  have F1 : FnOk P w K mg base (L2.CX P w) 1 (He.ga K "_law_draw") fd ["_law_state", "_law_many"] (liftSp K spX_draw) := by
    refine fn_mkD F sc__law_draw lenX (fun X Δ M ds Q E cx xo hW h => ?_)
    obtain ⟨cdv, A, outer, s, H, Ev, eX, hr⟩ := cx
    subst eX
    have hu := hu_of hr
    exact ⟨_, rdX_draw, (pdss_cons (pds_set (i := 2) sc__law_draw.nd rfl (Or.inl rfl) (pd_ix (pd_nrm (pd_var (pv 0))) (pd_int)))
  (pdss_cons (pds_set (i := 3) sc__law_draw.nd rfl (Or.inl rfl) (pd_op op_mod snd_mod (pd_nrm (pd_ix (pd_nrm (pd_var (pv 0))) (pd_int))) (pd_nrm (pd_callB call_lenA snd_len rfl Z.b_len (by decide +kernel) (pda_cons (pd_nrm (pd_var (pv 2))) (pda_nil))))))
  (pdss_cons (pds_set (i := 4) sc__law_draw.nd rfl (Or.inl rfl) (pd_ix (pd_nrm (pd_var (pv 2))) (pd_var (pv 3))))
  (pdss_cons (pds_if (pdt_cmp op_ge snd_int (pd_nrm (pd_var (pv 4))) (pd_nrm (pd_int)) (by rfl)) (pdss_cons (pds_asg (pd_op op_fdiv snd_div (pd_nrm (pd_var (pv 4))) (pd_nrm (pd_var (pv 1)))) (pdg_sub (pd_var (pv 2)) (pd_var (pv 3))))
  (pdss_one (pds_ret (pd_op op_mod snd_mod (pd_nrm (pd_var (pv 4))) (pd_nrm (pd_var (pv 1))))))) pdss_nil)
  (pdss_cons (pds_asg (pd_op op_addA snd_add (pd_nrm (pd_ix (pd_nrm (pd_var (pv 0))) (pd_int))) (pd_nrm (pd_int))) (pdg_sub (pd_var (pv 0)) (pd_int)))
  (pdss_cons (pds_asg (pd_op op_mod snd_mod (pd_nrm (pd_op op_addA snd_add (pd_nrm (pd_op op_addA snd_add (pd_nrm (pd_op op_mulB snd_mulE (pd_nrm (pd_ix (pd_nrm (pd_var (pv 0))) (pd_int))) (pd_nrm (pd_int)))) (pd_nrm (pd_var (pv 4))))) (pd_nrm (pd_int)))) (pd_nrm (pd_int))) (pdg_sub (pd_var (pv 0)) (pd_int)))
  (pdss_one (pds_ret (pd_op op_mod snd_mod (pd_nrm (pd_op op_fdiv snd_div (pd_nrm (pd_op op_mod snd_mod (pd_nrm (pd_op op_mulB snd_mulE (pd_nrm (pd_ix (pd_nrm (pd_var (pv 0))) (pd_int))) (pd_nrm (pd_ix (pd_nrm (pd_var (pv 0))) (pd_int))))) (pd_nrm (pd_int)))) (pd_nrm (pd_int)))) (pd_nrm (pd_var (pv 1)))))))))))), lwX_draw h⟩
  refine ⟨fd, F1.imp (fun vs H Q E h => ?_), F.bindsN fun _ _ _ _ _ _ us hl => match us, hl with | [_, _], _ => rfl⟩
  obtain ⟨F0, I, M, ds, Qd, Ed, A, r, ⟨s, n, rfl, a, c, m, rfl, hm, rfl, h0, h1, q⟩, hn, hx⟩ := h
  obtain ⟨cells, p, x, g, hca, hMc, A1⟩ := A.explode hm
  refine ⟨F0, I, _, [.ref a, .int m], fun d M' => ∃ cells' p' x' r, Good cells' p' x' ∧ 0 ≤ r ∧ r < m ∧ d = .int r ∧ M' = openM M a c cells' p' x', fun _ _ _ => False, A1, r,
    ⟨a, c, M, cells, p, x, m, rfl, hca, rfl, g, h0, h1, fun cells' p' x' r g' k1 k2 => ⟨cells', p', x', r, g', k1, k2, rfl, rfl⟩⟩, ?_, fun _ _ _ _ _ _ _ _ _ w => w.elim⟩
  rintro d M' I' H' v x2 A2 rv ⟨cells', p', x', r', g', k1, k2, rfl, rfl⟩
  exact hn _ M I' H' v x2 (A2.implode hm hMc hca g') rv (q r' k1 k2)
theorem opened {M : Mem} {a c : Addr} {cells : List Int} {p x : Int} (hca : c ≠ a) : openM M a c cells p x = openM (mset (mset M c (.own a)) a (.gen c)) a c cells p x := by
  unfold openM
  funext b
  by_cases h1 : b = a
  · rw [h1, mset_same, mset_same]
  · rw [mset_ne h1, mset_ne h1]
    by_cases h2 : b = c
    · rw [h2, mset_same, mset_same]
    · rw [mset_ne h2, mset_ne h2, mset_ne h1, mset_ne h2]
theorem ok_begun (Z : Fx K mg) : Ok__law_begun P w K mg base := by
  obtain ⟨fd, F⟩ := Z.d__law_begun
  have F1 : FnOk P w K mg base (L2.CX P w) 1 (He.ga K "_law_begun") fd ["_law_script"] (liftSp K spX_begun) := by
    refine fn_mkD F sc__law_begun len1 (fun X Δ M ds Q E cx xo hW h => ?_)
    obtain ⟨cdv, A, outer, s, H, Ev, eX, hr⟩ := cx
    subst eX
    have hu := hu_of hr
    exact ⟨_, rdX_begun, (pdss_one (pds_ret (pd_lstM (pda_cons (pd_op op_addA snd_addM (pd_nrm (pd_lcX rfl sc__law_begun.nd (pdi_seq (pd_nrm (pd_var (pv 0)))) (own := [("_law_cell", 1)]) (blkB_ok (by kernel_rfl)) (fun _ _ _ _ _ _ => ⟨_, (pdgw_name (pg_name sc__law_begun.nd (i := 1) rfl (Or.inl rfl)) (by decide))⟩) (fun _ _ _ _ _ _ => ⟨_, pdts_nil⟩) (fun _ _ _ _ _ _ => ⟨_, (pd_callB call_abs snd_abs rfl Z.b_abs (by decide +kernel) (pda_cons (pd_nrm (pd_var (pv 1))) (pda_nil)))⟩))) (pd_nrm (pd_op op_mulB snd_mulE (pd_nrm (pd_lst (pda_cons (pd_int) (pda_nil)))) (pd_nrm (pd_callTy call_int1 snd_intOf rfl Z.b_int (by decide +kernel) (pda_cons (pd_nrm (pd_cmp (op_eqD hu) snd_eq (pd_nrm (pd_callB call_lenA snd_len rfl Z.b_len (by decide +kernel) (pda_cons (pd_nrm (pd_var (pv 0))) (pda_nil)))) (pd_nrm (pd_int)) (by rfl))) (pda_nil))))))) (pda_cons (pd_int) (pda_cons (pd_int) (pda_nil))))))), lwX_begun h⟩
  refine ⟨fd, F1.imp (fun vs H Q E h => ?_), F.bindsN fun _ _ _ _ _ _ us hl => match us, hl with | [_], _ => rfl⟩
  obtain ⟨F0, I, M, ds, Qd, Ed, A, r, ⟨s, rfl, xs, rfl, hl, q⟩, hn, hx⟩ := h
  refine ⟨F0, I, M, _, fun d M' => ∃ a c cells, M a = none ∧ M c = none ∧ c ≠ a ∧ Good cells 0 1 ∧ d = .ref a ∧ M' = openM M a c cells 0 1, fun _ _ _ => False, A, r,
    ⟨_, rfl, xs, rfl, hl, fun a c cells k1 k2 k3 k4 => ⟨a, c, cells, k1, k2, k3, k4, rfl, rfl⟩⟩, ?_, fun _ _ _ _ _ _ _ _ _ w => w.elim⟩
  rintro d M' I' H' v x2 A2 rv ⟨a, c, cells, k1, k2, k3, k4, rfl, rfl⟩
  rw [opened k3] at A2
  exact hn _ _ I' H' v x2 (A2.implode mset_same (by rw [mset_ne k3, mset_same]) k3 k4) rv (q a c k1 k2 k3.symm)
theorem rwAll (Z : Fx K mg) : Rw P w K mg base := ⟨ok_begun Z, ok_draw Z⟩
theorem fn_quiet {k : Nat} {f : Addr} {fd : FuncData} {ps : List Str} {sp : Sp} (F : FnOk P w K mg base (L2.CX P w) k f fd ps sp) : FnOk P w K mg base CX0 k f fd ps (fun vs H Q _ => sp vs H Q fun _ _ _ => False) :=
  ⟨fun vs H Q E h => F.len _ _ _ _ h, fun A outer s H args us vs Q E hr he hb hv h => codeAny_mono (F.run A outer s H args us vs Q (fun _ _ _ => False) hr he hb hv h) fun r s' hq => by
    cases r with
    | error e =>
      obtain ⟨_, _, _, _, _, _, _, _, _, _, _, _, z⟩ := hq
      exact z.elim
    | ok fl =>
      cases fl with
      | ret u => exact hq
      | next => exact hq
      | brk => exact hq
      | cont => exact hq⟩
theorem law_start (Z : Fx K mg) (H : Hp) (a : Addr) (ns : List Int) (hl : ns.length ≤ 63) (hS : SqL K H a (ns.map V.int)) : liftSp K (sp_law K) [.ref a] H (fun v _ => v = .bl true) (fun _ _ _ => False) :=
  ⟨fun _ => none, H, fun _ => none, [.frz (ns.map .int)], fun d _ => d = .bl true, fun _ _ _ => False, ⟨fun _ _ e => e, (by intro _ _ e; cases e), (by intro _ _ e; cases e)⟩, .cons (.frz hS (Rps.ofInts ns)) .nil,
    ⟨_, rfl, ns, rfl, hl, fun _ => rfl, ⟨Z.isi_Plan, Z.kit_Plan_Plan, Z.kitT_tuple_Plan⟩, fun _ => rfl⟩, (by intro d M' I' H' v x A r q; subst q; exact r.bl_inv), fun _ _ _ _ _ _ _ _ _ w => w⟩
end
end BB

set_option maxHeartbeats 0
namespace BBH
open L2 PySem PySem.Spec PyProof.Rows BB
def dd_0 : He.DefD := ⟨("_law_begun", none), "_law_begun", "_law_begun", defArgs (top 17), defBody (top 17), defScope (top 17), [], []⟩
def dd_1 : He.DefD := ⟨("_law_draw", none), "_law_draw", "_law_draw", defArgs (top 18), defBody (top 18), defScope (top 18), [], []⟩
def dd_2 : He.DefD := ⟨("_law_name", none), "_law_name", "_law_name", defArgs (top 19), defBody (top 19), defScope (top 19), [], []⟩
def dd_3 : He.DefD := ⟨("_law_names", none), "_law_names", "_law_names", defArgs (top 20), defBody (top 20), defScope (top 20), [], []⟩
def dd_4 : He.DefD := ⟨("_law_parts", none), "_law_parts", "_law_parts", defArgs (top 21), defBody (top 21), defScope (top 21), [], []⟩
def dd_5 : He.DefD := ⟨("_law_otherwise", none), "_law_otherwise", "_law_otherwise", defArgs (top 22), defBody (top 22), defScope (top 22), [], []⟩
def dd_6 : He.DefD := ⟨("is_name", none), "is_name", "is_name", defArgs (top 10), defBody (top 10), defScope (top 10), [], []⟩
def dd_7 : He.DefD := ⟨("are_names", none), "are_names", "are_names", defArgs (top 12), defBody (top 12), defScope (top 12), [], []⟩
def dd_8 : He.DefD := ⟨("is_count", none), "is_count", "is_count", defArgs (top 11), defBody (top 11), defScope (top 11), [], []⟩
def dd_9 : He.DefD := ⟨("is_door", none), "is_door", "is_door", defArgs (top 13), defBody (top 13), defScope (top 13), [], []⟩
def dd_10 : He.DefD := ⟨("are_rooms", none), "are_rooms", "are_rooms", defArgs (top 14), defBody (top 14), defScope (top 14), [], []⟩
def dd_11 : He.DefD := ⟨("Plan", some "__init__"), "__init__", "Plan.__init__", defArgs (mth (top 15) 0), defBody (mth (top 15) 0), defScope (mth (top 15) 0), [], []⟩
def dd_12 : He.DefD := ⟨("Plan", some "__len__"), "__len__", "Plan.__len__", defArgs (mth (top 15) 2), defBody (mth (top 15) 2), defScope (mth (top 15) 2), [], []⟩
def dd_13 : He.DefD := ⟨("Plan", some "rooms"), "rooms", "Plan.rooms", defArgs (mth (top 15) 5), defBody (mth (top 15) 5), defScope (mth (top 15) 5), [], []⟩
def dd_14 : He.DefD := ⟨("Plan", some "signs"), "signs", "Plan.signs", defArgs (mth (top 15) 4), defBody (mth (top 15) 4), defScope (mth (top 15) 4), [], []⟩
def dd_15 : He.DefD := ⟨("Plan", some "letters"), "letters", "Plan.letters", defArgs (mth (top 15) 3), defBody (mth (top 15) 3), defScope (mth (top 15) 3), [], []⟩
def dd_16 : He.DefD := ⟨("Plan", some "is_full"), "is_full", "Plan.is_full", defArgs (mth (top 15) 6), defBody (mth (top 15) 6), defScope (mth (top 15) 6), [], []⟩
def dd_17 : He.DefD := ⟨("_law_right", none), "_law_right", "_law_right", defArgs (top 23), defBody (top 23), defScope (top 23), [], []⟩
def dd_18 : He.DefD := ⟨("Plan", some "__eq__"), "__eq__", "Plan.__eq__", defArgs (mth (top 15) 1), defBody (mth (top 15) 1), defScope (mth (top 15) 1), [], []⟩
def dd_19 : He.DefD := ⟨("law", none), "law", "law", defArgs (top 24), defBody (top 24), defScope (top 24), [], []⟩
def fn : List He.DefD := ([dd_0, dd_1, dd_2, dd_3, dd_4, dd_5, dd_6, dd_7, dd_8, dd_9, dd_10, dd_11, dd_12, dd_13, dd_14, dd_15, dd_16, dd_17, dd_18, dd_19] : List He.DefD)
def fa : List He.Fa := ([.free "abs", .free "all", .free "any", .free "bool", .free "int", .free "isinstance", .free "len", .free "range", .free "repr", .free "sorted", .free "str", .free "tuple", .free "zip", .cls "Plan", .exc "NoPlan", .glo "NoPlan", .glo "Plan", .glo "_law_begun", .glo "_law_draw", .glo "_law_name", .glo "_law_names", .glo "_law_otherwise", .glo "_law_parts", .glo "_law_right", .glo "are_names", .glo "are_rooms", .glo "is_count", .glo "is_door", .glo "is_name", .glo "law"] : List He.Fa) ++ ([.int "LEAST_SIGNS" 2, .int "MOST_LETTERS" 4, .int "MOST_NAME" 6, .int "MOST_ROOMS" 36, .int "MOST_SIGNS" 4, .cls "Plan", .meth "Plan" "__eq__", .meth "Plan" "__len__", .meth "Plan" "is_full", .meth "Plan" "letters", .meth "Plan" "rooms", .meth "Plan" "signs", .mkr "Plan", .noat "Plan" "own_letters", .noat "Plan" "own_rooms", .noat "Plan" "own_signs", .str "SMALL" "abcdefghijklmnopqrstuvwxyz"] : List He.Fa)
def bf : List Bf := ([.all "Plan", .isi "Plan", .kit "Plan" "Plan" true, .kitT "tuple" "Plan" false, .bme "Plan" "__ne__" "object.__ne__"] : List Bf)
def loose : List PySem.Str := (["BoxError", "NoPlan", "MOST_NAME", "MOST_LETTERS", "LEAST_SIGNS", "MOST_SIGNS", "MOST_ROOMS", "SMALL", "is_name", "is_count", "are_names", "is_door", "are_rooms", "Plan", "_law_begun", "_law_draw", "_law_name", "_law_names", "_law_parts", "_law_otherwise", "_law_right"] : List PySem.Str)
abbrev R : PySem.W.OpenRow := PySem.W.OpenLaw.row PySem.Challenge.rw_barredbox_k02_plans_told
abbrev hk : PySem.W.Hook := He.hookX 6 fa fn [] [] (exB bf)
def ob (s : PySem.W.SharedT) : He.AlX := He.obsX 6 fa fn [] [] (exB bf) (HandSHeadRun.getT s)
theorem ob_eq (s : PySem.W.SharedT) : ob s = hk.obs s.abs := He.obsX_eq (HandSHeadRun.getT_eq s)
theorem run (w : World) : HandSHeadRun.RunEq R (PySem.W.view R.prog [24]) hk ob 2400 loose w := by
  intro os
  kernel_rfl
theorem fx {K : PySem.W.Frag} {h : Heap} {mg : Str → Option Value} {w : World} (X : K.In h) (G : h.Ns mainGlobals mg) (c : He.SaysX fa fn [] [] (exB bf) w h K) : Fx K mg where
  d__law_begun := c.t.d.def_ 0 (d := dd_0) rfl
  d__law_draw := c.t.d.def_ 1 (d := dd_1) rfl
  d__law_name := c.t.d.def_ 2 (d := dd_2) rfl
  d__law_names := c.t.d.def_ 3 (d := dd_3) rfl
  d__law_parts := c.t.d.def_ 4 (d := dd_4) rfl
  d__law_otherwise := c.t.d.def_ 5 (d := dd_5) rfl
  d_is_name := c.t.d.def_ 6 (d := dd_6) rfl
  d_are_names := c.t.d.def_ 7 (d := dd_7) rfl
  d_is_count := c.t.d.def_ 8 (d := dd_8) rfl
  d_is_door := c.t.d.def_ 9 (d := dd_9) rfl
  d_are_rooms := c.t.d.def_ 10 (d := dd_10) rfl
  d_Plan___init__ := c.t.d.def_ 11 (d := dd_11) rfl
  d_Plan___len__ := c.t.d.def_ 12 (d := dd_12) rfl
  d_Plan_rooms := c.t.d.def_ 13 (d := dd_13) rfl
  d_Plan_signs := c.t.d.def_ 14 (d := dd_14) rfl
  d_Plan_letters := c.t.d.def_ 15 (d := dd_15) rfl
  d_Plan_is_full := c.t.d.def_ 16 (d := dd_16) rfl
  d__law_right := c.t.d.def_ 17 (d := dd_17) rfl
  d_Plan___eq__ := c.t.d.def_ 18 (d := dd_18) rfl
  d_law := c.t.d.def_ 19 (d := dd_19) rfl
  all_Plan := all_ok (exB_ok c.more 0 (f := .all "Plan") rfl)
  b_abs := He.free_ok X G (c.t.d.fact 0 (f := .free "abs") rfl)
  b_all := He.free_ok X G (c.t.d.fact 1 (f := .free "all") rfl)
  b_any := He.free_ok X G (c.t.d.fact 2 (f := .free "any") rfl)
  b_bool := He.free_ok X G (c.t.d.fact 3 (f := .free "bool") rfl)
  b_int := He.free_ok X G (c.t.d.fact 4 (f := .free "int") rfl)
  b_isinstance := He.free_ok X G (c.t.d.fact 5 (f := .free "isinstance") rfl)
  b_len := He.free_ok X G (c.t.d.fact 6 (f := .free "len") rfl)
  b_range := He.free_ok X G (c.t.d.fact 7 (f := .free "range") rfl)
  b_repr := He.free_ok X G (c.t.d.fact 8 (f := .free "repr") rfl)
  b_sorted := He.free_ok X G (c.t.d.fact 9 (f := .free "sorted") rfl)
  b_str := He.free_ok X G (c.t.d.fact 10 (f := .free "str") rfl)
  b_tuple := He.free_ok X G (c.t.d.fact 11 (f := .free "tuple") rfl)
  b_zip := He.free_ok X G (c.t.d.fact 12 (f := .free "zip") rfl)
  cl_Plan := He.cls_ok (c.t.d.fact 13 (f := .cls "Plan") rfl)
  e_NoPlan :=  (c.t.d.fact 14 (f := .exc "NoPlan") rfl)
  g_NoPlan := He.glo_ok X G (c.t.d.fact 15 (f := .glo "NoPlan") rfl)
  g_Plan := He.glo_ok X G (c.t.d.fact 16 (f := .glo "Plan") rfl)
  g__law_begun := He.glo_ok X G (c.t.d.fact 17 (f := .glo "_law_begun") rfl)
  g__law_draw := He.glo_ok X G (c.t.d.fact 18 (f := .glo "_law_draw") rfl)
  g__law_name := He.glo_ok X G (c.t.d.fact 19 (f := .glo "_law_name") rfl)
  g__law_names := He.glo_ok X G (c.t.d.fact 20 (f := .glo "_law_names") rfl)
  g__law_otherwise := He.glo_ok X G (c.t.d.fact 21 (f := .glo "_law_otherwise") rfl)
  g__law_parts := He.glo_ok X G (c.t.d.fact 22 (f := .glo "_law_parts") rfl)
  g__law_right := He.glo_ok X G (c.t.d.fact 23 (f := .glo "_law_right") rfl)
  g_are_names := He.glo_ok X G (c.t.d.fact 24 (f := .glo "are_names") rfl)
  g_are_rooms := He.glo_ok X G (c.t.d.fact 25 (f := .glo "are_rooms") rfl)
  g_is_count := He.glo_ok X G (c.t.d.fact 26 (f := .glo "is_count") rfl)
  g_is_door := He.glo_ok X G (c.t.d.fact 27 (f := .glo "is_door") rfl)
  g_is_name := He.glo_ok X G (c.t.d.fact 28 (f := .glo "is_name") rfl)
  g_law := He.glo_ok X G (c.t.d.fact 29 (f := .glo "law") rfl)
  i_LEAST_SIGNS := He.int_ok X G (c.t.d.fact 30 (f := .int "LEAST_SIGNS" 2) rfl)
  i_MOST_LETTERS := He.int_ok X G (c.t.d.fact 31 (f := .int "MOST_LETTERS" 4) rfl)
  i_MOST_NAME := He.int_ok X G (c.t.d.fact 32 (f := .int "MOST_NAME" 6) rfl)
  i_MOST_ROOMS := He.int_ok X G (c.t.d.fact 33 (f := .int "MOST_ROOMS" 36) rfl)
  i_MOST_SIGNS := He.int_ok X G (c.t.d.fact 34 (f := .int "MOST_SIGNS" 4) rfl)
  isi_Plan := isi_ok (c.t.d.fact 35 (f := .cls "Plan") rfl) (exB_ok c.more 1 (f := .isi "Plan") rfl)
  kit_Plan_Plan := kit_ok (exB_ok c.more 2 (f := .kit "Plan" "Plan" true) rfl)
  kitT_tuple_Plan := kitT_ok (exB_ok c.more 3 (f := .kitT "tuple" "Plan" false) rfl)
  m_Plan___eq__ := He.meth_ok (c.t.d.fact 36 (f := .meth "Plan" "__eq__") rfl)
  m_Plan___len__ := He.meth_ok (c.t.d.fact 37 (f := .meth "Plan" "__len__") rfl)
  m_Plan_is_full := He.meth_ok (c.t.d.fact 38 (f := .meth "Plan" "is_full") rfl)
  m_Plan_letters := He.meth_ok (c.t.d.fact 39 (f := .meth "Plan" "letters") rfl)
  m_Plan_rooms := He.meth_ok (c.t.d.fact 40 (f := .meth "Plan" "rooms") rfl)
  m_Plan_signs := He.meth_ok (c.t.d.fact 41 (f := .meth "Plan" "signs") rfl)
  mk_Plan := He.mkr_ok (c.t.d.fact 42 (f := .mkr "Plan") rfl)
  na_Plan_own_letters := He.noat_ok (c.t.d.fact 43 (f := .noat "Plan" "own_letters") rfl)
  na_Plan_own_rooms := He.noat_ok (c.t.d.fact 44 (f := .noat "Plan" "own_rooms") rfl)
  na_Plan_own_signs := He.noat_ok (c.t.d.fact 45 (f := .noat "Plan" "own_signs") rfl)
  ne_Plan := bme_ok (exB_ok c.more 4 (f := .bme "Plan" "__ne__" "object.__ne__") rfl)
  s_SMALL := He.str_ok X G (c.t.d.fact 46 (f := .str "SMALL" "abcdefghijklmnopqrstuvwxyz") rfl)
end BBH
open PySem PySem.W PySem.Calls PyProof.Rows BB
theorem PySem.Challenge.cw_barredbox_k02_plans_told_holds : PySem.Challenge.rw_barredbox_k02_plans_told.Holds := by
  w_on; o_law
  refine HandSHeadRun.head_any (r := OpenLaw.row PySem.Challenge.rw_barredbox_k02_plans_told) (q := view (OpenLaw.row PySem.Challenge.rw_barredbox_k02_plans_told).prog [24]) (H := BBH.hk) (ob := BBH.ob) (M := 2400) (loose := BBH.loose) (d := HandSHeadRun.topDef (OpenLaw.row PySem.Challenge.rw_barredbox_k02_plans_told).prog 24) (kwd := []) BBH.ob_eq
    (by kernel_rfl) (fun s => by kernel_rfl) BBH.run (by kernel_rfl) (by kernel_rfl) (by kernel_rfl) (by rfl) (by first | assumption | decide +kernel) (by decide +kernel) ⟨rfl, rfl, rfl, rfl, rfl, by decide +kernel⟩ ?hw ?hc
  case hw => w_witness2
  case hc =>
    refine BB.walk_ofG (l := PySem.Challenge.rw_barredbox_k02_plans_told) (n := 63) (x := "_law_script") (CX := L2.CX0) rfl (by decide) (by kernel_rfl) ?F (fun _ _ _ _ z => z)
    intro w mg fa h Y G hmg0
    obtain ⟨K, KX, c⟩ := Y
    have hmg : mg ("law" : PySem.Str) = some (.ref fa) := by
      have e : (HandSHeadRun.topDef (OpenLaw.row PySem.Challenge.rw_barredbox_k02_plans_told).prog 24).name = ("law" : PySem.Str) := by kernel_rfl
      rw [← e]
      exact hmg0
    have Z := BBH.fx KX G c
    obtain ⟨fd, F⟩ := Z.d_law
    have e := hmg.symm.trans Z.g_law
    cases e
    have b := L2.FunD.bindsA (ps := ["_law_script"]) F fun _ _ _ _ _ _ us hl => match us, hl with | [_], _ => rfl
    exact ⟨K, fd, fun vs H Q _ => liftSp K (sp_law K) vs H Q fun _ _ _ => False, KX, fun s v => b s [v] rfl, fun H a ns hl _ hS => law_start Z H a ns hl hS, fun base _ _ => fnAt_quiet (okl_law Z (lwAll K) (rwAll Z) F callerA ⟨rfl, by decide, by decide⟩ rfl)⟩

