import PyProof.Rows.All
import Wide.All
import OpenK.AllK
import Wide.FinOn
import KE.SortData
import KE.DataCmp
import HandS.Base
import HandS.Call
import HandS.List
import HandS.Comp
import HandS.Ends
import HandS.Dict
import HandS.Iter
import HandS.Text
import HandS.More
import HandS.Exc
import HandS.TryOnly
import HandS.ExcOwn
import HandS.Words
import HandS.WordsList
import HandS.WordsExc
import HandS.Wide
import HandS.WideBits
import HandS.Zip
import HandS.Walk
import HandS.Conv
import HandS.IsInst
import HandS.Defaults
import HandS.HeadHook4
import HandS.TupAny
import HandS.Style
import HandS.DictComp
import HandS.DictEq
import HandS.StrMore
import HandS.Rev
import HandS.CallLocal
import HandS.ReplaceList
import KE.DataEq
import KE.DataFind
import KE.DataMinMax
import KE.DataAny
import KE.DatumIndex
import KE.DataIsa
import PyProof.StrBlock2
import KE.GoesEnum
import KE.GoesMore
import KE.KTurns
import KE.KDictCopyH
import KE.KDictPairs
import KE.KDictOf
import KE.KDictWalk
import KE.KIndexOf
import HandS.EndBits
import HandS.HeadWalk
import HandS.Head4
import PyProof.ReprRoads
import HandS.Head0
import HandS.Head1
import HandS.Head2
import HandS.HeadEnd
import HandS.HeadHook1
import HandS.HeadHook2
import KE.KMinKey
import PyProof.WalksMore
import HandS.SortKw
import PyProof.DictUpdate
import PyProof.Claim2Refuses
import PySem.Challenge.RW_heapwise_k76_common
set_option Elab.async false
set_option linter.all false
set_option maxRecDepth 100000
/-! The layer of plain data: what a def computes, as a function of data; lists and dicts that a def alone holds are changed in their slots. -/
namespace Pv
open PySem PySem.Spec PyProof.Rows L2
abbrev St := L2.St

theorem rd_ne {F : Hp} {a p : Addr} {u : HO} (r : Rd F a u) (h : F p = none) : a ≠ p := fun e => by
  subst e
  rcases r with r | ⟨o, r⟩ <;> (rw [h] at r; cases r)
theorem rd_upd {F : Hp} {a p : Addr} {u o : HO} (n : a ≠ p) (r : Rd F a u) : Rd (upd F p o) a u := by
  rcases r with r | ⟨q, r⟩
  · exact .inl (by rw [upd_ne n]; exact r)
  · exact .inr ⟨q, by rw [upd_ne n]; exact r⟩
theorem rd_of_upd {F : Hp} {a p : Addr} {u o : HO} (n : a ≠ p) (r : Rd (upd F p o) a u) : Rd F a u := by
  rcases r with r | ⟨q, r⟩
  · exact .inl (by rw [upd_ne n] at r; exact r)
  · exact .inr ⟨q, by rw [upd_ne n] at r; exact r⟩
theorem rd_some {F : Hp} {p : Addr} {o : HO} (h : F p = some o) : Rd F p o := .inl h
/-- o, known at a: a dict may be locked -/
def StO (H : Hp) (a : Addr) : HO → Prop
  | .dK ks => Rd H a (.dK ks)
  | .dT ks => Rd H a (.dT ks)
  | .frz _ (.dK ks) => Rd H a (.dK ks)
  | .frz _ (.dT ks) => Rd H a (.dT ks)
  | .lst xs => H a = some (.lst xs)
  | .tup xs => H a = some (.tup xs)
  | o => H a = some o
theorem StO.of {H : Hp} {a : Addr} {o : HO} (h : H a = some o) : StO H a o := by
  unfold StO
  split
  · exact .inl h
  · exact .inl h
  · exact .inr ⟨_, h⟩
  · exact .inr ⟨_, h⟩
  · exact h
  · exact h
  · exact h
theorem StO.ne {H : Hp} {a : Addr} {o : HO} (h : StO H a o) : H a ≠ none := by
  intro z
  unfold StO at h
  split at h
  · exact rd_ne h z rfl
  · exact rd_ne h z rfl
  · exact rd_ne h z rfl
  · exact rd_ne h z rfl
  · rw [z] at h; cases h
  · rw [z] at h; cases h
  · rw [z] at h; cases h
theorem StO.upd {H : Hp} {a p : Addr} {o q : HO} (n : a ≠ p) (h : StO H a o) : StO (L2.upd H p q) a o := by
  unfold StO at h ⊢
  split at h
  · exact rd_upd n h
  · exact rd_upd n h
  · exact rd_upd n h
  · exact rd_upd n h
  · exact (upd_ne n).trans h
  · exact (upd_ne n).trans h
  · exact (upd_ne n).trans h
/-- all that is known to be read stays known -/
def Ex (F H : Hp) : Prop := ∀ a o, F a = some o → StO H a o
theorem Ex.refl (F : Hp) : Ex F F := fun _ _ h => .of h
theorem Ex.rdK {F H : Hp} {a : Addr} {ks : List (Key × V)} (e : Ex F H) (h : Rd F a (.dK ks)) : Rd H a (.dK ks) := by
  rcases h with h | ⟨q, h⟩
  · exact e a _ h
  · exact e a _ h
theorem Ex.rdT {F H : Hp} {a : Addr} {ks : List (List Key × V)} (e : Ex F H) (h : Rd F a (.dT ks)) : Rd H a (.dT ks) := by
  rcases h with h | ⟨q, h⟩
  · exact e a _ h
  · exact e a _ h
theorem Ex.trans {F H H1 : Hp} (a : Ex F H) (b : Ex H H1) : Ex F H1 := fun c o h => by
  have z := a c o h
  unfold StO at z
  split at z
  · exact b.rdK z
  · exact b.rdT z
  · exact b.rdK z
  · exact b.rdT z
  · exact b c _ z
  · exact b c _ z
  · exact b c _ z
theorem Ex.new {F : Hp} {p : Addr} {o : HO} (h : F p = none) : Ex F (upd F p o) := fun a u r => StO.upd (ne_of_none r h) (.of r)
theorem Ex.upd {F H : Hp} {p : Addr} {o : HO} (e : Ex F H) (h : F p = none) : Ex F (upd H p o) := fun a u r => StO.upd (ne_of_none r h) (e a u r)
theorem Ex.upd2 {F H : Hp} {p : Addr} {o : HO} (e : Ex F H) : Ex (L2.upd F p o) (L2.upd H p o) := fun a u r => by
  by_cases h : a = p
  · subst h
    rw [upd_same] at r
    cases r
    exact .of upd_same
  · rw [upd_ne h] at r
    exact StO.upd h (e a u r)
theorem Ex.put {F H : Hp} {p : Addr} {o : HO} (e : Ex F H) (h : H p = some o) : Ex (L2.upd F p o) H := fun a u r => by
  by_cases q : a = p
  · subst q
    rw [upd_same] at r
    cases r
    exact .of h
  · rw [upd_ne q] at r
    exact e a u r
theorem Ex.none {F H : Hp} {p : Addr} (e : Ex F H) (h : H p = none) : F p = none := by
  cases q : F p with
  | none => rfl
  | some o => exact absurd h (e p o q).ne
theorem sql {K : PySem.W.Frag} {H : Hp} {a : Addr} {xs : List V} (h : H a = some (.lst xs)) : SqL K H a xs := .inl (.inl h)
theorem sqt {K : PySem.W.Frag} {H : Hp} {a : Addr} {xs : List V} (h : H a = some (.tup xs)) : SqT K H a xs := .inl (.inl h)
/-- are all whole numbers -/
def allI (xs : List V) : Bool := xs.all fun v => match v with
  | .int _ => true
  | _ => false
/-- a tuple as it is known: of whole numbers (it may be a key), or with its record (its methods may be called) -/
def tupHO (od : Obj) (xs : List V) : HO := if allI xs = true then .tup xs else .frz od (.tup xs)
theorem tupHO.rd {H : Hp} {a : Addr} {od : Obj} {xs : List V} (h : H a = some (tupHO od xs)) : Rd H a (.tup xs) := by
  unfold tupHO at h
  split at h
  · exact .inl h
  · exact .inr ⟨_, h⟩
theorem sqh {K : PySem.W.Frag} {H : Hp} {a : Addr} {od : Obj} {xs : List V} (h : H a = some (tupHO od xs)) : SqT K H a xs := .inl (tupHO.rd h)
theorem Ex.h {F H : Hp} {a : Addr} {od : Obj} {xs : List V} (e : Ex F H) (h : F a = some (tupHO od xs)) : H a = some (tupHO od xs) := by
  have z := e a _ h
  unfold tupHO at z ⊢
  split
  · rename_i q
    rw [if_pos q] at z
    exact z
  · rename_i q
    rw [if_neg q] at z
    exact z
theorem Ex.sq {K : PySem.W.Frag} {F H : Hp} {a : Addr} {xs : List V} (e : Ex F H) (h : SqL K F a xs) : SqL K H a xs := by
  rcases h with (h | ⟨o, h⟩) | h
  · exact .inl (.inl (e a _ h))
  · exact .inl (.inr ⟨o, e a _ h⟩)
  · exact .inr h
theorem Ex.l {F H : Hp} {a : Addr} {xs : List V} (e : Ex F H) (h : F a = some (.lst xs)) : H a = some (.lst xs) := e a _ h
theorem Ex.t {F H : Hp} {a : Addr} {xs : List V} (e : Ex F H) (h : F a = some (.tup xs)) : H a = some (.tup xs) := e a _ h

/-- a key as data -/
def kD : Key → PyData
  | .inl i => .int i
  | .inr x => .str x

mutual
/-- v stands for the data d, which nobody changes any more -/
inductive Rep (K : PySem.W.Frag) (F : Hp) : V → PyData → Prop
  | non : Rep K F .non .none
  | bl (b : Bool) : Rep K F (.bl b) (.bool b)
  | int (i : Int) : Rep K F (.int i) (.int i)
  | str (x : Str) : Rep K F (.str x) (.str x)
  | lst {a : Addr} {xs : List V} {ds : List PyData} : F a = some (.lst xs) → Reps K F xs ds → Rep K F (.ref a) (.list ds)
  | tup {a : Addr} {xs : List V} {ds : List PyData} {od : Obj} : F a = some (tupHO od xs) → od.dict = none → Reps K F xs ds → Rep K F (.ref a) (.tuple ds)
  | raw {a : Addr} {xs : List V} {ds : List PyData} : F a = some (.tup xs) → Reps K F xs ds → Rep K F (.ref a) (.dict [(.none, .list ds)])
  | scr {a : Addr} {xs : List V} {ds : List PyData} : SqL K F a xs → Reps K F xs ds → Rep K F (.ref a) (.dict [(.bool true, .list ds)])
  | dK {a : Addr} {ks : List (Key × V)} {ds : List (PyData × PyData)} : Rd F a (.dK ks) → RepK K F ks ds → Rep K F (.ref a) (.dict ds)
  | dT {a : Addr} {ks : List (List Key × V)} {ds : List (PyData × PyData)} : Rd F a (.dT ks) → RepT K F ks ds → Rep K F (.ref a) (.dict ds)
inductive Reps (K : PySem.W.Frag) (F : Hp) : List V → List PyData → Prop
  | nil : Reps K F [] []
  | cons {v : V} {vs : List V} {d : PyData} {ds : List PyData} : Rep K F v d → Reps K F vs ds → Reps K F (v :: vs) (d :: ds)
inductive RepK (K : PySem.W.Frag) (F : Hp) : List (Key × V) → List (PyData × PyData) → Prop
  | nil : RepK K F [] []
  | cons {k : Key} {v : V} {ks : List (Key × V)} {d : PyData} {ds : List (PyData × PyData)} : Rep K F v d → RepK K F ks ds → RepK K F ((k, v) :: ks) ((kD k, d) :: ds)
inductive RepT (K : PySem.W.Frag) (F : Hp) : List (List Key × V) → List (PyData × PyData) → Prop
  | nil : RepT K F [] []
  | cons {k : List Key} {v : V} {ks : List (List Key × V)} {d : PyData} {ds : List (PyData × PyData)} : Rep K F v d → RepT K F ks ds → RepT K F ((k, v) :: ks) ((.tuple (k.map kD), d) :: ds)
end
section
variable {K : PySem.W.Frag} {F H : Hp}
mutual
theorem Rep.mono (e : Ex F H) : ∀ {v : V} {d : PyData}, Rep K F v d → Rep K H v d
  | _, _, .non => .non
  | _, _, .bl b => .bl b
  | _, _, .int i => .int i
  | _, _, .str x => .str x
  | _, _, .lst h r => .lst (e.l h) (Reps.mono e r)
  | _, _, .tup h n r => .tup (e.h h) n (Reps.mono e r)
  | _, _, .raw h r => .raw (e.t h) (Reps.mono e r)
  | _, _, .scr h r => .scr (e.sq h) (Reps.mono e r)
  | _, _, .dK h r => .dK (e.rdK h) (RepK.mono e r)
  | _, _, .dT h r => .dT (e.rdT h) (RepT.mono e r)
theorem Reps.mono (e : Ex F H) : ∀ {vs : List V} {ds : List PyData}, Reps K F vs ds → Reps K H vs ds
  | _, _, .nil => .nil
  | _, _, .cons r t => .cons (Rep.mono e r) (Reps.mono e t)
theorem RepK.mono (e : Ex F H) : ∀ {vs : List (Key × V)} {ds : List (PyData × PyData)}, RepK K F vs ds → RepK K H vs ds
  | _, _, .nil => .nil
  | _, _, .cons r t => .cons (Rep.mono e r) (RepK.mono e t)
theorem RepT.mono (e : Ex F H) : ∀ {vs : List (List Key × V)} {ds : List (PyData × PyData)}, RepT K F vs ds → RepT K H vs ds
  | _, _, .nil => .nil
  | _, _, .cons r t => .cons (Rep.mono e r) (RepT.mono e t)
end
theorem Reps.length : ∀ {vs : List V} {ds : List PyData}, Reps K F vs ds → vs.length = ds.length
  | _, _, .nil => rfl
  | _, _, .cons _ t => congrArg Nat.succ (Reps.length t)
theorem Reps.append : ∀ {vs ws : List V} {ds es : List PyData}, Reps K F vs ds → Reps K F ws es → Reps K F (vs ++ ws) (ds ++ es)
  | _, _, _, _, .nil, s => s
  | _, _, _, _, .cons r t, s => .cons r (Reps.append t s)
theorem Reps.get : ∀ {vs : List V} {ds : List PyData} {i : Nat} {d : PyData}, Reps K F vs ds → ds[i]? = some d → ∃ v, vs[i]? = some v ∧ Rep K F v d
  | _, _, _, _, .nil, e => by simp at e
  | _, _, 0, _, .cons r _, e => by simp at e; subst e; exact ⟨_, rfl, r⟩
  | _, _, i + 1, d, .cons _ t, e => by
    obtain ⟨u, h1, h2⟩ := Reps.get (i := i) (d := d) t (by simpa using e)
    exact ⟨u, by simpa using h1, h2⟩
theorem Reps.get' : ∀ {vs : List V} {ds : List PyData} {i : Nat} {v : V}, Reps K F vs ds → vs[i]? = some v → ∃ d, ds[i]? = some d ∧ Rep K F v d
  | _, _, _, _, .nil, e => by simp at e
  | _, _, 0, _, .cons r _, e => by simp at e; subst e; exact ⟨_, rfl, r⟩
  | _, _, i + 1, d, .cons _ t, e => by
    obtain ⟨u, h1, h2⟩ := Reps.get' (i := i) (v := d) t (by simpa using e)
    exact ⟨u, by simpa using h1, h2⟩
theorem Reps.take : ∀ {vs : List V} {ds : List PyData} (n : Nat), Reps K F vs ds → Reps K F (vs.take n) (ds.take n)
  | _, _, 0, _ => by simpa using Reps.nil
  | _, _, n + 1, .nil => by simpa using Reps.nil
  | _, _, n + 1, .cons r t => by simpa using Reps.cons r (Reps.take n t)
theorem Reps.drop : ∀ {vs : List V} {ds : List PyData} (n : Nat), Reps K F vs ds → Reps K F (vs.drop n) (ds.drop n)
  | _, _, 0, r => r
  | _, _, n + 1, .nil => by simpa using Reps.nil
  | _, _, n + 1, .cons _ t => by simpa using Reps.drop n t
theorem Reps.set : ∀ {vs : List V} {ds : List PyData} {v : V} {d : PyData} (n : Nat), Reps K F vs ds → Rep K F v d → Reps K F (vs.set n v) (ds.set n d)
  | _, _, _, _, _, .nil, _ => by simpa using Reps.nil
  | _, _, _, _, 0, .cons _ t, q => by simpa using Reps.cons q t
  | _, _, _, _, n + 1, .cons r t, q => by simpa using Reps.cons r (Reps.set n t q)
theorem Reps.eraseIdx : ∀ {vs : List V} {ds : List PyData} (n : Nat), Reps K F vs ds → Reps K F (vs.eraseIdx n) (ds.eraseIdx n)
  | _, _, _, .nil => by simpa using Reps.nil
  | _, _, 0, .cons _ t => by simpa using t
  | _, _, n + 1, .cons r t => by simpa using Reps.cons r (Reps.eraseIdx n t)
theorem Reps.snoc {vs : List V} {ds : List PyData} {v : V} {d : PyData} (r : Reps K F vs ds) (q : Rep K F v d) : Reps K F (vs ++ [v]) (ds ++ [d]) := r.append (.cons q .nil)
theorem Reps.dropLast {vs : List V} {ds : List PyData} (r : Reps K F vs ds) : Reps K F vs.dropLast ds.dropLast := by
  rw [List.dropLast_eq_take, List.dropLast_eq_take, r.length]
  exact r.take _
theorem Reps.reverse : ∀ {vs : List V} {ds : List PyData}, Reps K F vs ds → Reps K F vs.reverse ds.reverse
  | _, _, .nil => by simpa using Reps.nil
  | _, _, .cons r t => by
    rw [List.reverse_cons, List.reverse_cons]
    exact (Reps.reverse t).snoc r
theorem Reps.of_get : ∀ {vs : List V} {ds : List PyData}, vs.length = ds.length → (∀ (i : Nat) v d, vs[i]? = some v → ds[i]? = some d → Rep K F v d) → Reps K F vs ds
  | [], [], _, _ => .nil
  | [], _ :: _, h, _ => by cases h
  | _ :: _, [], h, _ => by cases h
  | v :: vs, d :: ds, h, f => .cons (f 0 v d rfl rfl) (Reps.of_get (Nat.succ.inj h) fun i v' d' h1 h2 => f (i + 1) v' d' (by simpa using h1) (by simpa using h2))
theorem RepK.length : ∀ {vs : List (Key × V)} {ds : List (PyData × PyData)}, RepK K F vs ds → vs.length = ds.length
  | _, _, .nil => rfl
  | _, _, .cons _ t => congrArg Nat.succ (RepK.length t)
theorem RepT.length : ∀ {vs : List (List Key × V)} {ds : List (PyData × PyData)}, RepT K F vs ds → vs.length = ds.length
  | _, _, .nil => rfl
  | _, _, .cons _ t => congrArg Nat.succ (RepT.length t)
end

/-! ### no dicts within -/
mutual
def noD : PyData → Bool
  | .list xs => noDs xs
  | .tuple xs => noDs xs
  | .dict _ => false
  | _ => true
def noDs : List PyData → Bool
  | [] => true
  | x :: xs => noD x && noDs xs
end
section
variable {K : PySem.W.Frag} {F : Hp}
mutual
theorem Rep.dp : ∀ {v : V} {d : PyData}, Rep K F v d → noD d = true → Dp K F v d
  | _, _, .non, _ => .non
  | _, _, .bl b, _ => .bl b
  | _, _, .int i, _ => .int i
  | _, _, .str x, _ => .str x
  | _, _, .lst h r, e => .lst (.inl (.inl h)) (Reps.dp r (by simpa only [noD] using e))
  | _, _, .tup h _ r, e => .tup (sqh h) (Reps.dp r (by simpa only [noD] using e))
  | _, _, .raw _ _, e => by simp [noD] at e
  | _, _, .scr _ _, e => by simp [noD] at e
  | _, _, .dK _ _, e => by simp [noD] at e
  | _, _, .dT _ _, e => by simp [noD] at e
theorem Reps.dp : ∀ {vs : List V} {ds : List PyData}, Reps K F vs ds → noDs ds = true → DpAll K F vs ds
  | _, _, .nil, _ => .nil
  | _, _, .cons r t, e => by
    simp only [noDs, Bool.and_eq_true] at e
    exact .cons (Rep.dp r e.1) (Reps.dp t e.2)
end
end

/-! ### the slots -/
/-- a list or a dict that is still changed -/
inductive Ob where
  | lst (xs : List PyData)
  | dct (t : Bool) (kvs : List (PyData × PyData))
def Ob.d : Ob → PyData
  | .lst xs => .list xs
  | .dct _ kvs => .dict kvs
/-- what a slot holds: nothing; data; a list or dict of one's own (or handed in to be changed: false); a function -/
inductive Sl where
  | un
  | d (x : PyData)
  | m (own : Bool) (o : Ob)
  | f (a : Addr)
abbrev En := List Sl
/-- what an expression comes to: data, the place i, a new list or dict, a function -/
inductive RD where
  | val (d : PyData)
  | pl (i : Nat)
  | own (o : Ob)
  | fn (a : Addr)
inductive Ou (α : Type) where
  | ok (a : α) (e : En)
  | ex (c : Str) (e : En)
abbrev M (α : Type) := En → Option (Ou α)
inductive Fl where
  | nx (e : En)
  | rt (r : RD) (e : En)
  | bk (e : En)
  | ct (e : En)
  | ex (c : Str) (e : En)
abbrev MS := En → Option Fl

/-- a list, a dict, or such a one locked -/
def mob : HO → Bool
  | .lst _ => true
  | .dK _ => true
  | .dT _ => true
  | .frz _ (.dK _) => true
  | .frz _ (.dT _) => true
  | _ => false
def isTbl : HO → Bool
  | .tbl _ => true
  | _ => false
/-- what stands around a body: the written part, what holds of every heap, the exceptions' classes -/
structure Sx where
  K : PySem.W.Frag
  Z : Hp → Prop
  zn : ∀ H p o, Z H → H p = none → Z (upd H p o)
  zm : ∀ H p o o', Z H → H p = some o → mob o = true → mob o' = true → Z (upd H p o')
  cl : Str → Addr
/-- .. the heap at the entry, the slots of what was handed in to be changed, the wish of an exception -/
structure Bx extends Sx where
  H0 : Hp
  B : List (Nat × Addr)
  W : WX

def RepOb (K : PySem.W.Frag) (F H : Hp) (p : Addr) : Ob → Prop
  | .lst xs => ∃ vs, H p = some (.lst vs) ∧ Reps K F vs xs
  | .dct false kvs => ∃ ks, H p = some (.dK ks) ∧ RepK K F ks kvs
  | .dct true kvs => ∃ ks, H p = some (.dT ks) ∧ RepT K F ks kvs
def SlOk (b : Bx) (F H : Hp) (s : Option V) : Sl → Prop
  | .un => True
  | .d x => ∃ v, s = some v ∧ Rep b.K F v x
  | .m w o => ∃ p, s = some (.ref p) ∧ F p = none ∧ RepOb b.K F H p o ∧ (w = true → b.H0 p = none)
  | .f a => s = some (.ref a)
/-- q is the object of some slot -/
def Mm (σ : St) (env : En) (q : Addr) : Prop := ∃ (i : Nat) (w : Bool) (o : Ob), env[i]? = some (.m w o) ∧ σ[i]? = some (some (.ref q))
structure IV (b : Bx) (F H : Hp) (σ : St) (env : En) : Prop where
  ext : Ex F H
  z : b.Z H
  len : σ.length = env.length
  sl : ∀ (i : Nat) (s : Sl), env[i]? = some s → ∃ v, σ[i]? = some v ∧ SlOk b F H v s
  ne : ∀ (i j : Nat) (w w' : Bool) (o o' : Ob) (p : Addr), env[i]? = some (.m w o) → env[j]? = some (.m w' o') → σ[i]? = some (some (.ref p)) → σ[j]? = some (some (.ref p)) → i = j
  h0 : ∀ q, H q = none → b.H0 q = none
  bo : ∀ x ∈ b.B, σ[x.1]? = some (some (.ref x.2)) ∧ ∃ o, env[x.1]? = some (.m false o)
structure Gr (σ : St) (env : En) (F H : Hp) (σ' : St) (env' : En) (F' H' : Hp) : Prop where
  f : Ex F F'
  d : ∀ q, H' q = none → H q = none
  h : ∀ q o, H q = some o → ¬ Mm σ env q → isTbl o = false → H' q = some o
  n : ∀ q, F' q ≠ none → F q ≠ none ∨ H q = none ∨ Mm σ env q ∨ ∃ o, H q = some o ∧ mob o = false
  m : ∀ q, Mm σ' env' q → Mm σ env q ∨ H q = none
  l : env'.length = env.length
theorem Gr.refl (σ : St) (env : En) (F H : Hp) : Gr σ env F H σ env F H := ⟨Ex.refl F, fun _ h => h, fun _ _ h _ _ => h, fun _ h => .inl h, fun _ h => .inl h, rfl⟩
theorem Gr.trans {σ σ1 σ2 : St} {env env1 env2 : En} {F F1 F2 H H1 H2 : Hp} (a : Gr σ env F H σ1 env1 F1 H1) (b : Gr σ1 env1 F1 H1 σ2 env2 F2 H2) : Gr σ env F H σ2 env2 F2 H2 where
  f := a.f.trans b.f
  d := fun q h => a.d q (b.d q h)
  h := fun q o e hm ht => by
    refine b.h q o (a.h q o e hm ht) (fun hm1 => ?_) ht
    rcases a.m q hm1 with z | z
    · exact hm z
    · rw [e] at z; cases z
  n := fun q h => by
    rcases b.n q h with z | z | z | ⟨o, z, zm⟩
    · exact a.n q z
    · exact .inr (.inl (a.d q z))
    · rcases a.m q z with y | y
      · exact .inr (.inr (.inl y))
      · exact .inr (.inl y)
    · cases e : H q with
      | none => exact .inr (.inl rfl)
      | some u =>
        by_cases hm : Mm σ env q
        · exact .inr (.inr (.inl hm))
        · refine .inr (.inr (.inr ⟨u, rfl, ?_⟩))
          cases ht : isTbl u with
          | true => cases u <;> first | rfl | (simp [isTbl] at ht)
          | false =>
            have y := a.h q u e hm ht
            rw [z] at y
            cases y
            exact zm
  m := fun q h => by
    rcases b.m q h with z | z
    · exact a.m q z
    · exact .inr (a.d q z)
  l := b.l.trans a.l

/-- r stands for v; Hs: the heap ahead of the expression -/
def Er (b : Bx) (Hs F H : Hp) (σ : St) (env : En) (v : V) : RD → Prop
  | .val d => Rep b.K F v d
  | .pl i => σ[i]? = some (some v)
  | .own o => ∃ p, v = .ref p ∧ F p = none ∧ RepOb b.K F H p o ∧ b.H0 p = none ∧ Hs p = none ∧ ¬ Mm σ env p
  | .fn a => v = .ref a
def OkV (b : Bx) (F H : Hp) (σ : St) (env : En) (o : Option (Ou RD)) (Q : VK) : Prop := match o with
  | none => False
  | some (.ok r env') => ∀ v F' H', IV b F' H' σ env' → Gr σ env F H σ env' F' H' → Er b H F' H' σ env' v r → Q v H'
  | some (.ex c env') => ∀ F' H', IV b F' H' σ env' → Gr σ env F H σ env' F' H' → b.W (.ref (b.cl c)) none σ H'
/-- the reading of an expression that comes to f -/
def tV (b : Bx) (f : M RD) : TE := fun σ H Q => ∃ F env, IV b F H σ env ∧ OkV b F H σ env (f env) Q
def OkT (b : Bx) (F H : Hp) (σ : St) (env : En) (o : Option (Ou Bool)) (Q : Bool → Hp → Prop) : Prop := match o with
  | none => False
  | some (.ok r env') => ∀ F' H', IV b F' H' σ env' → Gr σ env F H σ env' F' H' → Q r H'
  | some (.ex c env') => ∀ F' H', IV b F' H' σ env' → Gr σ env F H σ env' F' H' → b.W (.ref (b.cl c)) none σ H'
def tT (b : Bx) (f : M Bool) : TT := fun σ H Q => ∃ F env, IV b F H σ env ∧ OkT b F H σ env (f env) Q
def OkS (b : Bx) (F H : Hp) (σ : St) (env : En) (o : Option Fl) (D : Ends) : Prop := match o with
  | none => False
  | some (.nx env') => ∀ σ' F' H', IV b F' H' σ' env' → Gr σ env F H σ' env' F' H' → D.nx σ' H'
  | some (.bk env') => ∀ σ' F' H', IV b F' H' σ' env' → Gr σ env F H σ' env' F' H' → D.bk σ' H'
  | some (.ct env') => ∀ σ' F' H', IV b F' H' σ' env' → Gr σ env F H σ' env' F' H' → D.ct σ' H'
  | some (.rt r env') => ∀ v σ' F' H', IV b F' H' σ' env' → Gr σ env F H σ' env' F' H' → Er b H F' H' σ' env' v r → D.rt v H'
  | some (.ex c env') => ∀ σ' F' H', IV b F' H' σ' env' → Gr σ env F H σ' env' F' H' → b.W (.ref (b.cl c)) none σ' H'
def tS (b : Bx) (f : MS) : TS := fun D σ H => ∃ F env, IV b F H σ env ∧ OkS b F H σ env (f env) D

def PV (X : Cx) (b : Bx) (f : M RD) (e : Expr) : Prop := PE X e (tV b f)
def PB (X : Cx) (b : Bx) (f : M Bool) (e : Expr) : Prop := PT X e (tT b f)
def PF (X : Cx) (b : Bx) (f : MS) (st : Stmt) : Prop := PS X st (tS b f)
def PFs (X : Cx) (b : Bx) (f : MS) (st : List Stmt) : Prop := PSs X st (tS b f)

section
variable {X : Cx} {b : Bx}
theorem PE.imp {e : Expr} {t t' : TE} (h : PE X e t) (i : ∀ σ H Q, t' σ H Q → t σ H Q) : PE X e t' := ⟨fun pins s σ H Q I q => h.run pins s σ H Q I (i σ H Q q)⟩
theorem PT.imp {e : Expr} {t t' : TT} (h : PT X e t) (i : ∀ σ H Q, t' σ H Q → t σ H Q) : PT X e t' := ⟨fun pins s σ H Q I q => h.run pins s σ H Q I (i σ H Q q)⟩
theorem PA.imp {e : List Expr} {t t' : TA} (h : PA X e t) (i : ∀ σ H Q, t' σ H Q → t σ H Q) : PA X e t' := ⟨fun pos pins s σ H Q I q => h.run pos pins s σ H Q I (i σ H Q q)⟩
theorem PS.imp {e : Stmt} {t t' : TS} (h : PS X e t) (i : ∀ D σ H, t' D σ H → t D σ H) : PS X e t' := ⟨fun pins s σ H D I q => h.run pins s σ H D I (i D σ H q)⟩
theorem PSs.imp {e : List Stmt} {t t' : TS} (h : PSs X e t) (i : ∀ D σ H, t' D σ H → t D σ H) : PSs X e t' := ⟨fun pins s σ H D I q => h.run pins s σ H D I (i D σ H q)⟩
end
end Pv
namespace Pv
open PySem PySem.Spec PyProof.Rows L2

section
variable {b : Bx} {F F' H H' Hs : Hp} {σ σ' : St} {env env' : En} {p : Addr} {o ho ho' : HO}
theorem RepOb.mono {K : PySem.W.Frag} {q : Ob} (e : Ex F F') (h : ∀ o, H p = some o → H' p = some o) (r : RepOb K F H p q) : RepOb K F' H' p q := by
  cases q with
  | lst xs =>
    obtain ⟨vs, h1, h2⟩ := r
    exact ⟨vs, h _ h1, h2.mono e⟩
  | dct t kvs =>
    cases t with
    | false =>
      obtain ⟨ks, h1, h2⟩ := r
      exact ⟨ks, h _ h1, h2.mono e⟩
    | true =>
      obtain ⟨ks, h1, h2⟩ := r
      exact ⟨ks, h _ h1, h2.mono e⟩
theorem RepOb.obj {K : PySem.W.Frag} {q : Ob} (r : RepOb K F H p q) : ∃ ho, H p = some ho ∧ mob ho = true ∧ isTbl ho = false := by
  cases q with
  | lst xs =>
    obtain ⟨vs, h1, h2⟩ := r
    exact ⟨_, h1, rfl, rfl⟩
  | dct t kvs =>
    cases t with
    | false =>
      obtain ⟨ks, h1, h2⟩ := r
      exact ⟨_, h1, rfl, rfl⟩
    | true =>
      obtain ⟨ks, h1, h2⟩ := r
      exact ⟨_, h1, rfl, rfl⟩
/-- frozen -/
theorem RepOb.rep {K : PySem.W.Frag} {q : Ob} (r : RepOb K F H p q) (e : Ex F F') (h : ∀ o, H p = some o → F' p = some o) : Rep K F' (.ref p) q.d := by
  cases q with
  | lst xs =>
    obtain ⟨vs, h1, h2⟩ := r
    exact .lst (h _ h1) (h2.mono e)
  | dct t kvs =>
    cases t with
    | false =>
      obtain ⟨ks, h1, h2⟩ := r
      exact .dK (.inl (h _ h1)) (h2.mono e)
    | true =>
      obtain ⟨ks, h1, h2⟩ := r
      exact .dT (.inl (h _ h1)) (h2.mono e)
theorem SlOk.mono {v : Option V} {s : Sl} (r : SlOk b F H v s) (e : Ex F F') (h : ∀ w q p, s = .m w q → v = some (.ref p) → F p = none → F' p = none ∧ ∀ o, H p = some o → H' p = some o) : SlOk b F' H' v s := by
  cases s with
  | un => trivial
  | d x =>
    obtain ⟨u, h1, h2⟩ := r
    exact ⟨u, h1, h2.mono e⟩
  | m w q =>
    obtain ⟨p, h1, h2, h3, h4⟩ := r
    obtain ⟨z1, z2⟩ := h w q p rfl h1 h2
    exact ⟨p, h1, z1, h3.mono e z2, h4⟩
  | f a => exact r
theorem IV.mm (I : IV b F H σ env) {q : Addr} (h : Mm σ env q) : F q = none ∧ ∃ ho, H q = some ho ∧ mob ho = true ∧ isTbl ho = false := by
  obtain ⟨i, w, o, h1, h2⟩ := h
  obtain ⟨v, h3, h4⟩ := I.sl i _ h1
  rw [h2] at h3
  cases h3
  obtain ⟨p, h5, h6, h7, _⟩ := h4
  cases h5
  exact ⟨h6, RepOb.obj h7⟩
/-- F and H grow, the slots' own objects stay -/
theorem IV.grow (I : IV b F H σ env) (x : Ex F' H') (e : Ex F F') (z : b.Z H') (hd : ∀ q, H' q = none → H q = none) (hm : ∀ q, Mm σ env q → F' q = none ∧ ∀ o, H q = some o → H' q = some o) : IV b F' H' σ env where
  ext := x
  z := z
  len := I.len
  sl := fun i s h => by
    obtain ⟨v, h1, h2⟩ := I.sl i s h
    refine ⟨v, h1, h2.mono e fun w q p hs hv hp => ?_⟩
    subst hs hv
    exact hm p ⟨i, w, q, h, h1⟩
  ne := I.ne
  h0 := fun q h => I.h0 q (hd q h)
  bo := I.bo
theorem upd_none {q : Addr} (h : upd H p o q = none) : H q = none := by
  unfold upd at h
  split at h
  · cases h
  · exact h
theorem IV.notMm (I : IV b F H σ env) (h : H p = none) : ¬ Mm σ env p := fun z => by
  obtain ⟨_, ho, e, _⟩ := I.mm z
  rw [h] at e; cases e
theorem IV.allocF (I : IV b F H σ env) (h : H p = none) : IV b (upd F p o) (upd H p o) σ env :=
  I.grow (Ex.upd2 I.ext) (Ex.new (I.ext.none h)) (b.zn H p o I.z h) (fun q z => upd_none z) fun q z => by
    obtain ⟨h1, ho, h2, _⟩ := I.mm z
    have n : q ≠ p := ne_of_none h2 h
    rw [upd_ne n, upd_ne n]
    exact ⟨h1, fun _ z => z⟩
theorem IV.allocH (I : IV b F H σ env) (h : H p = none) : IV b F (upd H p o) σ env :=
  I.grow (I.ext.upd (I.ext.none h)) (Ex.refl F) (b.zn H p o I.z h) (fun q z => upd_none z) fun q z => by
    obtain ⟨h1, ho, h2, _⟩ := I.mm z
    have n : q ≠ p := ne_of_none h2 h
    rw [upd_ne n]
    exact ⟨h1, fun _ z => z⟩
theorem Gr.newF (I : IV b F H σ env) (h : H p = none) : Gr σ env F H σ env (upd F p o) (upd H p o) where
  f := Ex.new (I.ext.none h)
  d := fun q z => upd_none z
  h := fun q u e _ _ => by rw [upd_ne (ne_of_none e h)]; exact e
  n := fun q z => by
    by_cases e : q = p
    · subst e; exact .inr (.inl h)
    · rw [upd_ne e] at z; exact .inl z
  m := fun q z => .inl z
  l := rfl
theorem Gr.newH (h : H p = none) : Gr σ env F H σ env F (upd H p o) where
  f := Ex.refl F
  d := fun q z => upd_none z
  h := fun q u e _ _ => by rw [upd_ne (ne_of_none e h)]; exact e
  n := fun q z => .inl z
  m := fun q z => .inl z
  l := rfl
/-- a new object is frozen at last: relative to a start that did not know it -/
theorem Gr.frz {σ0 : St} {env0 : En} {F0 : Hp} (g : Gr σ0 env0 F0 Hs σ env F H) (h : Hs p = none) (hp : F p = none) : Gr σ0 env0 F0 Hs σ env (upd F p ho) H where
  f := g.f.trans (Ex.new hp)
  d := g.d
  h := g.h
  n := fun q z => by
    by_cases e : q = p
    · subst e; exact .inr (.inl h)
    · rw [upd_ne e] at z; exact g.n q z
  m := g.m
  l := g.l
theorem IV.frz (I : IV b F H σ env) (hp : F p = none) (hh : H p = some ho) (hm : ¬ Mm σ env p) : IV b (upd F p ho) H σ env :=
  I.grow (I.ext.put hh) (Ex.new hp) I.z (fun q z => z) fun q z => by
    have n : q ≠ p := fun e => hm (e ▸ z)
    rw [upd_ne n]
    exact ⟨(I.mm z).1, fun _ z => z⟩

/-- an object that never changes comes to be known -/
theorem IV.learn (I : IV b F H σ env) (hp : F p = none) (hh : H p = some ho) (hm : mob ho = false) : IV b (upd F p ho) H σ env :=
  I.frz hp hh fun z => by
    obtain ⟨_, o, e1, e2, _⟩ := I.mm z
    rw [hh] at e1
    cases e1
    rw [hm] at e2
    cases e2
theorem Gr.learn (hp : F p = none) (hh : H p = some ho) (hm : mob ho = false) : Gr σ env F H σ env (upd F p ho) H where
  f := Ex.new hp
  d := fun q z => z
  h := fun q u e _ _ => e
  n := fun q z => by
    by_cases e : q = p
    · subst e; exact .inr (.inr (.inr ⟨ho, hh, hm⟩))
    · rw [upd_ne e] at z; exact .inl z
  m := fun q z => .inl z
  l := rfl

theorem getE_set {α : Type} {l : List α} {i j : Nat} {x y : α} (h : (l.set i x)[j]? = some y) : (i = j ∧ x = y ∧ i < l.length) ∨ (i ≠ j ∧ l[j]? = some y) := by
  by_cases e : i = j
  · subst e
    by_cases hl : i < l.length
    · rw [List.getElem?_set_self hl] at h
      exact .inl ⟨rfl, Option.some.inj h, hl⟩
    · rw [List.getElem?_eq_none (by simpa using hl)] at h
      cases h
  · rw [List.getElem?_set_ne e] at h
    exact .inr ⟨e, h⟩
theorem lt_of_get {α : Type} {l : List α} {i : Nat} {x : α} (h : l[i]? = some x) : i < l.length := (List.getElem?_eq_some_iff.mp h).1
theorem set_get {α : Type} {l : List α} {i : Nat} {x y : α} (h : l[i]? = some x) : (l.set i y)[i]? = some y := by
  rw [List.getElem?_set_self (lt_of_get h)]
theorem Mm.set {i : Nat} {w : Bool} {q q' : Ob} {a : Addr} (h : env[i]? = some (.m w q)) : Mm σ (env.set i (.m w q')) a ↔ Mm σ env a := by
  constructor
  · rintro ⟨j, w', o', h1, h2⟩
    rcases getE_set h1 with ⟨e, e2, _⟩ | ⟨e, h3⟩
    · subst e
      cases e2
      exact ⟨i, w, q, h, h2⟩
    · exact ⟨j, w', o', h3, h2⟩
  · rintro ⟨j, w', o', h1, h2⟩
    by_cases e : i = j
    · subst e
      rw [h] at h1
      cases h1
      exact ⟨i, w, q', set_get h, h2⟩
    · exact ⟨j, w', o', by rw [List.getElem?_set_ne e]; exact h1, h2⟩
/-- the object of the slot i is changed -/
theorem IV.mut (I : IV b F H σ env) {i : Nat} {w : Bool} {q q' : Ob} (h : env[i]? = some (.m w q)) (hs : σ[i]? = some (some (.ref p))) (mo : mob ho' = true)
    (r : RepOb b.K F (upd H p ho') p q') : IV b F (upd H p ho') σ (env.set i (.m w q')) := by
  obtain ⟨hF, ho, hH, hm, _⟩ := I.mm ⟨i, w, q, h, hs⟩
  refine ⟨I.ext.upd hF, b.zm H p ho ho' I.z hH hm mo, by rw [List.length_set]; exact I.len, fun j s hj => ?_, fun j k w1 w2 o1 o2 a h1 h2 h3 h4 => ?_, fun a ha => I.h0 a (upd_none ha), fun x hx => ?_⟩
  · rcases getE_set hj with ⟨e, e2, _⟩ | ⟨e, h3⟩
    · subst e e2
      obtain ⟨v, h4, h5⟩ := I.sl i _ h
      rw [hs] at h4
      cases h4
      obtain ⟨p', h6, h7, h8, h9⟩ := h5
      cases h6
      exact ⟨_, hs, p, rfl, hF, r, h9⟩
    · obtain ⟨v, h4, h5⟩ := I.sl j s h3
      refine ⟨v, h4, h5.mono (Ex.refl F) fun w1 o1 p1 e1 e2 e3 => ⟨e3, fun u hu => ?_⟩⟩
      subst e1 e2
      have n : p1 ≠ p := fun z => by
        subst z
        exact e (I.ne i j _ _ _ _ p1 h h3 hs h4)
      rw [upd_ne n]
      exact hu
  · have h1' : ∃ w o, env[j]? = some (.m w o) := by
      rcases getE_set h1 with ⟨e, e2, _⟩ | ⟨e, h5⟩
      · subst e
        exact ⟨_, _, h⟩
      · exact ⟨_, _, h5⟩
    have h2' : ∃ w o, env[k]? = some (.m w o) := by
      rcases getE_set h2 with ⟨e, e2, _⟩ | ⟨e, h5⟩
      · subst e
        exact ⟨_, _, h⟩
      · exact ⟨_, _, h5⟩
    obtain ⟨_, _, h5⟩ := h1'
    obtain ⟨_, _, h6⟩ := h2'
    exact I.ne j k _ _ _ _ a h5 h6 h3 h4
  · obtain ⟨h1, o, h2⟩ := I.bo x hx
    refine ⟨h1, ?_⟩
    by_cases e : i = x.1
    · subst e
      rw [h] at h2
      cases h2
      exact ⟨q', set_get h⟩
    · exact ⟨o, by rw [List.getElem?_set_ne e]; exact h2⟩
theorem Gr.mut (I : IV b F H σ env) {i : Nat} {w : Bool} {q q' : Ob} (h : env[i]? = some (.m w q)) (hs : σ[i]? = some (some (.ref p))) : Gr σ env F H σ (env.set i (.m w q')) F (upd H p ho') where
  f := Ex.refl F
  d := fun q z => upd_none z
  h := fun a u e hm _ => by
    have n : a ≠ p := fun z => hm (z ▸ ⟨i, w, q, h, hs⟩)
    rw [upd_ne n]
    exact e
  n := fun q z => .inl z
  m := fun a z => .inl ((Mm.set h).mp z)
  l := List.length_set ..
/-- the slot's object is frozen -/
theorem IV.frzSl (I : IV b F H σ env) {i : Nat} {q : Ob} (h : env[i]? = some (.m true q)) (hs : σ[i]? = some (some (.ref p))) (hh : H p = some ho) : IV b (upd F p ho) H σ (env.set i (.d q.d)) := by
  obtain ⟨hF, _⟩ := I.mm ⟨i, true, q, h, hs⟩
  refine ⟨I.ext.put hh, I.z, by rw [List.length_set]; exact I.len, fun j s hj => ?_, fun j k w1 w2 o1 o2 a h1 h2 h3 h4 => ?_, I.h0, fun x hx => ?_⟩
  · rcases getE_set hj with ⟨e, e2, _⟩ | ⟨e, h3⟩
    · subst e e2
      obtain ⟨v, h4, h5⟩ := I.sl i _ h
      rw [hs] at h4
      cases h4
      obtain ⟨p', h6, h7, h8, h9⟩ := h5
      cases h6
      exact ⟨_, hs, _, rfl, RepOb.rep h8 (Ex.new hF) fun o z => by rw [upd_same]; rw [hh] at z; exact z⟩
    · obtain ⟨v, h4, h5⟩ := I.sl j s h3
      refine ⟨v, h4, h5.mono (Ex.new hF) fun w1 o1 p1 e1 e2 e3 => ⟨?_, fun u hu => hu⟩⟩
      subst e1 e2
      have n : p1 ≠ p := fun z => by
        subst z
        exact e (I.ne i j _ _ _ _ p1 h h3 hs h4)
      rw [upd_ne n]
      exact e3
  · rcases getE_set h1 with ⟨e, e2, _⟩ | ⟨e, h5⟩
    · cases e2
    · rcases getE_set h2 with ⟨e', e2, _⟩ | ⟨e', h6⟩
      · cases e2
      · exact I.ne j k _ _ _ _ a h5 h6 h3 h4
  · obtain ⟨h1, o, h2⟩ := I.bo x hx
    refine ⟨h1, o, ?_⟩
    have e : i ≠ x.1 := fun e => by
      subst e
      rw [h] at h2
      cases h2
    rw [List.getElem?_set_ne e]
    exact h2
theorem Mm.of_set {i : Nat} {x : PyData} {a : Addr} (h : Mm σ (env.set i (.d x)) a) : Mm σ env a := by
  obtain ⟨j, w', o', h1, h2⟩ := h
  rcases getE_set h1 with ⟨e, e2, _⟩ | ⟨e, h3⟩
  · cases e2
  · exact ⟨j, w', o', h3, h2⟩
theorem Gr.frzSl (I : IV b F H σ env) {i : Nat} {q : Ob} (h : env[i]? = some (.m true q)) (hs : σ[i]? = some (some (.ref p))) : Gr σ env F H σ (env.set i (.d q.d)) (upd F p ho) H where
  f := Ex.new (I.mm ⟨i, true, q, h, hs⟩).1
  d := fun q z => z
  h := fun a u e hm _ => e
  n := fun a z => by
    by_cases e : a = p
    · subst e; exact .inr (.inr (.inl ⟨i, true, q, h, hs⟩))
    · rw [upd_ne e] at z; exact .inl z
  m := fun a z => .inl z.of_set
  l := List.length_set ..

/-- what is waiting stands behind a later step -/
theorem Er.step {v : V} {r : RD} (e : Er b Hs F H σ env v r) (g : Gr σ env F H σ env' F' H') : Er b Hs F' H' σ env' v r := by
  cases r with
  | val d => exact Rep.mono g.f e
  | pl i => exact e
  | fn a => exact e
  | own o =>
    obtain ⟨p, h1, h2, h3, h4, h5, h6⟩ := e
    obtain ⟨ho, e1, e2, e3⟩ := RepOb.obj h3
    refine ⟨p, h1, ?_, h3.mono g.f fun u hu => ?_, h4, h5, fun z => ?_⟩
    · cases q : F' p with
      | none => rfl
      | some u =>
        rcases g.n p (by rw [q]; exact fun z => nomatch z) with z | z | z | ⟨u, z, zm⟩
        · exact absurd h2 z
        · rw [e1] at z; cases z
        · exact absurd z h6
        · rw [e1] at z; cases z; rw [e2] at zm; cases zm
    · rw [e1] at hu
      cases hu
      exact g.h p _ e1 h6 e3
    · rcases g.m p z with z | z
      · exact h6 z
      · rw [e1] at z; cases z
/-- relative to an earlier start -/
theorem Er.back {Ht : Hp} {v : V} {r : RD} (e : Er b Hs F H σ env v r) (h : ∀ q, Hs q = none → Ht q = none) : Er b Ht F H σ env v r := by
  cases r with
  | val d => exact e
  | pl i => exact e
  | fn a => exact e
  | own o =>
    obtain ⟨p, h1, h2, h3, h4, h5, h6⟩ := e
    exact ⟨p, h1, h2, h3, h4, h p h5, h6⟩
end
/-- what may be read there: data, or the content of an object that is still changed -/
inductive Rv (K : PySem.W.Frag) (F H : Hp) : V → PyData → Prop
  | val {v : V} {d : PyData} : Rep K F v d → Rv K F H v d
  | ob {p : Addr} {o : Ob} : F p = none → RepOb K F H p o → Rv K F H (.ref p) o.d
def rslv (env : En) : RD → Option PyData
  | .val d => some d
  | .own o => some o.d
  | .pl i => match env[i]? with
    | some (.d x) => some x
    | some (.m _ o) => some o.d
    | _ => none
  | .fn _ => none
section
variable {b : Bx} {F F' H H' Hs : Hp} {σ σ' : St} {env env' : En} {p : Addr} {o ho ho' : HO}
theorem Er.rv {v : V} {r : RD} {d : PyData} (I : IV b F H σ env) (e : Er b Hs F H σ env v r) (h : rslv env r = some d) : Rv b.K F H v d := by
  cases r with
  | val x =>
    cases h
    exact .val e
  | fn a => cases h
  | own o =>
    cases h
    obtain ⟨p, rfl, h2, h3, _⟩ := e
    exact .ob h2 h3
  | pl i =>
    have e' : σ[i]? = some (some v) := e
    have h : (match env[i]? with
      | some (.d x) => some x
      | some (.m _ o) => some o.d
      | _ => none) = some d := h
    split at h
    · rename_i x hx
      cases h
      obtain ⟨u, h1, h2⟩ := I.sl i _ hx
      rw [e'] at h1
      cases h1
      obtain ⟨u, h3, h4⟩ := h2
      cases h3
      exact .val h4
    · rename_i w o hx
      cases h
      obtain ⟨u, h1, h2⟩ := I.sl i _ hx
      rw [e'] at h1
      cases h1
      obtain ⟨p, h3, h4, h5, _⟩ := h2
      cases h3
      exact .ob h4 h5
    · cases h
section
variable {K : PySem.W.Frag} {v : V}
theorem Rv.non (h : Rv K F H v .none) : v = .non := by
  generalize e : PyData.none = d at h
  cases h with
  | val h => subst e; cases h; rfl
  | @ob p o _ _ => cases o <;> cases e
theorem Rv.bl {c : Bool} (h : Rv K F H v (.bool c)) : v = .bl c := by
  generalize e : PyData.bool c = d at h
  cases h with
  | val h => subst e; cases h; rfl
  | @ob p o _ _ => cases o <;> cases e
theorem Rv.int {i : Int} (h : Rv K F H v (.int i)) : v = .int i := by
  generalize e : PyData.int i = d at h
  cases h with
  | val h => subst e; cases h; rfl
  | @ob p o _ _ => cases o <;> cases e
theorem Rv.str {i : Str} (h : Rv K F H v (.str i)) : v = .str i := by
  generalize e : PyData.str i = d at h
  cases h with
  | val h => subst e; cases h; rfl
  | @ob p o _ _ => cases o <;> cases e
theorem Rv.tup {ds : List PyData} (h : Rv K F H v (.tuple ds)) : ∃ a vs od, v = .ref a ∧ F a = some (tupHO od vs) ∧ Reps K F vs ds ∧ od.dict = none := by
  generalize e : PyData.tuple ds = d at h
  cases h with
  | val h =>
    subst e
    cases h with
    | tup h n r => exact ⟨_, _, _, rfl, h, r, n⟩
  | @ob p o _ _ => cases o <;> cases e
theorem Rv.lst {ds : List PyData} (x : Ex F H) (h : Rv K F H v (.list ds)) : ∃ a vs, v = .ref a ∧ H a = some (.lst vs) ∧ Reps K F vs ds := by
  generalize e : PyData.list ds = d at h
  cases h with
  | val h =>
    subst e
    cases h with
    | lst h r => exact ⟨_, _, rfl, x.l h, r⟩
  | @ob p o _ r =>
    cases o with
    | lst xs =>
      cases e
      obtain ⟨vs, h1, h2⟩ := r
      exact ⟨_, vs, rfl, h1, h2⟩
    | dct t kvs => cases e
/-- a tuple whose record isn't known -/
def isRaw : List (PyData × PyData) → Bool
  | (.none, _) :: _ => true
  | (.bool _, _) :: _ => true
  | _ => false
theorem Rv.dct {ds : List (PyData × PyData)} (x : Ex F H) (h : Rv K F H v (.dict ds)) (nr : isRaw ds = false) : ∃ a, v = .ref a ∧ ((∃ ks, Rd H a (.dK ks) ∧ RepK K F ks ds) ∨ ∃ ks, Rd H a (.dT ks) ∧ RepT K F ks ds) := by
  generalize e : PyData.dict ds = d at h
  cases h with
  | val h =>
    subst e
    cases h with
    | dK h r => exact ⟨_, rfl, .inl ⟨_, x.rdK h, r⟩⟩
    | dT h r => exact ⟨_, rfl, .inr ⟨_, x.rdT h, r⟩⟩
    | raw h r => cases nr
    | scr h r => cases nr
  | @ob p o _ r =>
    cases o with
    | lst xs => cases e
    | dct t kvs =>
      cases e
      refine ⟨_, rfl, ?_⟩
      cases t with
      | false =>
        obtain ⟨ks, h1, h2⟩ := r
        exact .inl ⟨ks, .inl h1, h2⟩
      | true =>
        obtain ⟨ks, h1, h2⟩ := r
        exact .inr ⟨ks, .inl h1, h2⟩
theorem Rv.scr {ds : List PyData} (x : Ex F H) (h : Rv K F H v (.dict [(.bool true, .list ds)])) : ∃ a vs, v = .ref a ∧ SqL K H a vs ∧ Reps K F vs ds := by
  generalize e : PyData.dict [(.bool true, .list ds)] = d at h
  cases h with
  | val h =>
    cases h with
    | scr h r =>
      cases e
      exact ⟨_, _, rfl, x.sq h, r⟩
    | dK h r =>
      exfalso
      cases r with
      | nil => cases e
      | @cons k w ks d ds a t => cases k <;> cases e
    | dT h r =>
      exfalso
      cases r with
      | nil => cases e
      | cons a t => cases e
    | _ => cases e
  | @ob p o _ r =>
    exfalso
    cases o with
    | lst xs => cases e
    | dct t kvs =>
      cases t with
      | false =>
        obtain ⟨ks, _, r⟩ := r
        cases r with
        | nil => cases e
        | @cons k w ks d ds a t => cases k <;> cases e
      | true =>
        obtain ⟨ks, _, r⟩ := r
        cases r with
        | nil => cases e
        | cons a t => cases e
theorem Rv.dp {d : PyData} (x : Ex F H) (h : Rv K F H v d) (n : noD d = true) : Dp K H v d := by
  cases h with
  | val h => exact (h.mono x).dp n
  | @ob p o hp r =>
    cases o with
    | lst xs =>
      obtain ⟨vs, h1, h2⟩ := r
      exact .lst (.inl (.inl h1)) ((h2.mono x).dp (by simpa only [noD, Ob.d] using n))
    | dct t kvs => simp [noD, Ob.d] at n
end
end
end Pv
namespace Pv
open PySem PySem.Spec PyProof.Rows L2

/-! ### one thing behind another -/
def bnd {α β : Type} (o : Option (Ou α)) (k : α → En → Option (Ou β)) : Option (Ou β) := match o with
  | none => none
  | some (.ex c e) => some (.ex c e)
  | some (.ok a e) => k a e
def bndS {α : Type} (o : Option (Ou α)) (k : α → En → Option Fl) : Option Fl := match o with
  | none => none
  | some (.ex c e) => some (.ex c e)
  | some (.ok a e) => k a e
def rok {α : Type} (o : Option α) (e : En) : Option (Ou α) := match o with
  | none => none
  | some a => some (.ok a e)
section
variable {b : Bx} {F F1 F' H H1 H' Hs : Hp} {σ σ' : St} {env env1 env' : En} {Q : VK} {QT : Bool → Hp → Prop} {D : Ends}
theorem OkV.re {o : Option (Ou RD)} (ok : OkV b F H σ env o Q) (g : Gr σ env F H σ env1 F1 H1) : OkV b F1 H1 σ env1 o Q := by
  cases o with
  | none => exact ok
  | some o =>
    cases o with
    | ok r e => exact fun v F' H' I g' er => ok v F' H' I (g.trans g') (er.back g.d)
    | ex c e => exact fun F' H' I g' => ok F' H' I (g.trans g')
theorem OkT.re {o : Option (Ou Bool)} (ok : OkT b F H σ env o QT) (g : Gr σ env F H σ env1 F1 H1) : OkT b F1 H1 σ env1 o QT := by
  cases o with
  | none => exact ok
  | some o =>
    cases o with
    | ok r e => exact fun F' H' I g' => ok F' H' I (g.trans g')
    | ex c e => exact fun F' H' I g' => ok F' H' I (g.trans g')
theorem OkS.re {o : Option Fl} {σ1 : St} (ok : OkS b F H σ env o D) (g : Gr σ env F H σ1 env1 F1 H1) : OkS b F1 H1 σ1 env1 o D := by
  cases o with
  | none => exact ok
  | some o =>
    cases o with
    | nx e => exact fun σ' F' H' I g' => ok σ' F' H' I (g.trans g')
    | bk e => exact fun σ' F' H' I g' => ok σ' F' H' I (g.trans g')
    | ct e => exact fun σ' F' H' I g' => ok σ' F' H' I (g.trans g')
    | rt r e => exact fun v σ' F' H' I g' er => ok v σ' F' H' I (g.trans g') (er.back g.d)
    | ex c e => exact fun σ' F' H' I g' => ok σ' F' H' I (g.trans g')
/-- an expression first -/
theorem vV {fa : M RD} {k : RD → En → Option (Ou RD)} {R : VK} (I : IV b F H σ env) (ok : OkV b F H σ env (bnd (fa env) k) Q)
    (hk : ∀ r env1 v F1 H1, IV b F1 H1 σ env1 → Gr σ env F H σ env1 F1 H1 → Er b H F1 H1 σ env1 v r → OkV b F1 H1 σ env1 (k r env1) Q → R v H1) : tV b fa σ H R := by
  refine ⟨F, env, I, ?_⟩
  revert ok
  cases fa env with
  | none => exact fun z => z
  | some o =>
    cases o with
    | ok r e => exact fun ok v F1 H1 I1 g er => hk r e v F1 H1 I1 g er (ok.re g)
    | ex c e => exact fun ok => ok
theorem vT {fa : M RD} {k : RD → En → Option (Ou Bool)} {R : VK} (I : IV b F H σ env) (ok : OkT b F H σ env (bnd (fa env) k) QT)
    (hk : ∀ r env1 v F1 H1, IV b F1 H1 σ env1 → Gr σ env F H σ env1 F1 H1 → Er b H F1 H1 σ env1 v r → OkT b F1 H1 σ env1 (k r env1) QT → R v H1) : tV b fa σ H R := by
  refine ⟨F, env, I, ?_⟩
  revert ok
  cases fa env with
  | none => exact fun z => z
  | some o =>
    cases o with
    | ok r e => exact fun ok v F1 H1 I1 g er => hk r e v F1 H1 I1 g er (ok.re g)
    | ex c e => exact fun ok => ok
theorem vS {fa : M RD} {k : RD → En → Option Fl} {R : VK} (I : IV b F H σ env) (ok : OkS b F H σ env (bndS (fa env) k) D)
    (hk : ∀ r env1 v F1 H1, IV b F1 H1 σ env1 → Gr σ env F H σ env1 F1 H1 → Er b H F1 H1 σ env1 v r → OkS b F1 H1 σ env1 (k r env1) D → R v H1) : tV b fa σ H R := by
  refine ⟨F, env, I, ?_⟩
  revert ok
  cases fa env with
  | none => exact fun z => z
  | some o =>
    cases o with
    | ok r e => exact fun ok v F1 H1 I1 g er => hk r e v F1 H1 I1 g er (ok.re g)
    | ex c e => exact fun ok => fun F' H' I' g' => ok σ F' H' I' g'
/-- .. its end as it was wanted ahead of all -/
theorem vS0 {fa : M RD} {k : RD → En → Option Fl} {R : VK} (I : IV b F H σ env) (ok : OkS b F H σ env (bndS (fa env) k) D)
    (hk : ∀ r env1 v F1 H1, IV b F1 H1 σ env1 → Gr σ env F H σ env1 F1 H1 → Er b H F1 H1 σ env1 v r → OkS b F H σ env (k r env1) D → R v H1) : tV b fa σ H R := by
  refine ⟨F, env, I, ?_⟩
  revert ok
  cases fa env with
  | none => exact fun z => z
  | some o =>
    cases o with
    | ok r e => exact fun ok v F1 H1 I1 g er => hk r e v F1 H1 I1 g er ok
    | ex c e => exact fun ok => fun F' H' I' g' => ok σ F' H' I' g'
theorem vV0 {fa : M RD} {k : RD → En → Option (Ou RD)} {R : VK} (I : IV b F H σ env) (ok : OkV b F H σ env (bnd (fa env) k) Q)
    (hk : ∀ r env1 v F1 H1, IV b F1 H1 σ env1 → Gr σ env F H σ env1 F1 H1 → Er b H F1 H1 σ env1 v r → OkV b F H σ env (k r env1) Q → R v H1) : tV b fa σ H R := by
  refine ⟨F, env, I, ?_⟩
  revert ok
  cases fa env with
  | none => exact fun z => z
  | some o =>
    cases o with
    | ok r e => exact fun ok v F1 H1 I1 g er => hk r e v F1 H1 I1 g er ok
    | ex c e => exact fun ok => ok
/-- a test first -/
theorem bV {fa : M Bool} {k : Bool → En → Option (Ou RD)} {R : Bool → Hp → Prop} (I : IV b F H σ env) (ok : OkV b F H σ env (bnd (fa env) k) Q)
    (hk : ∀ r env1 F1 H1, IV b F1 H1 σ env1 → Gr σ env F H σ env1 F1 H1 → OkV b F1 H1 σ env1 (k r env1) Q → R r H1) : tT b fa σ H R := by
  refine ⟨F, env, I, ?_⟩
  revert ok
  cases fa env with
  | none => exact fun z => z
  | some o =>
    cases o with
    | ok r e => exact fun ok F1 H1 I1 g => hk r e F1 H1 I1 g (ok.re g)
    | ex c e => exact fun ok => ok
theorem bT {fa : M Bool} {k : Bool → En → Option (Ou Bool)} {R : Bool → Hp → Prop} (I : IV b F H σ env) (ok : OkT b F H σ env (bnd (fa env) k) QT)
    (hk : ∀ r env1 F1 H1, IV b F1 H1 σ env1 → Gr σ env F H σ env1 F1 H1 → OkT b F1 H1 σ env1 (k r env1) QT → R r H1) : tT b fa σ H R := by
  refine ⟨F, env, I, ?_⟩
  revert ok
  cases fa env with
  | none => exact fun z => z
  | some o =>
    cases o with
    | ok r e => exact fun ok F1 H1 I1 g => hk r e F1 H1 I1 g (ok.re g)
    | ex c e => exact fun ok => ok
theorem bS {fa : M Bool} {k : Bool → En → Option Fl} {R : Bool → Hp → Prop} (I : IV b F H σ env) (ok : OkS b F H σ env (bndS (fa env) k) D)
    (hk : ∀ r env1 F1 H1, IV b F1 H1 σ env1 → Gr σ env F H σ env1 F1 H1 → OkS b F1 H1 σ env1 (k r env1) D → R r H1) : tT b fa σ H R := by
  refine ⟨F, env, I, ?_⟩
  revert ok
  cases fa env with
  | none => exact fun z => z
  | some o =>
    cases o with
    | ok r e => exact fun ok F1 H1 I1 g => hk r e F1 H1 I1 g (ok.re g)
    | ex c e => exact fun ok => fun F' H' I' g' => ok σ F' H' I' g'
end

/-! ### what a built-in does: it may make objects, it changes none -/
inductive Al (F H : Hp) : Hp → Hp → Prop
  | refl : Al F H F H
  | f {F1 H1 : Hp} {p : Addr} (o : HO) : Al F H F1 H1 → H1 p = none → Al F H (upd F1 p o) (upd H1 p o)
  | h {F1 H1 : Hp} {p : Addr} (o : HO) : Al F H F1 H1 → H1 p = none → Al F H F1 (upd H1 p o)
  | k {F1 H1 : Hp} {p : Addr} {o : HO} : Al F H F1 H1 → F1 p = none → H1 p = some o → mob o = false → Al F H (upd F1 p o) H1
theorem Al.f1 {F H : Hp} {p : Addr} (o : HO) (q : H p = none) : Al F H (upd F p o) (upd H p o) := .f o .refl q
theorem Al.h1 {F H : Hp} {p : Addr} (o : HO) (q : H p = none) : Al F H F (upd H p o) := .h o .refl q
theorem Al.both {b : Bx} {σ : St} {env : En} {F H F' H' : Hp} (a : Al F H F' H') (I : IV b F H σ env) : IV b F' H' σ env ∧ Gr σ env F H σ env F' H' := by
  induction a with
  | refl => exact ⟨I, Gr.refl _ _ _ _⟩
  | f o a q ih => exact ⟨ih.1.allocF q, ih.2.trans (Gr.newF ih.1 q)⟩
  | h o a q ih => exact ⟨ih.1.allocH q, ih.2.trans (Gr.newH q)⟩
  | k a q1 q2 q3 ih => exact ⟨ih.1.learn q1 q2 q3, ih.2.trans (Gr.learn q1 q2 q3)⟩
/-- r, made anew or data -/
def Nw (K : PySem.W.Frag) (H F' H' : Hp) (w : V) : RD → Prop
  | .val d => Rep K F' w d
  | .own o => ∃ p, w = .ref p ∧ F' p = none ∧ RepOb K F' H' p o ∧ H p = none
  | _ => False
section
variable {b : Bx} {F F1 F' H H1 H' Hs : Hp} {σ σ' : St} {env env1 env' : En} {Q : VK}
theorem Nw.er {w : V} {r : RD} (n : Nw b.K H F' H' w r) (a : Al F H F' H') (I : IV b F H σ env) : Er b H F' H' σ env w r := by
  cases r with
  | val d => exact n
  | pl i => exact n.elim
  | fn a => exact n.elim
  | own o =>
    obtain ⟨p, h1, h2, h3, h4⟩ := n
    exact ⟨p, h1, h2, h3, I.h0 p h4, h4, I.notMm h4⟩
theorem nw_bl {K : PySem.W.Frag} {c : Bool} : Nw K H F H (.bl c) (.val (.bool c)) := Rep.bl c
theorem nw_int {K : PySem.W.Frag} {c : Int} : Nw K H F H (.int c) (.val (.int c)) := Rep.int c
theorem nw_str {K : PySem.W.Frag} {c : Str} : Nw K H F H (.str c) (.val (.str c)) := Rep.str c
theorem nw_non {K : PySem.W.Frag} : Nw K H F H .non (.val .none) := Rep.non
/-- a new list, a new tuple of given items -/
theorem nw_list {K : PySem.W.Frag} {p : Addr} {vs : List V} {ds : List PyData} (x : Ex F H) (h : H p = none) (r : Reps K F vs ds) : Nw K H F (upd H p (.lst vs)) (.ref p) (.own (.lst ds)) :=
  ⟨p, rfl, x.none h, ⟨vs, upd_same, r⟩, h⟩
theorem nw_tup {K : PySem.W.Frag} {p : Addr} {vs : List V} {ds : List PyData} {od : Obj} (x : Ex F H) (h : H p = none) (r : Reps K F vs ds) (n : od.dict = none) : Nw K H (upd F p (tupHO od vs)) (upd H p (tupHO od vs)) (.ref p) (.val (.tuple ds)) :=
  .tup upd_same n (r.mono (Ex.new (x.none h)))
/-- what is wanted of an operation's end -/
abbrev Wd (K : PySem.W.Frag) (F H : Hp) (r : RD) (Q : VK) : Prop := ∀ w F' H', Al F H F' H' → Nw K H F' H' w r → Q w H'
theorem wd_of {r : RD} (I : IV b F H σ env) (ok : OkV b F H σ env (some (.ok r env)) Q) : Wd b.K F H r Q := fun w F' H' a n => by
  obtain ⟨I', g⟩ := a.both I
  exact ok w F' H' I' g (n.er a I)
end

/-- a place where bodies run: the context, a bound of the calls that may follow -/
structure Gx (X : Cx) (b : Bx) (k : Nat) : Prop where
  calm : X.calm = true
  nd : X.N.Nodup
  po : PassesOwn (model X.prog X.w) X.A X.env X.xe
  tk : Takes X b.W
  room : Room k X.A
  kk : b.K = X.K

/-! ### names, constants -/
def fVar (i : Nat) : M RD := fun e => match e[i]? with
  | some (.d x) => some (.ok (.val x) e)
  | some (.m _ _) => some (.ok (.pl i) e)
  | some (.f a) => some (.ok (.fn a) e)
  | _ => none
def fVal (d : PyData) : M RD := fun e => some (.ok (.val d) e)
section
variable {X : Cx} {b : Bx} {k : Nat} {pos : Pos} {e e1 e2 e3 : Expr} {f f1 f2 f3 : M RD}
theorem tV.val {d : PyData} {v : V} {σ : St} {H : Hp} {Q : VK} (h : tV b (fVal d) σ H Q) (r : ∀ F, Rep b.K F v d) : Q v H := by
  obtain ⟨F, env, I, ok⟩ := h
  exact ok v F H I (Gr.refl _ _ _ _) (r F)
theorem pv_var (i : Nat) {x : Str} (hN : X.N[i]? = some x := by rfl) (hv : Vis X.env.scope x := by first | exact Or.inl rfl | exact Or.inr (Or.inl rfl) | exact Or.inr (Or.inr rfl)) (hd : (x == ("__debug__" : Str)) = false := by decide)
    (hcd : (x == ("__classdict__" : Str)) = false := by decide) : PV X b (fVar i) (.Name x pos) := by
  refine PE.imp (pe_var hN hv hd hcd) fun σ H Q h => ?_
  obtain ⟨F, env, I, ok⟩ := h
  cases q : env[i]? with
  | none =>
    have z : fVar i env = none := by simp only [fVar, q]
    rw [z] at ok
    exact ok.elim
  | some s =>
    obtain ⟨v, h1, h2⟩ := I.sl i s q
    cases s with
    | un =>
      have z : fVar i env = none := by simp only [fVar, q]
      rw [z] at ok
      exact ok.elim
    | d x =>
      have z : fVar i env = some (.ok (.val x) env) := by simp only [fVar, q]
      rw [z] at ok
      obtain ⟨u, h3, h4⟩ := h2
      subst h3
      exact ⟨u, h1, ok u F H I (Gr.refl _ _ _ _) h4⟩
    | m w o =>
      have z : fVar i env = some (.ok (.pl i) env) := by simp only [fVar, q]
      rw [z] at ok
      obtain ⟨p, h3, _⟩ := h2
      subst h3
      exact ⟨_, h1, ok _ F H I (Gr.refl _ _ _ _) h1⟩
    | f a =>
      have z : fVar i env = some (.ok (.fn a) env) := by simp only [fVar, q]
      rw [z] at ok
      have h3 : v = some (.ref a) := h2
      subst h3
      exact ⟨_, h1, ok _ F H I (Gr.refl _ _ _ _) rfl⟩
theorem pv_int {i : Int} {j : Nat} : PV X b (fVal (.int i)) (.Constant (.int i) j pos) := PE.imp pe_int fun _ _ _ h => h.val fun _ => .int i
theorem pv_bl {c : Bool} {j : Nat} : PV X b (fVal (.bool c)) (.Constant (.bool c) j pos) := PE.imp pe_bl fun _ _ _ h => h.val fun _ => .bl c
theorem pv_non {j : Nat} : PV X b (fVal .none) (.Constant .none j pos) := PE.imp pe_non fun _ _ _ h => h.val fun _ => .non
theorem pv_str {x : Str} {j : Nat} : PV X b (fVal (.str x)) (.Constant (.str x) j pos) := PE.imp pe_str fun _ _ _ h => h.val fun _ => .str x
/-- a text or a number of the module -/
theorem pv_gstr {x z : Str} (hg : Gl X x) (h : ∃ t, X.mg x = some (.str z t)) (hd : (x == ("__debug__" : Str)) = false := by decide) : PV X b (fVal (.str z)) (.Name x pos) := by
  obtain ⟨t, h⟩ := h
  exact PE.imp (pe_glob (v := .str z) hg h ⟨t, rfl⟩ hd) fun _ _ _ h => h.val fun _ => .str z
theorem pv_gint {x : Str} {z : Int} (hg : Gl X x) (h : ∃ t, X.mg x = some (.int z t)) (hd : (x == ("__debug__" : Str)) = false := by decide) : PV X b (fVal (.int z)) (.Name x pos) := by
  obtain ⟨t, h⟩ := h
  exact PE.imp (pe_glob (v := .int z) hg h ⟨t, rfl⟩ hd) fun _ _ _ h => h.val fun _ => .int z

/-! ### operators -/
def fBin (op : PyData → PyData → Option RD) (fa fb : M RD) : M RD := fun e =>
  bnd (fa e) fun ra e1 => bnd (fb e1) fun rb e2 => match rslv e2 ra, rslv e2 rb with
    | some x, some y => rok (op x y) e2
    | _, _ => none
def OpD (K : PySem.W.Frag) (r : R2) (op : PyData → PyData → Option RD) : Prop :=
  ∀ (F H : Hp) (v u : V) (x y : PyData) (res : RD) (Q : VK), Ex F H → Rv K F H v x → Rv K F H u y → op x y = some res → Wd K F H res Q → r v u H Q
theorem opd_end {r : R2} {op : PyData → PyData → Option RD} (hd : OpD X.K r op) (hk : b.K = X.K) {F H H1 Hs : Hp} {σ : St} {env : En} {v u : V} {ra rb : RD} {Q : VK} (I : IV b F H σ env) (e1 : Er b Hs F H σ env v ra) (e2 : Er b H1 F H σ env u rb)
    (ok : OkV b F H σ env (match rslv env ra, rslv env rb with
    | some x, some y => rok (op x y) env
    | _, _ => none) Q) : r v u H Q := by
  cases h1 : rslv env ra with
  | none => rw [h1] at ok; exact ok.elim
  | some x =>
    cases h2 : rslv env rb with
    | none => rw [h1, h2] at ok; exact ok.elim
    | some y =>
      rw [h1, h2] at ok
      cases h3 : op x y with
      | none =>
        have ok : OkV b F H σ env (rok (op x y) env) Q := ok
        rw [h3] at ok
        exact ok.elim
      | some res =>
        have ok : OkV b F H σ env (rok (op x y) env) Q := ok
        rw [h3] at ok
        have z := wd_of I ok
        rw [hk] at z
        have z1 := Er.rv I e1 h1
        have z2 := Er.rv I e2 h2
        rw [hk] at z1 z2
        exact hd F H v u x y res Q I.ext z1 z2 h3 z
theorem tOp_of {r : R2} {op : PyData → PyData → Option RD} (hd : OpD X.K r op) (hk : b.K = X.K) {σ : St} {H : Hp} {Q : VK} (h : tV b (fBin op f1 f2) σ H Q) : tOp r (tV b f1) (tV b f2) σ H Q := by
  obtain ⟨F, env, I, ok⟩ := h
  refine vV I ok fun ra env1 v F1 H1 I1 g1 er1 ok1 => ?_
  refine vV I1 ok1 fun rb env2 u F2 H2 I2 g2 er2 ok2 => ?_
  exact opd_end hd hk I2 (er1.step g2) er2 ok2
theorem pv_bin {op : Operator} {r : R2} {fo : PyData → PyData → Option RD} (ho : OpR X (binaryOp op) r) (hd : OpD X.K r fo) (g : Gx X b k) (h1 : PV X b f1 e1) (h2 : PV X b f2 e2) : PV X b (fBin fo f1 f2) (.BinOp e1 op e2 pos) :=
  PE.imp (pe_op ho h1 h2) fun _ _ _ h => tOp_of hd g.kk h
theorem pv_cmp {op : CmpOp} {r : R2} {fo : PyData → PyData → Option RD} (ho : OpR X (compareOp op) r) (hd : OpD X.K r fo) (g : Gx X b k) (h1 : PV X b f1 e1) (h2 : PV X b f2 e2) (hm : behindInMarks op e2 = false) : PV X b (fBin fo f1 f2) (.Compare e1 [op] [e2] pos) :=
  PE.imp (pe_cmpR ho h1 h2 hm) fun _ _ _ h => tOp_of hd g.kk h
theorem pv_ix {r : R2} {fo : PyData → PyData → Option RD} (ho : IxR X r) (hd : OpD X.K r fo) (g : Gx X b k) (h1 : PV X b f1 e1) (h2 : PV X b f2 e2) (hs : PlainIx e2) : PV X b (fBin fo f1 f2) (.Subscript e1 e2 pos) :=
  PE.imp (pe_ix ho h1 h2 hs) fun _ _ _ h => tOp_of hd g.kk h
/-- a disjunction of readings -/
theorem OpD.or {K : PySem.W.Frag} {r r' : R2} {f g : PyData → PyData → Option RD} (h : OpD K r f) (h' : OpD K r' g) : OpD K (fun x y H Q => r x y H Q ∨ r' x y H Q) (fun x y => match f x y with
    | some z => some z
    | none => g x y) := fun F H v u x y res Q ex rv ru e wd => by
  have e : (match f x y with
    | some z => some z
    | none => g x y) = some res := e
  cases q : f x y with
  | some z =>
    rw [q] at e
    exact .inl (h F H v u x y res Q ex rv ru (q.trans e) wd)
  | none =>
    rw [q] at e
    exact .inr (h' F H v u x y res Q ex rv ru e wd)
theorem OpD.imp {K : PySem.W.Frag} {r : R2} {f g : PyData → PyData → Option RD} (h : OpD K r f) (e : ∀ x y res, g x y = some res → f x y = some res) : OpD K r g := fun F H v u x y res Q ex rv ru q wd => h F H v u x y res Q ex rv ru (e x y res q) wd
end
end Pv
namespace Pv
open PySem PySem.Spec PyProof.Rows L2

def lim : Nat := 1000000
theorem lim_le {n : Nat} (h : n ≤ lim) : n ≤ sizeLine := Nat.le_trans h (by rw [sizeLine_eq]; decide)
theorem lim_lt {n : Nat} (h : n < lim) : n < sizeLine := Nat.lt_of_lt_of_le h (by rw [sizeLine_eq]; decide)

/-! ### an object is frozen -/
def frzR (r : RD) (e : En) : Option (PyData × En) := match r with
  | .val d => some (d, e)
  | .own o => some (o.d, e)
  | .pl j => match e[j]? with
    | some (.d x) => some (x, e)
    | some (.m true o) => some (o.d, e.set j (.d o.d))
    | _ => none
  | .fn _ => none
section
variable {b : Bx} {F F0 F1 F' H H1 H' Hs : Hp} {σ σ0 σ' : St} {env env0 env1 env' : En} {Q : VK} {QT : Bool → Hp → Prop} {D : Ends}
theorem frz_ok {v : V} {r : RD} {d : PyData} (I : IV b F H σ env) (g : Gr σ0 env0 F0 Hs σ env F H) (er : Er b Hs F H σ env v r) (h : frzR r env = some (d, env')) :
    ∃ F', IV b F' H σ env' ∧ Gr σ0 env0 F0 Hs σ env' F' H ∧ Rep b.K F' v d ∧ (∀ Ht u q, Er b Ht F H σ env u q → (∀ o o', q = .own o → r = .own o' → u ≠ v) → Er b Ht F' H σ env' u q) ∧ Ex F F' := by
  cases r with
  | val x =>
    cases h
    exact ⟨F, I, g, er, fun _ _ _ z _ => z, Ex.refl F⟩
  | fn a => cases h
  | own o =>
    cases h
    obtain ⟨p, rfl, h2, h3, h4, h5, h6⟩ := er
    obtain ⟨ho, e1, _, _⟩ := RepOb.obj h3
    refine ⟨upd F p ho, I.frz h2 e1 h6, g.frz h5 h2, RepOb.rep h3 (Ex.new h2) (fun u hu => by rw [upd_same, ← e1, hu]), fun Ht u q z n => ?_, Ex.new h2⟩
    cases q with
    | val x => exact Rep.mono (Ex.new h2) z
    | pl i => exact z
    | fn a => exact z
    | own o2 =>
      obtain ⟨p2, q1, q2, q3, q4, q5, q6⟩ := z
      have ne : p2 ≠ p := fun e => n _ _ rfl rfl (by rw [q1, e])
      exact ⟨p2, q1, by rw [upd_ne ne]; exact q2, q3.mono (Ex.new h2) fun _ z => z, q4, q5, q6⟩
  | pl j =>
    have h : (match env[j]? with
      | some (.d x) => some (x, env)
      | some (.m true o) => some (o.d, env.set j (.d o.d))
      | _ => none) = some (d, env') := h
    have er' : σ[j]? = some (some v) := er
    split at h
    · rename_i x hx
      cases h
      obtain ⟨u, h1, h2⟩ := I.sl j _ hx
      rw [er'] at h1
      cases h1
      obtain ⟨u, h3, h4⟩ := h2
      cases h3
      exact ⟨F, I, g, h4, fun _ _ _ z _ => z, Ex.refl F⟩
    · rename_i o hx
      cases h
      obtain ⟨u, h1, h2⟩ := I.sl j _ hx
      rw [er'] at h1
      cases h1
      obtain ⟨p, h3, h4, h5, h6⟩ := h2
      cases h3
      obtain ⟨ho, e1, _, _⟩ := RepOb.obj h5
      refine ⟨upd F p ho, I.frzSl hx er' e1, g.trans (Gr.frzSl I hx er'), RepOb.rep h5 (Ex.new h4) (fun u hu => by rw [upd_same, ← e1, hu]), fun Ht u q z n => ?_, Ex.new h4⟩
      cases q with
      | val x => exact Rep.mono (Ex.new h4) z
      | pl i => exact z
      | fn a => exact z
      | own o2 =>
        obtain ⟨p2, q1, q2, q3, q4, q5, q6⟩ := z
        have ne : p2 ≠ p := fun e => q6 (e ▸ ⟨j, true, o, hx, er'⟩)
        exact ⟨p2, q1, by rw [upd_ne ne]; exact q2, RepOb.mono (Ex.new h4) (fun _ z => z) q3, q4, q5, fun z => q6 z.of_set⟩
    · cases h

theorem frz_env {r : RD} {d : PyData} (h : frzR r env = some (d, env')) : env' = env ∨ ∃ j o, r = .pl j ∧ env[j]? = some (.m true o) ∧ env' = env.set j (.d o.d) := by
  cases r with
  | val x => cases h; exact .inl rfl
  | own o => cases h; exact .inl rfl
  | fn a => cases h
  | pl j =>
    have h : (match env[j]? with
      | some (.d x) => some (x, env)
      | some (.m true o) => some (o.d, env.set j (.d o.d))
      | _ => none) = some (d, env') := h
    split at h
    · cases h; exact .inl rfl
    · rename_i o q
      cases h
      exact .inr ⟨j, o, rfl, q, rfl⟩
    · cases h

/-! ### a slot gets a value -/
theorem IV.set (I : IV b F H σ env) {i : Nat} {s0 s : Sl} {v : V} (hi : env[i]? = some s0) (nb : ∀ o, s0 ≠ .m false o) (ok : SlOk b F H (some v) s)
    (hm : ∀ w o p, s = .m w o → v = .ref p → ¬ Mm σ env p) : IV b F H (σ.set i (some v)) (env.set i s) := by
  have hl : i < σ.length := by rw [I.len]; exact lt_of_get hi
  refine ⟨I.ext, I.z, by rw [List.length_set, List.length_set]; exact I.len, fun j t hj => ?_, fun j k w1 w2 o1 o2 a h1 h2 h3 h4 => ?_, I.h0, fun x hx => ?_⟩
  · rcases getE_set hj with ⟨e, e2, _⟩ | ⟨e, h3⟩
    · subst e e2
      exact ⟨some v, by rw [List.getElem?_set_self hl], ok⟩
    · obtain ⟨u, h4, h5⟩ := I.sl j t h3
      exact ⟨u, by rw [List.getElem?_set_ne e]; exact h4, h5⟩
  · rcases getE_set h1 with ⟨e, e2, _⟩ | ⟨e, h5⟩
    · rcases getE_set h2 with ⟨e', e2', _⟩ | ⟨e', h6⟩
      · exact e.symm.trans e'
      · subst e e2
        rw [List.getElem?_set_self hl] at h3
        cases h3
        rw [List.getElem?_set_ne e'] at h4
        exact absurd ⟨k, w2, o2, h6, h4⟩ (hm _ _ _ rfl rfl)
    · rcases getE_set h2 with ⟨e', e2', _⟩ | ⟨e', h6⟩
      · subst e' e2'
        rw [List.getElem?_set_self hl] at h4
        cases h4
        rw [List.getElem?_set_ne e] at h3
        exact absurd ⟨j, w1, o1, h5, h3⟩ (hm _ _ _ rfl rfl)
      · rw [List.getElem?_set_ne e] at h3
        rw [List.getElem?_set_ne e'] at h4
        exact I.ne j k _ _ _ _ a h5 h6 h3 h4
  · obtain ⟨h1, o, h2⟩ := I.bo x hx
    have e : i ≠ x.1 := fun e => by
      subst e
      rw [hi] at h2
      cases h2
      exact nb o rfl
    exact ⟨by rw [List.getElem?_set_ne e]; exact h1, o, by rw [List.getElem?_set_ne e]; exact h2⟩
theorem Gr.set (g : Gr σ0 env0 F0 Hs σ env F H) {i : Nat} {s : Sl} {v : V} (hl : i < σ.length) (hm : ∀ w o p, s = .m w o → v = .ref p → Hs p = none) : Gr σ0 env0 F0 Hs (σ.set i (some v)) (env.set i s) F H where
  f := g.f
  d := g.d
  h := g.h
  n := g.n
  m := fun q z => by
    obtain ⟨j, w, o, h1, h2⟩ := z
    rcases getE_set h1 with ⟨e, e2, _⟩ | ⟨e, h3⟩
    · subst e e2
      rw [List.getElem?_set_self hl] at h2
      cases h2
      exact .inr (hm _ _ _ rfl rfl)
    · rw [List.getElem?_set_ne e] at h2
      exact g.m q ⟨j, w, o, h3, h2⟩
  l := (List.length_set ..).trans g.l
end
/-- what is stored in the slot i -/
def putR (i : Nat) (r : RD) (e : En) : Option En := match r with
  | .own o => some (e.set i (.m true o))
  | .fn a => some (e.set i (.f a))
  | .val d => some (e.set i (.d d))
  | .pl j => match e[j]? with
    | some (.d x) => some (e.set i (.d x))
    | some (.m true o) => some ((e.set j (.d o.d)).set i (.d o.d))
    | _ => none
def setR (i : Nat) (r : RD) (e : En) : Option En := match e[i]? with
  | none => none
  | some (.m false _) => none
  | some _ => putR i r e
def fSet (i : Nat) (f : M RD) : MS := fun e => bndS (f e) fun r e1 => match setR i r e1 with
  | some e2 => some (.nx e2)
  | none => none
section
variable {b : Bx} {F F0 F1 F' H H1 H' Hs : Hp} {σ σ0 σ' : St} {env env0 env1 env' : En} {Q : VK} {QT : Bool → Hp → Prop} {D : Ends}
theorem set_ok {i : Nat} {v : V} {r : RD} (I : IV b F H σ env) (g : Gr σ0 env0 F0 Hs σ env F H) (er : Er b Hs F H σ env v r) (h : setR i r env = some env') :
    ∃ F', IV b F' H (σ.set i (some v)) env' ∧ Gr σ0 env0 F0 Hs (σ.set i (some v)) env' F' H := by
  unfold setR at h
  cases hi : env[i]? with
  | none => rw [hi] at h; cases h
  | some s0 =>
    have hl : i < σ.length := by rw [I.len]; exact lt_of_get hi
    have nb : ∀ o, s0 ≠ .m false o := fun o e => by
      subst e
      rw [hi] at h
      cases h
    have h2 : putR i r env = some env' := by
      rw [hi] at h
      cases s0 with
      | m w o =>
        cases w with
        | false => exact absurd rfl (nb o)
        | true => exact h
      | un => exact h
      | d x => exact h
      | f a => exact h
    clear h
    cases r with
    | own o =>
      cases h2
      obtain ⟨p, rfl, h2, h3, h4, h5, h6⟩ := er
      refine ⟨F, I.set hi nb ⟨p, rfl, h2, h3, fun _ => h4⟩ fun w o p e1 e2 => ?_, g.set hl fun w o p e1 e2 => ?_⟩
      · cases e2
        exact h6
      · cases e2
        exact h5
    | fn a =>
      cases h2
      have er : v = .ref a := er
      subst er
      exact ⟨F, I.set (s := .f a) (v := .ref a) hi nb rfl (fun w o p e1 e2 => nomatch e1), g.set (s := .f a) hl fun w o p e1 e2 => nomatch e1⟩
    | val d =>
      cases h2
      exact ⟨F, I.set (s := .d d) (v := v) hi nb ⟨v, rfl, er⟩ (fun w o p e1 e2 => nomatch e1), g.set (s := .d d) hl fun w o p e1 e2 => nomatch e1⟩
    | pl j =>
      have h2 : (match env[j]? with
        | some (.d x) => some (env.set i (.d x))
        | some (.m true o) => some ((env.set j (.d o.d)).set i (.d o.d))
        | _ => none) = some env' := h2
      have er' : σ[j]? = some (some v) := er
      split at h2
      · rename_i x hx
        cases h2
        obtain ⟨u, h1, h2⟩ := I.sl j _ hx
        rw [er'] at h1
        cases h1
        obtain ⟨u, h3, h4⟩ := h2
        cases h3
        exact ⟨F, I.set (s := .d x) (v := v) hi nb ⟨v, rfl, h4⟩ (fun w o p e1 e2 => nomatch e1), g.set (s := .d x) hl fun w o p e1 e2 => nomatch e1⟩
      · rename_i o hx
        cases h2
        obtain ⟨F', I', g', rp, _⟩ := frz_ok (r := .pl j) (d := o.d) (env' := env.set j (.d o.d)) I g er (by simp only [frzR, hx])
        have hi' : ∃ s1, (env.set j (.d o.d))[i]? = some s1 ∧ ∀ o, s1 ≠ .m false o := by
          by_cases e : j = i
          · subst e
            exact ⟨_, set_get hx, fun o z => by cases z⟩
          · exact ⟨s0, by rw [List.getElem?_set_ne e]; exact hi, nb⟩
        obtain ⟨s1, hs1, nb1⟩ := hi'
        exact ⟨F', I'.set (s := .d o.d) (v := v) hs1 nb1 ⟨v, rfl, rp⟩ (fun w o p e1 e2 => nomatch e1), g'.set (s := .d o.d) hl fun w o p e1 e2 => nomatch e1⟩
      · cases h2
end

/-! ### truth -/
def truD : PyData → Option Bool
  | .none => some false
  | .bool c => some c
  | .int i => some (i != 0)
  | .str s => if s.length ≤ lim then some ((s.length : Int) != 0) else none
  | .list xs => some (!xs.isEmpty)
  | .tuple xs => some (!xs.isEmpty)
  | .dict _ => none
def fTru (f : M RD) : M Bool := fun e => bnd (f e) fun r e1 => match rslv e1 r with
  | some d => rok (truD d) e1
  | none => none
/-- the truth itself -/
def fB (f : M RD) : M Bool := fun e => bnd (f e) fun r e1 => match r with
  | .val (.bool c) => some (.ok c e1)
  | _ => none
def fNot (f : M Bool) : M Bool := fun e => bnd (f e) fun c e1 => some (.ok (!c) e1)
def fAnd (f g : M Bool) : M Bool := fun e => bnd (f e) fun c e1 => if c = true then g e1 else some (.ok false e1)
def fOr (f g : M Bool) : M Bool := fun e => bnd (f e) fun c e1 => if c = true then some (.ok true e1) else g e1
def fNotV (f : M RD) : M RD := fun e => bnd (f e) fun r e1 => match r with
  | .val (.bool c) => some (.ok (.val (.bool (!c))) e1)
  | _ => none
def fAndV (f g : M RD) : M RD := fun e => bnd (f e) fun r e1 => match r with
  | .val (.bool true) => g e1
  | .val (.bool false) => some (.ok (.val (.bool false)) e1)
  | _ => none
def fOrV (f g : M RD) : M RD := fun e => bnd (f e) fun r e1 => match r with
  | .val (.bool true) => some (.ok (.val (.bool true)) e1)
  | .val (.bool false) => g e1
  | _ => none
def fIf (c : M Bool) (f g : M RD) : M RD := fun e => bnd (c e) fun c e1 => if c = true then f e1 else g e1
section
variable {X : Cx} {b : Bx} {k : Nat} {pos : Pos} {e e1 e2 e3 : Expr} {f f1 f2 f3 : M RD} {t t1 t2 : M Bool} {rest : List Expr}
theorem isEmpty_reps {K : PySem.W.Frag} {F : Hp} {vs : List V} {ds : List PyData} (r : Reps K F vs ds) : vs.isEmpty = ds.isEmpty := by
  cases r <;> rfl
theorem truV_of {F H : Hp} {v : V} {d : PyData} {c : Bool} (x : Ex F H) (r : Rv X.K F H v d) (h : truD d = some c) : TruV X.K v H c := by
  cases d with
  | none => cases h; rw [Rv.non r]; rfl
  | bool z => cases h; rw [Rv.bl r]; rfl
  | int i => cases h; rw [Rv.int r]; rfl
  | str s =>
    rw [Rv.str r]
    have h' : (if s.length ≤ lim then some ((s.length : Int) != 0) else none) = some c := h
    split at h'
    · rename_i hl
      cases h'
      exact ⟨lim_le hl, rfl⟩
    · cases h'
  | list ds =>
    obtain ⟨a, vs, rfl, h1, h2⟩ := r.lst x
    cases h
    exact .inl ⟨vs, sql h1, by rw [isEmpty_reps h2]⟩
  | tuple ds =>
    obtain ⟨a, vs, od, rfl, h1, h2, _⟩ := r.tup
    cases h
    exact .inr (.inl ⟨vs, sqh (x.h h1), by rw [isEmpty_reps h2]⟩)
  | dict kvs => cases h
theorem pb_tru (g : Gx X b k) (h : PV X b f e) (he : ∀ whole, isTrue e X.env whole = (do let v ← whole; standAt e.pos; holding [v] (truthy v)) := by intro _; rfl) : PB X b (fTru f) e := by
  refine PT.imp (pt_truth h he) fun σ H Q h => ?_
  obtain ⟨F, env, I, ok⟩ := h
  refine vT I ok fun r env1 v F1 H1 I1 g1 er ok1 => ?_
  cases h1 : rslv env1 r with
  | none => rw [h1] at ok1; exact ok1.elim
  | some d =>
    rw [h1] at ok1
    cases h2 : truD d with
    | none =>
      have ok1 : OkT b F1 H1 σ env1 (rok (truD d) env1) Q := ok1
      rw [h2] at ok1
      exact ok1.elim
    | some c =>
      have ok1 : OkT b F1 H1 σ env1 (rok (truD d) env1) Q := ok1
      rw [h2] at ok1
      have z := Er.rv I1 er h1
      rw [g.kk] at z
      exact ⟨c, truV_of I1.ext z h2, ok1 F1 H1 I1 (Gr.refl _ _ _ _)⟩
theorem tTest_of {σ : St} {H : Hp} {Q : Bool → Hp → Prop} (h : tT b (fB f) σ H Q) : tTest (tV b f) σ H Q := by
  obtain ⟨F, env, I, ok⟩ := h
  refine vT I ok fun r env1 v F1 H1 I1 g1 er ok1 => ?_
  cases r with
  | val d =>
    cases d with
    | bool c =>
      have er' : Rep b.K F1 v (.bool c) := er
      cases er'
      exact ⟨c, rfl, ok1 F1 H1 I1 (Gr.refl _ _ _ _)⟩
    | _ => exact ok1.elim
  | _ => exact ok1.elim
theorem tB_of {σ : St} {H : Hp} {Q : Bool → Hp → Prop} (h : tT b (fB f) σ H Q) : tB (tV b f) σ H Q := tTest_of h
/-- a test whose value is a truth -/
theorem pb_val (h : PV X b f e) (he : ∀ whole, isTrue e X.env whole = (do let v ← whole; standAt e.pos; holding [v] (truthy v)) := by intro _; rfl) : PB X b (fB f) e :=
  PT.imp (pt_val h he) fun _ _ _ h => tB_of h
theorem tTest_op {r : R2} {op : PyData → PyData → Option RD} (hd : OpD X.K r op) (hk : b.K = X.K) {σ : St} {H : Hp} {Q : Bool → Hp → Prop} (h : tT b (fB (fBin op f1 f2)) σ H Q) : tTest (tOp r (tV b f1) (tV b f2)) σ H Q := by
  have h2 : tTest (tV b (fBin op f1 f2)) σ H Q := tTest_of h
  exact tOp_of hd hk h2
theorem pb_cmp {op : CmpOp} {r : R2} {fo : PyData → PyData → Option RD} (ho : OpR X (compareOp op) r) (hd : OpD X.K r fo) (g : Gx X b k) (h1 : PV X b f1 e1) (h2 : PV X b f2 e2) (hm : behindInMarks op e2 = false) : PB X b (fB (fBin fo f1 f2)) (.Compare e1 [op] [e2] pos) :=
  PT.imp (pt_cmpR ho h1 h2 hm) fun _ _ _ h => tTest_op hd g.kk h
theorem pb_not (h : PB X b t e) : PB X b (fNot t) (.UnaryOp .Not e pos) := by
  refine PT.imp (pt_not h) fun σ H Q h => ?_
  obtain ⟨F, env, I, ok⟩ := h
  exact bT I ok fun r env1 F1 H1 I1 g1 ok1 => ok1 F1 H1 I1 (Gr.refl _ _ _ _)
def PBW (X : Cx) (b : Bx) (f : M Bool) (e : Expr) : Prop := PW X e (tT b f)
theorem PBW.pb (h : PBW X b t e) : PB X b t e := PW.pt h
theorem PW.imp {e : Expr} {t t' : TT} (h : PW X e t) (i : ∀ σ H Q, t' σ H Q → t σ H Q) : PW X e t' := ⟨fun w pins s σ H Q I q => h.run w pins s σ H Q I (i σ H Q q)⟩
theorem pw_and1 (h : PB X b t e) : PBW X b t (.BoolOp .And [e] pos) := L2.pw_and1 h
theorem pw_or1 (h : PB X b t e) : PBW X b t (.BoolOp .Or [e] pos) := L2.pw_or1 h
theorem pw_and (h : PB X b t1 e1) (h2 : PBW X b t2 (.BoolOp .And (e2 :: rest) pos)) : PBW X b (fAnd t1 t2) (.BoolOp .And (e1 :: e2 :: rest) pos) := by
  refine PW.imp (L2.pw_and h h2) fun σ H Q h => ?_
  obtain ⟨F, env, I, ok⟩ := h
  refine bT I ok fun c env1 F1 H1 I1 g1 ok1 => ?_
  cases c with
  | true => exact ⟨F1, env1, I1, ok1⟩
  | false => exact ok1 F1 H1 I1 (Gr.refl _ _ _ _)
theorem pw_or (h : PB X b t1 e1) (h2 : PBW X b t2 (.BoolOp .Or (e2 :: rest) pos)) : PBW X b (fOr t1 t2) (.BoolOp .Or (e1 :: e2 :: rest) pos) := by
  refine PW.imp (L2.pw_or h h2) fun σ H Q h => ?_
  obtain ⟨F, env, I, ok⟩ := h
  refine bT I ok fun c env1 F1 H1 I1 g1 ok1 => ?_
  cases c with
  | true => exact ok1 F1 H1 I1 (Gr.refl _ _ _ _)
  | false => exact ⟨F1, env1, I1, ok1⟩
theorem pv_notV (h : PV X b f e) : PV X b (fNotV f) (.UnaryOp .Not e pos) := by
  refine PE.imp (pe_not h) fun σ H Q h => ?_
  obtain ⟨F, env, I, ok⟩ := h
  refine vV I ok fun r env1 v F1 H1 I1 g1 er ok1 => ?_
  cases r with
  | val d =>
    cases d with
    | bool c =>
      have er' : Rep b.K F1 v (.bool c) := er
      cases er'
      exact ⟨c, rfl, ok1 _ F1 H1 I1 (Gr.refl _ _ _ _) (Rep.bl _)⟩
    | _ => exact ok1.elim
  | _ => exact ok1.elim
theorem pv_one {op : BoolOp} (h : PV X b f e) : PV X b f (.BoolOp op [e] pos) := pe_one h
theorem pv_andV (h : PV X b f1 e1) (h2 : PV X b f2 (.BoolOp .And (e2 :: rest) pos)) : PV X b (fAndV f1 f2) (.BoolOp .And (e1 :: e2 :: rest) pos) := by
  refine PE.imp (pe_and h h2) fun σ H Q h => ?_
  obtain ⟨F, env, I, ok⟩ := h
  refine vV I ok fun r env1 v F1 H1 I1 g1 er ok1 => ?_
  cases r with
  | val d =>
    cases d with
    | bool c =>
      have er' : Rep b.K F1 v (.bool c) := er
      cases er'
      refine ⟨c, rfl, ?_⟩
      cases c with
      | true => exact ⟨F1, env1, I1, ok1⟩
      | false => exact ok1 _ F1 H1 I1 (Gr.refl _ _ _ _) (Rep.bl _)
    | _ => exact ok1.elim
  | _ => exact ok1.elim
theorem pv_orV (h : PV X b f1 e1) (h2 : PV X b f2 (.BoolOp .Or (e2 :: rest) pos)) : PV X b (fOrV f1 f2) (.BoolOp .Or (e1 :: e2 :: rest) pos) := by
  refine PE.imp (pe_or h h2) fun σ H Q h => ?_
  obtain ⟨F, env, I, ok⟩ := h
  refine vV I ok fun r env1 v F1 H1 I1 g1 er ok1 => ?_
  cases r with
  | val d =>
    cases d with
    | bool c =>
      have er' : Rep b.K F1 v (.bool c) := er
      cases er'
      refine ⟨c, rfl, ?_⟩
      cases c with
      | true => exact ok1 _ F1 H1 I1 (Gr.refl _ _ _ _) (Rep.bl _)
      | false => exact ⟨F1, env1, I1, ok1⟩
    | _ => exact ok1.elim
  | _ => exact ok1.elim
theorem pv_if (h : PB X b t e) (h1 : PV X b f1 e1) (h2 : PV X b f2 e2) : PV X b (fIf t f1 f2) (.IfExp e e1 e2 pos) := by
  refine PE.imp (pe_ifExp h h1 h2) fun σ H Q h => ?_
  obtain ⟨F, env, I, ok⟩ := h
  refine bV I ok fun c env1 F1 H1 I1 g1 ok1 => ?_
  cases c with
  | true => exact ⟨F1, env1, I1, ok1⟩
  | false => exact ⟨F1, env1, I1, ok1⟩
end

/-! ### a < b < c -/
def fChn (op op' : PyData → PyData → Option RD) (fa fb fc : M RD) : M RD := fun e =>
  bnd (fa e) fun ra e1 => bnd (fb e1) fun rb e2 => match rslv e2 ra, rslv e2 rb with
    | some x, some y => match op x y with
      | some (.val (.bool true)) => bnd (fc e2) fun rc e3 => match rslv e3 rb, rslv e3 rc with
        | some y', some z => rok (op' y' z) e3
        | _, _ => none
      | some (.val (.bool false)) => some (.ok (.val (.bool false)) e2)
      | _ => none
    | _, _ => none
section
variable {X : Cx} {b : Bx} {k : Nat} {pos : Pos} {e1 e2 e3 : Expr} {f1 f2 f3 : M RD}
theorem tChain_of {r r' : R2} {op op' : PyData → PyData → Option RD} (hd : OpD X.K r op) (hd' : OpD X.K r' op') (hk : b.K = X.K) {σ : St} {H : Hp} {Q : VK} (h : tV b (fChn op op' f1 f2 f3) σ H Q) : tChain r r' (tV b f1) (tV b f2) (tV b f3) σ H Q := by
  obtain ⟨F, env, I, ok⟩ := h
  refine vV I ok fun ra env1 v F1 H1 I1 g1 er1 ok1 => ?_
  refine vV I1 ok1 fun rb env2 u F2 H2 I2 g2 er2 ok2 => ?_
  have er1' := er1.step g2
  cases h1 : rslv env2 ra with
  | none => rw [h1] at ok2; exact ok2.elim
  | some x =>
    cases h2 : rslv env2 rb with
    | none => rw [h1, h2] at ok2; exact ok2.elim
    | some y =>
      rw [h1, h2] at ok2
      have z1 := Er.rv I2 er1' h1
      have z2 := Er.rv I2 er2 h2
      rw [hk] at z1 z2
      have ok2 : OkV b F2 H2 σ env2 (match op x y with
        | some (.val (.bool true)) => bnd (f3 env2) fun rc e3 => match rslv e3 rb, rslv e3 rc with
          | some y', some z => rok (op' y' z) e3
          | _, _ => none
        | some (.val (.bool false)) => some (.ok (.val (.bool false)) env2)
        | _ => none) Q := ok2
      split at ok2
      · rename_i h3
        refine hd F2 H2 v u x y _ _ I2.ext z1 z2 h3 fun w F' H' al nw => ?_
        have nw' : Rep X.K F' w (.bool true) := nw
        cases nw'
        refine ⟨true, rfl, ?_⟩
        rw [if_pos rfl]
        obtain ⟨I3, g3⟩ := al.both I2
        refine vV I3 (ok2.re g3) fun rc env3 u3 F3 H3 I4 g4 er3 ok3 => ?_
        exact opd_end hd' hk I4 ((er2.step g3).step g4) er3 ok3
      · rename_i h3
        refine hd F2 H2 v u x y _ _ I2.ext z1 z2 h3 fun w F' H' al nw => ?_
        have nw' : Rep X.K F' w (.bool false) := nw
        cases nw'
        refine ⟨false, rfl, ?_⟩
        rw [if_neg Bool.false_ne_true]
        obtain ⟨I3, g3⟩ := al.both I2
        exact ok2 _ F' H' I3 g3 (Rep.bl _)
      · exact ok2.elim
theorem pv_chn {op op' : CmpOp} {r r' : R2} {fo fo' : PyData → PyData → Option RD} (ho : OpR X (compareOp op) r) (ho' : OpR X (compareOp op') r') (hd : OpD X.K r fo) (hd' : OpD X.K r' fo') (g : Gx X b k) (h1 : PV X b f1 e1) (h2 : PV X b f2 e2) (h3 : PV X b f3 e3)
    (hm : lastMarks [op, op'] [e2, e3] = false := by with_unfolding_all rfl) : PV X b (fChn fo fo' f1 f2 f3) (.Compare e1 [op, op'] [e2, e3] pos) :=
  PE.imp (pe_chain ho ho' h1 h2 h3 hm) fun _ _ _ h => tChain_of hd hd' g.kk h
theorem pb_chn {op op' : CmpOp} {r r' : R2} {fo fo' : PyData → PyData → Option RD} (ho : OpR X (compareOp op) r) (ho' : OpR X (compareOp op') r') (hd : OpD X.K r fo) (hd' : OpD X.K r' fo') (g : Gx X b k) (h1 : PV X b f1 e1) (h2 : PV X b f2 e2) (h3 : PV X b f3 e3)
    (hm : lastMarks [op, op'] [e2, e3] = false := by with_unfolding_all rfl) : PB X b (fB (fChn fo fo' f1 f2 f3)) (.Compare e1 [op, op'] [e2, e3] pos) :=
  PT.imp (pt_chain ho ho' h1 h2 h3 hm) fun _ _ _ h => by
    have h2 : tTest (tV b (fChn _ _ f1 f2 f3)) _ _ _ := tTest_of h
    exact tChain_of hd hd' g.kk h2
end
end Pv
namespace Pv
open PySem PySem.Spec PyProof.Rows L2

/-! ### statements -/
def fNx : MS := fun e => some (.nx e)
def fSeq (f g : MS) : MS := fun e => match f e with
  | some (.nx e1) => g e1
  | o => o
def fIfS (c : M Bool) (f g : MS) : MS := fun e => bndS (c e) fun c e1 => if c = true then f e1 else g e1
def fRet (f : M RD) : MS := fun e => bndS (f e) fun r e1 => some (.rt r e1)
def fRetN : MS := fun e => some (.rt (.val .none) e)
def fDo (f : M RD) : MS := fun e => bndS (f e) fun _ e1 => some (.nx e1)
def fRaise (c : Str) : MS := fun e => some (.ex c e)
def fCnt : MS := fun e => some (.ct e)
def fBrk : MS := fun e => some (.bk e)
section
variable {X : Cx} {b : Bx} {k : Nat} {pos pos' : Pos} {e e1 e2 e3 : Expr} {f f1 f2 f3 : M RD} {t t1 t2 : M Bool} {s s1 s2 : MS} {st : Stmt} {sts sts' : List Stmt}
theorem pf_nil : PFs X b fNx [] := PSs.imp pss_nil fun D σ H h => by
  obtain ⟨F, env, I, ok⟩ := h
  exact ok σ F H I (Gr.refl _ _ _ _)
theorem pf_pass : PF X b fNx (.Pass pos) := PS.imp ps_pass fun D σ H h => by
  obtain ⟨F, env, I, ok⟩ := h
  exact ok σ F H I (Gr.refl _ _ _ _)
theorem pf_doc {x : Str} {j : Nat} : PF X b fNx (.Expr (.Constant (.str x) j pos) pos') := PS.imp ps_doc fun D σ H h => by
  obtain ⟨F, env, I, ok⟩ := h
  exact ok σ F H I (Gr.refl _ _ _ _)
theorem pf_cnt : PF X b fCnt (.Continue pos) := PS.imp ps_continue fun D σ H h => by
  obtain ⟨F, env, I, ok⟩ := h
  exact ok σ F H I (Gr.refl _ _ _ _)
theorem pf_brk : PF X b fBrk (.Break pos) := PS.imp ps_break fun D σ H h => by
  obtain ⟨F, env, I, ok⟩ := h
  exact ok σ F H I (Gr.refl _ _ _ _)
theorem seq_ok {F H : Hp} {σ : St} {env : En} {D : Ends} (I : IV b F H σ env) (ok : OkS b F H σ env (fSeq s1 s2 env) D) : tS b s1 { D with nx := tS b s2 D } σ H := by
  refine ⟨F, env, I, ?_⟩
  unfold fSeq at ok
  revert ok
  cases s1 env with
  | none => exact fun z => z
  | some o =>
    cases o with
    | nx e => exact fun ok σ' F' H' I' g => ⟨F', e, I', OkS.re ok g⟩
    | rt r e => exact fun z => z
    | bk e => exact fun z => z
    | ct e => exact fun z => z
    | ex c e => exact fun z => z
theorem pf_cons (h1 : PF X b s1 st) (h2 : PFs X b s2 sts) : PFs X b (fSeq s1 s2) (st :: sts) := PSs.imp (pss_cons h1 h2) fun D σ H h => by
  obtain ⟨F, env, I, ok⟩ := h
  exact seq_ok I ok
theorem pf_one (h1 : PF X b s1 st) : PFs X b s1 [st] := pss_one h1
theorem pf_if (h : PB X b t e) (h1 : PFs X b s1 sts) (h2 : PFs X b s2 sts') : PF X b (fIfS t s1 s2) (.If e sts sts' pos) := PS.imp (ps_if h h1 h2) fun D σ H h => by
  obtain ⟨F, env, I, ok⟩ := h
  refine bS I ok fun c env1 F1 H1 I1 g1 ok1 => ?_
  cases c with
  | true => exact ⟨F1, env1, I1, ok1⟩
  | false => exact ⟨F1, env1, I1, ok1⟩
theorem pf_ret (h : PV X b f e) : PF X b (fRet f) (.Return (some e) pos) := PS.imp (ps_ret h) fun D σ H h => by
  obtain ⟨F, env, I, ok⟩ := h
  exact vS0 I ok fun r env1 v F1 H1 I1 g1 er ok0 => ok0 v σ F1 H1 I1 g1 er
theorem pf_retN : PF X b fRetN (.Return none pos) := PS.imp ps_retN fun D σ H h => by
  obtain ⟨F, env, I, ok⟩ := h
  exact ok .non σ F H I (Gr.refl _ _ _ _) Rep.non
theorem pf_do (h : PV X b f e) (hs : swapsWith e none pos.line X.env = pure false := by rfl) : PF X b (fDo f) (.Expr e pos) := PS.imp (ps_expr h hs) fun D σ H h => by
  obtain ⟨F, env, I, ok⟩ := h
  exact vS I ok fun r env1 v F1 H1 I1 g1 er ok1 => ok1 σ F1 H1 I1 (Gr.refl _ _ _ _)
theorem set_end {i : Nat} {F H Hs F0 : Hp} {σ σ0 : St} {env env0 : En} {v : V} {r : RD} {D : Ends} (I : IV b F H σ env) (g : Gr σ0 env0 F0 Hs σ env F H) (er : Er b Hs F H σ env v r) (ok : OkS b F0 Hs σ0 env0 (match setR i r env with
    | some e2 => some (.nx e2)
    | none => none) D) : D.nx (σ.set i (some v)) H := by
  cases q : setR i r env with
  | none => rw [q] at ok; exact ok.elim
  | some e2 =>
    rw [q] at ok
    obtain ⟨F', I', g'⟩ := set_ok I g er q
    exact ok _ F' H I' g'
theorem pf_set (i : Nat) {x : Str} (g : Gx X b k) (h : PV X b f e) (hi : X.N[i]? = some x := by rfl) (hx : Loc X.env.scope x := by first | exact .inl rfl | exact .inr rfl) (hs : swapsWith e (some (.Name x pos')) pos.line X.env = pure false := by rfl) (hf : X.fn x = true ∨ X.env.scope.names.lookup x = some .local := by first | exact .inl rfl | exact .inr rfl | assumption) :
    PF X b (fSet i f) (.Assign [.Name x pos'] e pos) := PS.imp (ps_set (i := i) g.nd hi hx h hs hf) fun D σ H h => by
  obtain ⟨F, env, I, ok⟩ := h
  exact vS0 I ok fun r env1 v F1 H1 I1 g1 er ok0 => set_end I1 g1 er ok0
/-- raise X('..') -/
theorem pf_raise {c m : Str} {j : Nat} {p p2 pos1 : Pos} (g : Gx X b k) (q : PySem.W.excIn X.K (b.cl c) [.type "ValueError", .type "Exception", .type "BaseException", .type "object"] "ValueError.__new__" = true) (gC : X.mg c = some (.ref (b.cl c)))
    (kC : PySem.W.keepIn X.K (.ref (b.cl c)) = true) (bC : PySem.W.subIn X.K (.ref (b.cl c)) (.type "BaseException") = some true) (tC : PySem.W.typeIn X.K (.ref (b.cl c)) = some (.type "type")) (hg : Gl X c := by rfl) (hdb : (c == ("__debug__" : Str)) = false := by decide) :
    PF X b (fRaise c) (.Raise (some (.Call (.Name c p) [.Constant (.str m) j p2] [] pos1)) none pos) := PS.imp (ps_raise g.calm g.tk (pmk_own PySem.F.excBase_ValueError q gC kC (raises_own bC tC) hg hdb)) fun D σ H h => by
  obtain ⟨F, env, I, ok⟩ := h
  exact ok σ F H I (Gr.refl _ _ _ _)

/-! ### targets -/
/-- but for the slots ts -/
def SB (ts : List Nat) (σ σ' : St) : Prop := σ'.length = σ.length ∧ ∀ j, j ∉ ts → σ'[j]? = σ[j]?
/-- the slots ts are stored; what else stands in slots stays -/
def tG (b : Bx) (ts : List Nat) (f : PyData → En → Option En) : TG := fun v σ H Q => ∃ F env d, IV b F H σ env ∧ Rep b.K F v d ∧ match f d env with
  | none => False
  | some env' => ∀ σ' F' H', IV b F' H' σ' env' → Gr σ env F H σ' env' F' H' → SB ts σ σ' → Q σ' H'
def PGv (X : Cx) (b : Bx) (ts : List Nat) (f : PyData → En → Option En) (tg : Expr) : Prop := PG X tg (tG b ts f)
theorem PG.imp {tg : Expr} {t t' : TG} (h : PG X tg t) (i : ∀ v σ H Q, t' v σ H Q → t v σ H Q) : PG X tg t' := ⟨fun pins s σ H v u Q I r q => h.run pins s σ H v u Q I r (i v σ H Q q)⟩
def gNm (i : Nat) : PyData → En → Option En := fun d e => setR i (.val d) e
theorem pgv_name (i : Nat) {x : Str} (g : Gx X b k) (hi : X.N[i]? = some x := by rfl) (hx : Loc X.env.scope x := by first | exact .inl rfl | exact .inr rfl) (hf : X.fn x = true ∨ X.env.scope.names.lookup x = some .local := by first | exact .inl rfl | exact .inr rfl | assumption) :
    PGv X b [i] (gNm i) (.Name x pos) := PG.imp (pg_name (i := i) g.nd hi hx hf) fun v σ H Q h => by
  obtain ⟨F, env, d, I, r, ok⟩ := h
  unfold gNm at ok
  cases q : setR i (.val d) env with
  | none => rw [q] at ok; exact ok.elim
  | some e2 =>
    rw [q] at ok
    obtain ⟨F', I', g'⟩ := set_ok (v := v) (r := .val d) I (Gr.refl _ _ _ _) r q
    refine ok _ F' H I' g' ⟨List.length_set .., fun j hj => ?_⟩
    rw [List.getElem?_set_ne]
    intro e
    subst e
    exact hj (List.mem_singleton.mpr rfl)
/-- several targets -/
def gAll : List (PyData → En → Option En) → List PyData → En → Option En
  | [], [], e => some e
  | f :: fs, d :: ds, e => match f d e with
    | some e1 => gAll fs ds e1
    | none => none
  | _, _, _ => none
def tGs (b : Bx) (ts : List Nat) (fs : List (PyData → En → Option En)) : TGs := fun vs σ H Q => ∃ F env ds, IV b F H σ env ∧ Reps b.K F vs ds ∧ match gAll fs ds env with
  | none => False
  | some env' => ∀ σ' F' H', IV b F' H' σ' env' → Gr σ env F H σ' env' F' H' → SB ts σ σ' → Q σ' H'
def PGsv (X : Cx) (b : Bx) (ts : List Nat) (fs : List (PyData → En → Option En)) (tg : List Expr) : Prop := PGs X tg (tGs b ts fs)
theorem PGs.imp {tg : List Expr} {t t' : TGs} (h : PGs X tg t) (i : ∀ v σ H Q, t' v σ H Q → t v σ H Q) : PGs X tg t' := ⟨fun pins s σ H v u Q I r q => h.run pins s σ H v u Q I r (i v σ H Q q)⟩
theorem pgsv_nil : PGsv X b [] [] [] := PGs.imp pgs_nil fun vs σ H Q h => by
  obtain ⟨F, env, ds, I, r, ok⟩ := h
  cases r with
  | nil => exact ⟨rfl, ok σ F H I (Gr.refl _ _ _ _) ⟨rfl, fun _ _ => rfl⟩⟩
  | cons r rs => exact ok.elim
theorem pgsv_cons {ts ts' : List Nat} {g : PyData → En → Option En} {gs : List (PyData → En → Option En)} {es : List Expr} (h1 : PGv X b ts g e) (h2 : PGsv X b ts' gs es)
    (hs : (assignEach (e :: es) X.env).map (·.2) = assign e X.env :: (assignEach es X.env).map (·.2) := by rfl) : PGsv X b (ts ++ ts') (g :: gs) (e :: es) := PGs.imp (pgs_cons h1 h2 hs) fun vs σ H Q h => by
  obtain ⟨F, env, ds, I, r, ok⟩ := h
  cases r with
  | nil => exact ok.elim
  | @cons v vs d ds r rs =>
    refine ⟨v, vs, rfl, F, env, d, I, r, ?_⟩
    have ok : (match (match g d env with
      | some e1 => gAll gs ds e1
      | none => none) with
      | none => False
      | some env' => ∀ σ' F' H', IV b F' H' σ' env' → Gr σ env F H σ' env' F' H' → SB (ts ++ ts') σ σ' → Q σ' H') := ok
    cases q : g d env with
    | none => rw [q] at ok; exact ok.elim
    | some e1 =>
      rw [q] at ok
      intro σ1 F1 H1 I1 g1 s1
      refine ⟨F1, e1, ds, I1, rs.mono g1.f, ?_⟩
      have ok : (match gAll gs ds e1 with
        | none => False
        | some env' => ∀ σ' F' H', IV b F' H' σ' env' → Gr σ env F H σ' env' F' H' → SB (ts ++ ts') σ σ' → Q σ' H') := ok
      revert ok
      cases gAll gs ds e1 with
      | none => exact fun z => z
      | some e2 => exact fun ok σ2 F2 H2 I2 g2 s2 => ok σ2 F2 H2 I2 (g1.trans g2) ⟨s2.1.trans s1.1, fun j hj => (s2.2 j fun z => hj (List.mem_append_right _ z)).trans (s1.2 j fun z => hj (List.mem_append_left _ z))⟩
/-- (a, b, ..) = a tuple; = a list -/
def gTu (gs : List (PyData → En → Option En)) : PyData → En → Option En := fun d e => match d with
  | .dict [(.none, .list ds)] => gAll gs ds e
  | .tuple ds => gAll gs ds e
  | _ => none
def gLi (gs : List (PyData → En → Option En)) : PyData → En → Option En := fun d e => match d with
  | .list ds => gAll gs ds e
  | _ => none
theorem gAll_len : ∀ {gs : List (PyData → En → Option En)} {ds : List PyData} {e e' : En}, gAll gs ds e = some e' → ds.length = gs.length
  | [], [], _, _, _ => rfl
  | [], _ :: _, _, _, h => by cases h
  | _ :: _, [], _, _, h => by cases h
  | g :: gs, d :: ds, e, e', h => by
    have h : (match g d e with
      | some e1 => gAll gs ds e1
      | none => none) = some e' := h
    cases q : g d e with
    | none => rw [q] at h; cases h
    | some e1 =>
      rw [q] at h
      exact congrArg Nat.succ (gAll_len h)
theorem pgv_tup {ts : List Nat} {gs : List (PyData → En → Option En)} {es : List Expr} {j : Nat} (g : Gx X b k) (h : PGsv X b ts gs es) (hn : (assignEach es X.env).length = gs.length := by rfl) (hst : (assignEach es X.env).findIdx? (·.1) = none := by rfl) :
    PGv X b ts (gTu gs) (.Tuple es j pos) := PG.imp (pg_tup (n := gs.length) g.calm h hn hst) fun v σ H Q h => by
  obtain ⟨F, env, d, I, r, ok⟩ := h
  cases r with
  | raw hs rs =>
    rename_i a xs ds
    have ok : (match gAll gs ds env with
      | none => False
      | some env' => ∀ σ' F' H', IV b F' H' σ' env' → Gr σ env F H σ' env' F' H' → SB ts σ σ' → Q σ' H') := ok
    have hl : xs.length = gs.length := by
      rw [rs.length]
      cases q : gAll gs ds env with
      | none => rw [q] at ok; exact ok.elim
      | some e2 => exact gAll_len q
    exact ⟨a, xs, rfl, sqt (I.ext.t hs), hl, F, env, ds, I, rs, ok⟩
  | tup hs _ rs =>
    rename_i a xs ds od _
    have ok : (match gAll gs ds env with
      | none => False
      | some env' => ∀ σ' F' H', IV b F' H' σ' env' → Gr σ env F H σ' env' F' H' → SB ts σ σ' → Q σ' H') := ok
    have hl : xs.length = gs.length := by
      rw [rs.length]
      cases q : gAll gs ds env with
      | none => rw [q] at ok; exact ok.elim
      | some e2 => exact gAll_len q
    exact ⟨a, xs, rfl, sqh (I.ext.h hs), hl, F, env, ds, I, rs, ok⟩
  | dK h r =>
    exfalso
    cases r with
    | nil => exact ok
    | @cons k v ks d ds r t => cases k <;> exact ok
  | dT h r =>
    exfalso
    cases r with
    | nil => exact ok
    | @cons k v ks d ds r t => exact ok
  | _ => exact ok.elim
theorem pgv_lst {ts : List Nat} {gs : List (PyData → En → Option En)} {es : List Expr} {j : Nat} (g : Gx X b k) (h : PGsv X b ts gs es) (hn : (assignEach es X.env).length = gs.length := by rfl) (hst : (assignEach es X.env).findIdx? (·.1) = none := by rfl) :
    PGv X b ts (gLi gs) (.Tuple es j pos) := PG.imp (pg_lst (n := gs.length) g.calm h hn hst) fun v σ H Q h => by
  obtain ⟨F, env, d, I, r, ok⟩ := h
  cases r with
  | lst hs rs =>
    rename_i a xs ds
    have ok : (match gAll gs ds env with
      | none => False
      | some env' => ∀ σ' F' H', IV b F' H' σ' env' → Gr σ env F H σ' env' F' H' → SB ts σ σ' → Q σ' H') := ok
    have hl : xs.length = gs.length := by
      rw [rs.length]
      cases q : gAll gs ds env with
      | none => rw [q] at ok; exact ok.elim
      | some e2 => exact gAll_len q
    exact ⟨a, xs, rfl, sql (I.ext.l hs), hl, F, env, ds, I, rs, ok⟩
  | _ => exact ok.elim
/-- target = value, the value data (frozen) -/
def fAsg (gt : PyData → En → Option En) (f : M RD) : MS := fun e => bndS (f e) fun r e1 => match frzR r e1 with
  | some (d, e2) => match gt d e2 with
    | some e3 => some (.nx e3)
    | none => none
  | none => none
theorem pf_asg {ts : List Nat} {gt : PyData → En → Option En} {tg : Expr} (h : PV X b f e) (hg : PGv X b ts gt tg) (hs : swapsWithSole [tg] e pos.line X.env = pure false := by rfl) (hw : swappedStores [tg] e X.env = pure none := by rfl)
    (h1 : (assignEach [tg] X.env).map (·.2) = [assign tg X.env] := by rfl) : PF X b (fAsg gt f) (.Assign [tg] e pos) := PS.imp (ps_asg h hg hs hw h1) fun D σ H h => by
  obtain ⟨F, env, I, ok⟩ := h
  refine vS0 I ok fun r env1 v F1 H1 I1 g1 er ok0 => ?_
  cases q : frzR r env1 with
  | none => rw [q] at ok0; exact ok0.elim
  | some z =>
    obtain ⟨d, e2⟩ := z
    rw [q] at ok0
    obtain ⟨F2, I2, g2, rp, _⟩ := frz_ok I1 g1 er q
    refine ⟨F2, e2, d, I2, rp, ?_⟩
    have ok0 : OkS b F H σ env (match gt d e2 with
      | some e3 => some (.nx e3)
      | none => none) D := ok0
    cases q2 : gt d e2 with
    | none => rw [q2] at ok0; exact ok0.elim
    | some e3 =>
      rw [q2] at ok0
      exact fun σ' F' H' I' g' _ => ok0 σ' F' H' I' (g2.trans g')
end
end Pv
namespace Pv
open PySem PySem.Spec PyProof.Rows L2

/-! ### what is walked -/
/-- J walks the items xs, as they are known from F0 on, while the objects ps stand -/
structure WD (K : PySem.W.Frag) (J : It) (xs : List PyData) (F0 : Hp) (ps : List (Addr × HO)) : Prop where
  goes : ∀ F H i, Ex F0 F → Ex F H → (∀ q ∈ ps, H q.1 = some q.2) → i < xs.length → J.go i H
  stops : ∀ F H, Ex F0 F → Ex F H → (∀ q ∈ ps, H q.1 = some q.2) → J.stop xs.length H
  yld : ∀ F H i x H', Ex F0 F → Ex F H → (∀ q ∈ ps, H q.1 = some q.2) → i < xs.length → J.yld i H x H' → ∃ F2 d, xs[i]? = some d ∧ Al F H F2 H' ∧ Rep K F2 x d
def OkI (b : Bx) (F H : Hp) (σ : St) (env : En) (o : Option (Ou (List PyData))) (R : It → Hp → Prop) : Prop := match o with
  | none => False
  | some (.ok xs env') => ∀ J ps F' H', IV b F' H' σ env' → Gr σ env F H σ env' F' H' → WD b.K J xs F' ps → (∀ q ∈ ps, H' q.1 = some q.2 ∧ isTbl q.2 = false ∧ ¬ Mm σ env' q.1) → R J H'
  | some (.ex c env') => ∀ F' H', IV b F' H' σ env' → Gr σ env F H σ env' F' H' → b.W (.ref (b.cl c)) none σ H'
def tI (b : Bx) (f : M (List PyData)) : TI := fun σ H R => ∃ F env, IV b F H σ env ∧ OkI b F H σ env (f env) R
def PIv (X : Cx) (b : Bx) (f : M (List PyData)) (tg iter : Expr) : Prop := PI X tg iter (tI b f)
section
variable {X : Cx} {b : Bx} {k : Nat} {pos pos' : Pos} {e e1 e2 e3 : Expr} {f f1 f2 f3 : M RD}
theorem PI.imp {tg iter : Expr} {t t' : TI} (h : PI X tg iter t) (i : ∀ σ H Q, t' σ H Q → t σ H Q) : PI X tg iter t' := ⟨fun pins s σ H R I q => h.run pins s σ H R I (i σ H R q)⟩
theorem OkI.re {F H F1 H1 : Hp} {σ : St} {env env1 : En} {o : Option (Ou (List PyData))} {R : It → Hp → Prop} (ok : OkI b F H σ env o R) (g : Gr σ env F H σ env1 F1 H1) : OkI b F1 H1 σ env1 o R := by
  cases o with
  | none => exact ok
  | some o =>
    cases o with
    | ok r e => exact fun J ps F' H' I g' w hp => ok J ps F' H' I (g.trans g') w hp
    | ex c e => exact fun F' H' I g' => ok F' H' I (g.trans g')
theorem vI0 {F H : Hp} {σ : St} {env : En} {fa : M RD} {kk : RD → En → Option (Ou (List PyData))} {R : VK} {RI : It → Hp → Prop} (I : IV b F H σ env) (ok : OkI b F H σ env (bnd (fa env) kk) RI)
    (hk : ∀ r env1 v F1 H1, IV b F1 H1 σ env1 → Gr σ env F H σ env1 F1 H1 → Er b H F1 H1 σ env1 v r → OkI b F H σ env (kk r env1) RI → R v H1) : tV b fa σ H R := by
  refine ⟨F, env, I, ?_⟩
  revert ok
  cases fa env with
  | none => exact fun z => z
  | some o =>
    cases o with
    | ok r e => exact fun ok v F1 H1 I1 g er => hk r e v F1 H1 I1 g er ok
    | ex c e => exact fun ok => ok
theorem wd_list {K : PySem.W.Frag} {F0 : Hp} {a : Addr} {vs : List V} {xs : List PyData} (h : F0 a = some (.lst vs)) (r : Reps K F0 vs xs) : WD K (Itl K a) xs F0 [] where
  goes := fun F H i x1 x2 _ hi => ⟨vs, vs[i]'(by rw [r.length]; exact hi), sql (x2.l (x1.l h)), List.getElem?_eq_getElem _⟩
  stops := fun F H x1 x2 _ => ⟨vs, sql (x2.l (x1.l h)), by rw [r.length]; exact Nat.le_refl _⟩
  yld := fun F H i x H' x1 x2 _ hi y => by
    obtain ⟨rfl, y⟩ := y
    obtain ⟨d, h1, h2⟩ := r.get' (y vs (sql (x2.l (x1.l h))))
    exact ⟨F, d, h1, .refl, h2.mono x1⟩
theorem wd_tup {K : PySem.W.Frag} {F0 : Hp} {a : Addr} {vs : List V} {xs : List PyData} {od : Obj} (h : F0 a = some (tupHO od vs)) (r : Reps K F0 vs xs) : WD K (Itt K a) xs F0 [] where
  goes := fun F H i x1 x2 _ hi => ⟨vs, vs[i]'(by rw [r.length]; exact hi), sqh (x2.h (x1.h h)), List.getElem?_eq_getElem _⟩
  stops := fun F H x1 x2 _ => ⟨vs, sqh (x2.h (x1.h h)), by rw [r.length]; exact Nat.le_refl _⟩
  yld := fun F H i x H' x1 x2 _ hi y => by
    obtain ⟨rfl, y⟩ := y
    obtain ⟨d, h1, h2⟩ := r.get' (y vs (sqh (x2.h (x1.h h))))
    exact ⟨F, d, h1, .refl, h2.mono x1⟩
def signs (s : Str) : List PyData := s.cps.toList.map fun c => .str ⟨#[c]⟩
theorem wd_str {K : PySem.W.Frag} {F0 : Hp} {s : Str} : WD K (Its s) (signs s) F0 [] where
  goes := fun F H i x1 x2 _ hi => by
    show i < s.cps.size
    simpa [signs] using hi
  stops := fun F H x1 x2 _ => by show s.cps.size ≤ (signs s).length; simp [signs]
  yld := fun F H i x H' x1 x2 _ hi y => by
    obtain ⟨rfl, c, h1, rfl⟩ := y
    refine ⟨F, .str ⟨#[c]⟩, ?_, .refl, .str _⟩
    simp [signs, h1]
def rngD (lo : Int) (n : Nat) : List PyData := (List.range n).map fun i => .int (lo + (i : Nat))
theorem rngD_length (lo : Int) (n : Nat) : (rngD lo n).length = n := by simp [rngD]
theorem wd_rng {K : PySem.W.Frag} {F0 : Hp} {lo : Int} {n : Nat} : WD K (Itr lo n) (rngD lo n) F0 [] where
  goes := fun F H i x1 x2 _ hi => by
    show i < n
    simpa [rngD] using hi
  stops := fun F H x1 x2 _ => by show n ≤ (rngD lo n).length; simp [rngD]
  yld := fun F H i x H' x1 x2 _ hi y => by
    obtain ⟨rfl, rfl⟩ := y
    have hi : i < n := by simpa [rngD] using hi
    exact ⟨F, .int (lo + (i : Nat)), by simp [rngD, hi], .refl, .int _⟩
/-- over a list; a tuple; a text -/
def fIt (sel : PyData → Option (List PyData)) (f : M RD) : M (List PyData) := fun e => bnd (f e) fun r e1 => match frzR r e1 with
  | some (d, e2) => rok (sel d) e2
  | none => none
def selL : PyData → Option (List PyData)
  | .list xs => some xs
  | _ => none
def selT : PyData → Option (List PyData)
  | .tuple xs => some xs
  | _ => none
def selS : PyData → Option (List PyData)
  | .str s => some (signs s)
  | _ => none
theorem it_end {sel : PyData → Option (List PyData)} {F H F0 : Hp} {Hs : Hp} {σ : St} {env env0 : En} {v : V} {r : RD} {RI : It → Hp → Prop} (I : IV b F H σ env) (g : Gr σ env0 F0 Hs σ env F H) (er : Er b Hs F H σ env v r)
    (ok : OkI b F0 Hs σ env0 (match frzR r env with
      | some (d, e2) => rok (sel d) e2
      | none => none) RI) {P : Prop} (h : ∀ F' d xs env', sel d = some xs → IV b F' H σ env' → Gr σ env0 F0 Hs σ env' F' H → Rep b.K F' v d →
        (∀ J, WD b.K J xs F' [] → RI J H) → P) : P := by
  cases q : frzR r env with
  | none => rw [q] at ok; exact ok.elim
  | some z =>
    obtain ⟨d, e2⟩ := z
    rw [q] at ok
    have ok : OkI b F0 Hs σ env0 (rok (sel d) e2) RI := ok
    cases q2 : sel d with
    | none => rw [q2] at ok; exact ok.elim
    | some xs =>
      rw [q2] at ok
      obtain ⟨F', I', g', rp, _⟩ := frz_ok I g er q
      exact h F' d xs e2 q2 I' g' rp fun J w => ok J [] F' H I' g' w fun _ h => by cases h
theorem pi_lst {tg : Expr} (g : Gx X b k) (h : PV X b f e) : PIv X b (fIt selL f) tg e := PI.imp (pi_list h) fun σ H R h => by
  obtain ⟨F, env, I, ok⟩ := h
  refine vI0 I ok fun r env1 v F1 H1 I1 g1 er ok0 => it_end I1 g1 er ok0 fun F' d xs env' hs I' g' rp fin => ?_
  cases rp with
  | lst h r =>
    cases hs
    have h' := I'.ext.l h
    have w := wd_list h r
    rw [g.kk] at w fin
    exact ⟨_, rfl, ⟨_, sql h'⟩, fin _ w⟩
  | _ => cases hs
theorem pi_tpl {tg : Expr} (g : Gx X b k) (h : PV X b f e) : PIv X b (fIt selT f) tg e := PI.imp (pi_tup h) fun σ H R h => by
  obtain ⟨F, env, I, ok⟩ := h
  refine vI0 I ok fun r env1 v F1 H1 I1 g1 er ok0 => it_end I1 g1 er ok0 fun F' d xs env' hs I' g' rp fin => ?_
  cases rp with
  | tup h _ r =>
    cases hs
    have h' := I'.ext.h h
    have w := wd_tup h r
    rw [g.kk] at w fin
    exact ⟨_, rfl, ⟨_, sqh h'⟩, fin _ w⟩
  | _ => cases hs
theorem pi_txt {tg : Expr} (g : Gx X b k) (h : PV X b f e) : PIv X b (fIt selS f) tg e := PI.imp (pi_str h) fun σ H R h => by
  obtain ⟨F, env, I, ok⟩ := h
  refine vI0 I ok fun r env1 v F1 H1 I1 g1 er ok0 => it_end I1 g1 er ok0 fun F' d xs env' hs I' g' rp fin => ?_
  cases rp with
  | str s =>
    cases hs
    exact ⟨s, rfl, fin _ wd_str⟩
  | _ => cases hs
end

/-! ### for -/
def loopF (tg : PyData → En → Option En) (bd : MS) : List PyData → MS
  | [], e => some (.nx e)
  | x :: xs, e => match tg x e with
    | none => none
    | some e1 => match bd e1 with
      | some (.nx e2) => loopF tg bd xs e2
      | some (.ct e2) => loopF tg bd xs e2
      | some (.bk e2) => some (.nx e2)
      | o => o
def fFor (it : M (List PyData)) (tg : PyData → En → Option En) (bd : MS) : MS := fun e => bndS (it e) fun xs e1 => loopF tg bd xs e1
section
variable {X : Cx} {b : Bx} {k : Nat} {pos pos' : Pos} {iter tg e : Expr} {s1 : MS} {sts : List Stmt}
theorem iS {F H : Hp} {σ : St} {env : En} {fa : M (List PyData)} {kk : List PyData → En → Option Fl} {D : Ends} {RI : It → Hp → Prop} (I : IV b F H σ env) (ok : OkS b F H σ env (bndS (fa env) kk) D)
    (hk : ∀ xs env1 J ps F1 H1, IV b F1 H1 σ env1 → Gr σ env F H σ env1 F1 H1 → WD b.K J xs F1 ps → (∀ q ∈ ps, H1 q.1 = some q.2 ∧ isTbl q.2 = false ∧ ¬ Mm σ env1 q.1) → OkS b F1 H1 σ env1 (kk xs env1) D → RI J H1) : tI b fa σ H RI := by
  refine ⟨F, env, I, ?_⟩
  revert ok
  cases fa env with
  | none => exact fun z => z
  | some o =>
    cases o with
    | ok r e => exact fun ok J ps F1 H1 I1 g w hp => hk r e J ps F1 H1 I1 g w hp (ok.re g)
    | ex c e => exact fun ok => fun F' H' I' g' => ok σ F' H' I' g'
/-- the objects that must stand do -/
theorem ps_keep {σ σ' : St} {env env' : En} {F H F' H' : Hp} {ps : List (Addr × HO)} (g : Gr σ env F H σ' env' F' H') (h : ∀ q ∈ ps, H q.1 = some q.2 ∧ isTbl q.2 = false ∧ ¬ Mm σ env q.1) : ∀ q ∈ ps, H' q.1 = some q.2 ∧ isTbl q.2 = false ∧ ¬ Mm σ' env' q.1 := fun q hq => by
  obtain ⟨h1, h2, h3⟩ := h q hq
  refine ⟨g.h _ _ h1 h3 h2, h2, fun z => ?_⟩
  rcases g.m _ z with z | z
  · exact h3 z
  · rw [h1] at z; cases z
/-- what follows the walked thing -/
abbrev forT (g : TG) (tb : TS) (D : Ends) (σ : St) (J : It) (H : Hp) : Prop := ∃ W : Nat → Nat → St → Hp → Prop, (∃ m, W 0 m σ H) ∧ ∀ i m σ H, W i m σ H →
  (J.stop i H ∧ D.nx σ H) ∨ (J.go i H ∧ ∃ N : St → Hp → Prop, (∀ σ' H', N σ' H' → ∃ m', m' < m ∧ W (i + 1) m' σ' H') ∧ ∀ x H', J.yld i H x H' → g x σ H' fun σ2 H2 => tb { D with nx := N, ct := N, bk := D.nx } σ2 H2)
theorem forV {ts : List Nat} {gt : PyData → En → Option En} {σ : St} {F1 H1 : Hp} {env1 : En} {xs : List PyData} {J : It} {ps : List (Addr × HO)} {D : Ends} (I1 : IV b F1 H1 σ env1) (w : WD b.K J xs F1 ps) (hp : ∀ q ∈ ps, H1 q.1 = some q.2 ∧ isTbl q.2 = false ∧ ¬ Mm σ env1 q.1)
    (ok1 : OkS b F1 H1 σ env1 (loopF gt s1 xs env1) D) : forT (tG b ts gt) (tS b s1) D σ J H1 := by
  refine ⟨fun i m σ2 H2 => m = xs.length - i ∧ i ≤ xs.length ∧ ∃ F2 env2, IV b F2 H2 σ2 env2 ∧ Ex F1 F2 ∧ (∀ q ∈ ps, H2 q.1 = some q.2 ∧ isTbl q.2 = false ∧ ¬ Mm σ2 env2 q.1) ∧ OkS b F2 H2 σ2 env2 (loopF gt s1 (xs.drop i) env2) D,
    ⟨xs.length, rfl, Nat.zero_le _, F1, env1, I1, Ex.refl _, hp, ok1⟩, ?_⟩
  rintro i m σ2 H2 ⟨rfl, hil, F2, env2, I2, x2, hp2, ok2⟩
  have hps : ∀ q ∈ ps, H2 q.1 = some q.2 := fun q hq => (hp2 q hq).1
  by_cases hlt : i < xs.length
  · refine .inr ⟨w.goes F2 H2 i x2 I2.ext hps hlt, fun σ3 H3 => ∃ F3 env3, IV b F3 H3 σ3 env3 ∧ Ex F1 F3 ∧ (∀ q ∈ ps, H3 q.1 = some q.2 ∧ isTbl q.2 = false ∧ ¬ Mm σ3 env3 q.1) ∧ OkS b F3 H3 σ3 env3 (loopF gt s1 (xs.drop (i + 1)) env3) D,
      fun σ3 H3 h3 => ⟨xs.length - (i + 1), by omega, rfl, hlt, h3⟩, fun x H3 y => ?_⟩
    obtain ⟨F3, d, hd, al, rp⟩ := w.yld F2 H2 i x H3 x2 I2.ext hps hlt y
    obtain ⟨I3, g3⟩ := al.both I2
    have hdrop : xs.drop i = d :: xs.drop (i + 1) := by
      rw [List.drop_eq_getElem_cons hlt]
      congr 1
      exact Option.some.inj ((List.getElem?_eq_getElem hlt).symm.trans hd)
    rw [hdrop] at ok2
    have ok3 : OkS b F3 H3 σ2 env2 (match gt d env2 with
      | none => none
      | some e1 => match s1 e1 with
        | some (.nx e2) => loopF gt s1 (xs.drop (i + 1)) e2
        | some (.ct e2) => loopF gt s1 (xs.drop (i + 1)) e2
        | some (.bk e2) => some (.nx e2)
        | o => o) D := OkS.re ok2 g3
    refine ⟨F3, env2, d, I3, rp, ?_⟩
    cases q : gt d env2 with
    | none => rw [q] at ok3; exact ok3.elim
    | some e1 =>
      rw [q] at ok3
      intro σ4 F4 H4 I4 g4 _
      have ok4 : OkS b F4 H4 σ4 e1 (match s1 e1 with
        | some (.nx e2) => loopF gt s1 (xs.drop (i + 1)) e2
        | some (.ct e2) => loopF gt s1 (xs.drop (i + 1)) e2
        | some (.bk e2) => some (.nx e2)
        | o => o) D := OkS.re ok3 g4
      have hp4 := ps_keep g4 (ps_keep g3 hp2)
      refine ⟨F4, e1, I4, ?_⟩
      revert ok4
      cases s1 e1 with
      | none => exact fun z => z
      | some o =>
        cases o with
        | nx e2 => exact fun ok4 σ5 F5 H5 I5 g5 => ⟨F5, e2, I5, ((x2.trans g3.f).trans g4.f).trans g5.f, ps_keep g5 hp4, OkS.re ok4 g5⟩
        | ct e2 => exact fun ok4 σ5 F5 H5 I5 g5 => ⟨F5, e2, I5, ((x2.trans g3.f).trans g4.f).trans g5.f, ps_keep g5 hp4, OkS.re ok4 g5⟩
        | bk e2 => exact fun ok4 => ok4
        | rt r e2 => exact fun ok4 => ok4
        | ex c e2 => exact fun ok4 => ok4
  · have e : i = xs.length := by omega
    subst e
    rw [List.drop_length] at ok2
    exact .inl ⟨w.stops F2 H2 x2 I2.ext hps, ok2 σ2 F2 H2 I2 (Gr.refl _ _ _ _)⟩
theorem pf_for {ts : List Nat} {it : M (List PyData)} {gt : PyData → En → Option En} (g : Gx X b k) (hi : PIv X b it tg iter) (hg : PGv X b ts gt tg) (hb : PFs X b s1 sts) (hs : ∀ x, foldedSetIterable iter X.env x = pure x := by intro _; rfl) :
    PF X b (fFor it gt s1) (.For tg iter sts [] pos) := PS.imp (ps_for g.po g.calm hi hg hb hs) fun D σ H h => by
  obtain ⟨F, env, I, ok⟩ := h
  exact iS I ok fun xs env1 J ps F1 H1 I1 g1 w hp ok1 => forV I1 w hp ok1
end

/-! ### while -/
def whileF (c : M Bool) (bd : MS) : Nat → MS
  | 0, _ => none
  | n + 1, e => bndS (c e) fun t e1 => if t = true then (match bd e1 with
    | some (.nx e2) => whileF c bd n e2
    | some (.ct e2) => whileF c bd n e2
    | some (.bk e2) => some (.nx e2)
    | o => o) else some (.nx e1)
open Classical in
noncomputable def fWhile (c : M Bool) (bd : MS) : MS := fun e => if h : ∃ n, (whileF c bd n e).isSome = true then whileF c bd h.choose e else none
section
variable {X : Cx} {b : Bx} {k : Nat} {pos pos' : Pos} {e : Expr} {s1 : MS} {c : M Bool} {sts : List Stmt}
theorem whileF_mono {n m : Nat} {e : En} {o : Fl} (h : whileF c s1 n e = some o) (hm : n ≤ m) : whileF c s1 m e = some o := by
  induction n generalizing m e with
  | zero => cases h
  | succ n ih =>
    cases m with
    | zero => omega
    | succ m =>
      have h : bndS (c e) (fun t e1 => if t = true then (match s1 e1 with
        | some (.nx e2) => whileF c s1 n e2
        | some (.ct e2) => whileF c s1 n e2
        | some (.bk e2) => some (.nx e2)
        | o => o) else some (.nx e1)) = some o := h
      show bndS (c e) (fun t e1 => if t = true then (match s1 e1 with
        | some (.nx e2) => whileF c s1 m e2
        | some (.ct e2) => whileF c s1 m e2
        | some (.bk e2) => some (.nx e2)
        | o => o) else some (.nx e1)) = some o
      cases q : c e with
      | none => rw [q] at h; cases h
      | some z =>
        rw [q] at h
        cases z with
        | ex c e => exact h
        | ok t e1 =>
          cases t with
          | false => exact h
          | true =>
            have h : (match s1 e1 with
              | some (.nx e2) => whileF c s1 n e2
              | some (.ct e2) => whileF c s1 n e2
              | some (.bk e2) => some (.nx e2)
              | o => o) = some o := h
            show (match s1 e1 with
              | some (.nx e2) => whileF c s1 m e2
              | some (.ct e2) => whileF c s1 m e2
              | some (.bk e2) => some (.nx e2)
              | o => o) = some o
            revert h
            cases s1 e1 with
            | none => exact fun h => h
            | some z =>
              cases z with
              | nx e2 => exact fun h => ih h (by omega)
              | ct e2 => exact fun h => ih h (by omega)
              | bk e2 => exact fun h => h
              | rt r e2 => exact fun h => h
              | ex c e2 => exact fun h => h
theorem fWhile_of {n : Nat} {e : En} {o : Fl} (h : whileF c s1 n e = some o) : fWhile c s1 e = some o := by
  have hx : ∃ n, (whileF c s1 n e).isSome = true := ⟨n, by rw [h]; rfl⟩
  unfold fWhile
  rw [dif_pos hx]
  have h2 := hx.choose_spec
  obtain ⟨o2, h3⟩ := Option.isSome_iff_exists.mp h2
  rcases Nat.le_total n hx.choose with h4 | h4
  · exact whileF_mono h h4
  · rw [h3, ← whileF_mono h3 h4, h]
theorem fWhile_to {e : En} {o : Fl} (h : fWhile c s1 e = some o) : ∃ n, whileF c s1 n e = some o := by
  unfold fWhile at h
  split at h
  · exact ⟨_, h⟩
  · cases h
theorem pf_while (g : Gx X b k) (hc : PB X b c e) (hb : PFs X b s1 sts) : PF X b (fWhile c s1) (.While e sts [] pos) := PS.imp (ps_while g.po hc hb) fun D σ H h => by
  obtain ⟨F, env, I, ok⟩ := h
  cases q : fWhile c s1 env with
  | none => rw [q] at ok; exact ok.elim
  | some o =>
    obtain ⟨n, hn⟩ := fWhile_to q
    rw [q, ← hn] at ok
    refine ⟨fun m σ2 H2 => ∃ F2 env2, IV b F2 H2 σ2 env2 ∧ OkS b F2 H2 σ2 env2 (whileF c s1 m env2) D, ⟨n, F, env, I, ok⟩, ?_⟩
    rintro m σ2 H2 ⟨F2, env2, I2, ok2⟩
    cases m with
    | zero => exact ok2.elim
    | succ m =>
      refine bS I2 ok2 fun t env3 F3 H3 I3 g3 ok3 => ?_
      cases t with
      | false => exact ok3 σ2 F3 H3 I3 (Gr.refl _ _ _ _)
      | true =>
        rw [if_pos rfl]
        refine ⟨fun σ4 H4 => ∃ F4 env4, IV b F4 H4 σ4 env4 ∧ OkS b F4 H4 σ4 env4 (whileF c s1 m env4) D, fun σ4 H4 h4 => ⟨m, Nat.lt_succ_self m, h4⟩, F3, env3, I3, ?_⟩
        have ok3 : OkS b F3 H3 σ2 env3 (match s1 env3 with
          | some (.nx e2) => whileF c s1 m e2
          | some (.ct e2) => whileF c s1 m e2
          | some (.bk e2) => some (.nx e2)
          | o => o) D := ok3
        revert ok3
        cases s1 env3 with
        | none => exact fun z => z
        | some o =>
          cases o with
          | nx e2 => exact fun ok4 σ5 F5 H5 I5 g5 => ⟨F5, e2, I5, OkS.re ok4 g5⟩
          | ct e2 => exact fun ok4 σ5 F5 H5 I5 g5 => ⟨F5, e2, I5, OkS.re ok4 g5⟩
          | bk e2 => exact fun ok4 => ok4
          | rt r e2 => exact fun ok4 => ok4
          | ex c e2 => exact fun ok4 => ok4
end
end Pv
namespace Pv
open PySem PySem.Spec PyProof.Rows L2

/-! ### comprehensions -/
def wipeE : List Nat → En → En
  | [], e => e
  | v :: vs, e => (wipeE vs e).set v .un
/-- the slots vs as in e0, else as in e -/
def mrg : List Nat → En → En → En
  | [], _, e => e
  | v :: vs, e0, e => match e0[v]? with
    | some s => (mrg vs e0 e).set v s
    | none => mrg vs e0 e
/-- the block's own names hide no object -/
def okW (vs : List Nat) (e : En) : Bool := vs.all fun v => match e[v]? with
  | some .un => true
  | some (.d _) => true
  | _ => false
def compF (vs : List Nat) (tg : PyData → En → Option En) (tt : M Bool) (te : M RD) : List PyData → List PyData → En → Option (List PyData × En)
  | [], acc, e => some (acc, e)
  | x :: xs, acc, e => match tg x e with
    | none => none
    | some e1 => match tt e1 with
      | some (.ok true e2) => match te e2 with
        | some (.ok r e3) => match frzR r e3 with
          | some (d, e4) => if acc.length < lim then compF vs tg tt te xs (acc ++ [d]) (wipeE vs e4) else none
          | none => none
        | _ => none
      | some (.ok false e2) => compF vs tg tt te xs acc (wipeE vs e2)
      | _ => none
def fComp (vs : List Nat) (it : M (List PyData)) (tg : PyData → En → Option En) (tt : M Bool) (te : M RD) : M RD := fun e => bnd (it e) fun xs e1 =>
  if okW vs e1 = true then match compF vs tg tt te xs [] (wipeE vs e1) with
    | some (acc, e2) => some (.ok (.own (.lst acc)) (mrg vs e1 e2))
    | none => none
  else none
def fYes : M Bool := fun e => some (.ok true e)
/-- the block's context: nothing may be raised -/
abbrev Bx.blk (b : Bx) : Bx := { b with W := fun _ _ _ _ => False }
section
variable {b : Bx} {F F0 F1 F' H H1 H' Hs : Hp} {σ σ0 σ' : St} {env env0 env1 env' : En}
theorem IV.toBlk (I : IV b F H σ env) : IV b.blk F H σ env := ⟨I.ext, I.z, I.len, I.sl, I.ne, I.h0, I.bo⟩
theorem IV.ofBlk (I : IV b.blk F H σ env) : IV b F H σ env := ⟨I.ext, I.z, I.len, I.sl, I.ne, I.h0, I.bo⟩
theorem wipeE_len : ∀ (vs : List Nat) (e : En), (wipeE vs e).length = e.length
  | [], e => rfl
  | v :: vs, e => by rw [wipeE, List.length_set, wipeE_len vs e]
theorem wipeE_in {vs : List Nat} {e : En} {i : Nat} (h : i ∈ vs) (hl : i < e.length) : (wipeE vs e)[i]? = some .un := by
  induction vs with
  | nil => cases h
  | cons v vs ih =>
    rw [wipeE]
    by_cases q : v = i
    · subst q
      rw [List.getElem?_set_self (by rw [wipeE_len]; exact hl)]
    · rw [List.getElem?_set_ne q]
      exact ih ((List.mem_cons.mp h).resolve_left fun z => q z.symm)
theorem wipeE_out {vs : List Nat} {e : En} {i : Nat} (h : i ∉ vs) : (wipeE vs e)[i]? = e[i]? := by
  induction vs with
  | nil => rfl
  | cons v vs ih =>
    rw [wipeE, List.getElem?_set_ne (fun z => h (by subst z; exact List.mem_cons_self))]
    exact ih fun z => h (List.mem_cons_of_mem _ z)
theorem wipe_in {vs : List Nat} {σ : St} {i : Nat} (h : i ∈ vs) (hl : i < σ.length) : (wipe σ vs)[i]? = some none := by
  induction vs with
  | nil => cases h
  | cons v vs ih =>
    rw [wipe]
    by_cases q : v = i
    · subst q
      rw [List.getElem?_set_self (by rw [wipe_length]; exact hl)]
    · rw [List.getElem?_set_ne q]
      exact ih ((List.mem_cons.mp h).resolve_left fun z => q z.symm)
theorem wipe_out' {vs : List Nat} {σ : St} {i : Nat} (h : i ∉ vs) : (wipe σ vs)[i]? = σ[i]? := by
  induction vs with
  | nil => rfl
  | cons v vs ih =>
    rw [wipe, List.getElem?_set_ne (fun z => h (by subst z; exact List.mem_cons_self))]
    exact ih fun z => h (List.mem_cons_of_mem _ z)
theorem wipe_idem {vs ts : List Nat} (hl : σ'.length = σ.length) (hs : ∀ v ∈ ts, v ∈ vs) (h : ∀ j, j ∉ ts → σ'[j]? = (wipe σ vs)[j]?) : wipe σ' vs = wipe σ vs := by
  refine List.ext_getElem? fun i => ?_
  by_cases q : i ∈ vs
  · by_cases hi : i < σ.length
    · rw [wipe_in q hi, wipe_in q (by rw [hl]; exact hi)]
    · rw [List.getElem?_eq_none (by rw [wipe_length]; omega), List.getElem?_eq_none (by rw [wipe_length]; omega)]
  · rw [wipe_out' q, h i (fun z => q (hs i z))]
theorem mrg_len : ∀ (vs : List Nat) (e0 e : En), (mrg vs e0 e).length = e.length
  | [], e0, e => rfl
  | v :: vs, e0, e => by
    rw [mrg]
    split
    · rw [List.length_set, mrg_len vs e0 e]
    · exact mrg_len vs e0 e
theorem mrg_in {vs : List Nat} {e0 e : En} {i : Nat} (h : i ∈ vs) (hl : e.length = e0.length) (hi : i < e0.length) : (mrg vs e0 e)[i]? = e0[i]? := by
  induction vs with
  | nil => cases h
  | cons v vs ih =>
    rw [mrg]
    by_cases q : v = i
    · subst q
      rw [List.getElem?_eq_getElem hi]
      show ((mrg vs e0 e).set v e0[v])[v]? = _
      rw [List.getElem?_set_self (by rw [mrg_len, hl]; exact hi)]
    · have h2 := ih ((List.mem_cons.mp h).resolve_left fun z => q z.symm)
      split
      · rw [List.getElem?_set_ne q]
        exact h2
      · exact h2
theorem mrg_out {vs : List Nat} {e0 e : En} {i : Nat} (h : i ∉ vs) : (mrg vs e0 e)[i]? = e[i]? := by
  induction vs with
  | nil => rfl
  | cons v vs ih =>
    rw [mrg]
    have h2 := ih fun z => h (List.mem_cons_of_mem _ z)
    split
    · rw [List.getElem?_set_ne (fun z => h (by subst z; exact List.mem_cons_self))]
      exact h2
    · exact h2
theorem okW_at {vs : List Nat} {e : En} (h : okW vs e = true) {i : Nat} (hi : i ∈ vs) : ∃ s, e[i]? = some s ∧ (∀ w o, s ≠ .m w o) ∧ (s = .un ∨ ∃ d, s = .d d) := by
  have h2 := List.all_eq_true.mp h i hi
  split at h2
  · rename_i q
    exact ⟨_, q, fun _ _ z => (nomatch z), .inl rfl⟩
  · rename_i d q
    exact ⟨_, q, fun _ _ z => (nomatch z), .inr ⟨_, rfl⟩⟩
  · cases h2
theorem Mm.wipe {vs : List Nat} (hw : okW vs env = true) {q : Addr} : Mm (wipe σ vs) (wipeE vs env) q ↔ Mm σ env q := by
  constructor
  · rintro ⟨i, w, o, h1, h2⟩
    by_cases hi : i ∈ vs
    · obtain ⟨s, h3, _⟩ := okW_at hw hi
      rw [wipeE_in hi (lt_of_get h3)] at h1
      cases h1
    · rw [wipeE_out hi] at h1
      rw [wipe_out' hi] at h2
      exact ⟨i, w, o, h1, h2⟩
  · rintro ⟨i, w, o, h1, h2⟩
    have hi : i ∉ vs := fun hi => by
      obtain ⟨s, h3, h4, _⟩ := okW_at hw hi
      rw [h1] at h3
      cases h3
      exact h4 w o rfl
    exact ⟨i, w, o, by rw [wipeE_out hi]; exact h1, by rw [wipe_out' hi]; exact h2⟩
theorem IV.wipe {vs : List Nat} (I : IV b F H σ env) (hv : ∀ x ∈ b.B, x.1 ∉ vs) : IV b F H (L2.wipe σ vs) (wipeE vs env) := by
  have out : ∀ {i : Nat} {w : Bool} {o : Ob}, (wipeE vs env)[i]? = some (.m w o) → i ∉ vs ∧ env[i]? = some (.m w o) := fun {i w o} h => by
    by_cases hi : i ∈ vs
    · have hl : i < env.length := by
        have := lt_of_get h
        rw [wipeE_len] at this
        exact this
      rw [wipeE_in hi hl] at h
      cases h
    · rw [wipeE_out hi] at h
      exact ⟨hi, h⟩
  refine ⟨I.ext, I.z, by rw [wipe_length, wipeE_len]; exact I.len, fun i s h => ?_, fun i j w w' o o' p h1 h2 h3 h4 => ?_, I.h0, fun x hx => ?_⟩
  · by_cases hi : i ∈ vs
    · have hl : i < env.length := by
        have := lt_of_get h
        rw [wipeE_len] at this
        exact this
      rw [wipeE_in hi hl] at h
      cases h
      exact ⟨none, wipe_in hi (by rw [I.len]; exact hl), trivial⟩
    · rw [wipeE_out hi] at h
      rw [wipe_out' hi]
      exact I.sl i s h
  · obtain ⟨a1, a2⟩ := out h1
    obtain ⟨b1, b2⟩ := out h2
    rw [wipe_out' a1] at h3
    rw [wipe_out' b1] at h4
    exact I.ne i j w w' o o' p a2 b2 h3 h4
  · rw [wipe_out' (hv x hx), wipeE_out (hv x hx)]
    exact I.bo x hx
theorem bo_out {vs : List Nat} (I : IV b F H σ env) (hw : okW vs env = true) : ∀ x ∈ b.B, x.1 ∉ vs := fun x hx hi => by
  obtain ⟨_, o, h2⟩ := I.bo x hx
  obtain ⟨s, h3, h4, _⟩ := okW_at hw hi
  rw [h2] at h3
  cases h3
  exact h4 _ _ rfl
/-- behind the block -/
theorem IV.unwipe {vs : List Nat} (I0 : IV b F0 Hs σ env0) (hw : okW vs env0 = true) (I : IV b F H (L2.wipe σ vs) env) (g : Ex F0 F) : IV b F H σ (mrg vs env0 env) ∧ ∀ q, Mm σ (mrg vs env0 env) q → Mm (L2.wipe σ vs) env q := by
  have hl : env.length = env0.length := by
    have h1 := I.len
    have h2 := I0.len
    rw [wipe_length] at h1
    omega
  have out : ∀ {i : Nat} {w : Bool} {o : Ob}, (mrg vs env0 env)[i]? = some (.m w o) → i ∉ vs ∧ env[i]? = some (.m w o) := fun {i w o} h => by
    by_cases hi : i ∈ vs
    · obtain ⟨s, h3, h4, _⟩ := okW_at hw hi
      rw [mrg_in hi hl (lt_of_get h3), h3] at h
      cases h
      exact absurd rfl (h4 w o)
    · rw [mrg_out hi] at h
      exact ⟨hi, h⟩
  refine ⟨⟨I.ext, I.z, by rw [mrg_len, hl]; exact I0.len, fun i s h => ?_, fun i j w w' o o' p h1 h2 h3 h4 => ?_, I.h0, fun x hx => ?_⟩, fun q => ?_⟩
  · by_cases hi : i ∈ vs
    · obtain ⟨s0, h3, h4, h5⟩ := okW_at hw hi
      rw [mrg_in hi hl (lt_of_get h3), h3] at h
      cases h
      obtain ⟨v, h6, h7⟩ := I0.sl i _ h3
      refine ⟨v, h6, ?_⟩
      rcases h5 with rfl | ⟨d, rfl⟩
      · trivial
      · obtain ⟨u, h8, h9⟩ := h7
        exact ⟨u, h8, h9.mono g⟩
    · rw [mrg_out hi] at h
      obtain ⟨v, h6, h7⟩ := I.sl i s h
      rw [wipe_out' hi] at h6
      exact ⟨v, h6, h7⟩
  · obtain ⟨a1, a2⟩ := out h1
    obtain ⟨b1, b2⟩ := out h2
    exact I.ne i j w w' o o' p a2 b2 (by rw [wipe_out' a1]; exact h3) (by rw [wipe_out' b1]; exact h4)
  · have hx' := bo_out I0 hw x hx
    obtain ⟨h1, o, h2⟩ := I.bo x hx
    rw [wipe_out' hx'] at h1
    exact ⟨h1, o, by rw [mrg_out hx']; exact h2⟩
  · rintro ⟨i, w, o, h1, h2⟩
    obtain ⟨a1, a2⟩ := out h1
    exact ⟨i, w, o, a2, by rw [wipe_out' a1]; exact h2⟩
/-- the same through a turn's end -/
theorem mm_wipe_le {vs : List Nat} {q : Addr} (h : Mm (L2.wipe σ vs) (wipeE vs env) q) : Mm σ env q := by
  obtain ⟨i, w, o, h1, h2⟩ := h
  by_cases hi : i ∈ vs
  · have hl : i < env.length := by
      have := lt_of_get h1
      rw [wipeE_len] at this
      exact this
    rw [wipeE_in hi hl] at h1
    cases h1
  · rw [wipeE_out hi] at h1
    rw [wipe_out' hi] at h2
    exact ⟨i, w, o, h1, h2⟩
end
section
variable {b : Bx} {F F0 F1 F' H H1 H' Hs : Hp} {σ σ0 σ' : St} {env env0 env1 env' : En} {p : Addr} {ho ho' : HO}
/-- an object that no slot holds is changed -/
theorem IV.updO (I : IV b F H σ env) (hF : F p = none) (hH : H p = some ho) (m1 : mob ho = true) (m2 : mob ho' = true) (hm : ¬ Mm σ env p) : IV b F (upd H p ho') σ env :=
  I.grow (I.ext.upd hF) (Ex.refl F) (b.zm H p ho ho' I.z hH m1 m2) (fun q z => upd_none z) fun q z => by
    have n : q ≠ p := fun e => hm (e ▸ z)
    rw [upd_ne n]
    exact ⟨(I.mm z).1, fun _ z => z⟩
theorem Gr.updO (g : Gr σ0 env0 F0 Hs σ env F H) (h : Hs p = none) : Gr σ0 env0 F0 Hs σ env F (upd H p ho') where
  f := g.f
  d := fun q z => g.d q (upd_none z)
  h := fun q u e hm ht => by
    rw [upd_ne (ne_of_none e h)]
    exact g.h q u e hm ht
  n := g.n
  m := g.m
  l := g.l
theorem Gr.wipe (g : Gr σ0 env0 F0 Hs σ env F H) (vs : List Nat) : Gr σ0 env0 F0 Hs (L2.wipe σ vs) (wipeE vs env) F H := ⟨g.f, g.d, g.h, g.n, fun q z => g.m q (mm_wipe_le z), (wipeE_len _ _).trans g.l⟩
theorem fresh_keep (g : Gr σ env F H σ' env' F' H') (h1 : F p = none) (h2 : H p = some ho) (h3 : ¬ Mm σ env p) (hmb : mob ho = true := by rfl) : F' p = none := by
  cases q : F' p with
  | none => rfl
  | some u =>
    rcases g.n p (by rw [q]; exact fun z => nomatch z) with z | z | z | ⟨o, z, zm⟩
    · exact absurd h1 z
    · rw [h2] at z; cases z
    · exact absurd z h3
    · rw [h2] at z; cases z; rw [hmb] at zm; cases zm
end
section
variable {X : Cx} {b : Bx} {k : Nat} {pos pos' : Pos} {iter tg e elt : Expr} {tt : M Bool} {te : M RD}
theorem iV {F H : Hp} {σ : St} {env : En} {fa : M (List PyData)} {kk : List PyData → En → Option (Ou RD)} {Q : VK} {RI : It → Hp → Prop} (I : IV b F H σ env) (ok : OkV b F H σ env (bnd (fa env) kk) Q)
    (hk : ∀ xs env1 J ps F1 H1, IV b F1 H1 σ env1 → Gr σ env F H σ env1 F1 H1 → WD b.K J xs F1 ps → (∀ q ∈ ps, H1 q.1 = some q.2 ∧ isTbl q.2 = false ∧ ¬ Mm σ env1 q.1) → OkV b F1 H1 σ env1 (kk xs env1) Q → RI J H1) : tI b fa σ H RI := by
  refine ⟨F, env, I, ?_⟩
  revert ok
  cases fa env with
  | none => exact fun z => z
  | some o =>
    cases o with
    | ok r e => exact fun ok J ps F1 H1 I1 g w hp => hk r e J ps F1 H1 I1 g w hp (ok.re g)
    | ex c e => exact fun ok => ok
/-- a clause's tests -/
def PTv (X : Cx) (b : Bx) (f : M Bool) (ifs : List Expr) : Prop := PTs X ifs (tT b f)
theorem PTs.imp {ifs : List Expr} {t t' : TT} (h : PTs X ifs t) (i : ∀ σ H Q, t' σ H Q → t σ H Q) : PTs X ifs t' := ⟨fun pins s σ H Q I q => h.run pins s σ H Q I (i σ H Q q)⟩
theorem ptv_nil : PTv X b fYes [] := PTs.imp pts_nil fun σ H Q h => by
  obtain ⟨F, env, I, ok⟩ := h
  exact ok F H I (Gr.refl _ _ _ _)
theorem ptv_one {c : Expr} (h : PB X b tt c) : PTv X b tt [c] := pts_one h
/-- the block's places -/
abbrev BlkX (X : Cx) (scope : Scope) (s : Shared) (H : Hp) (C : Addr) (cl : List (Str × Addr)) (fp : List Addr) : Cx := X.blk s H scope (compEnvC scope cl C X.env) fp
theorem Gx.blk {scope : Scope} {s : Shared} {H : Hp} {C : Addr} {cl : List (Str × Addr)} {fp : List Addr} (g : Gx X b k) : Gx (BlkX X scope s H C cl fp) b.blk k := ⟨g.calm, g.nd, PassesOwn.never, takes0, g.room, g.kk⟩
/-- what follows the walked thing -/
abbrev lcT (g : TG) (tt : TT) (te : TE) (vs : List Nat) (σ : St) (Q : VK) (J : It) (H1 : Hp) : Prop := ∀ D, H1 D = none → ∃ W : Nat → Nat → Hp → Prop, (∃ m, W 0 m (upd H1 D (.lst []))) ∧ ∀ i m H, W i m H →
  (J.stop i H ∧ Q (.ref D) H) ∨ (J.go i H ∧ ∃ Nx : Hp → Prop, (∀ H', Nx H' → ∃ m', m' < m ∧ W (i + 1) m' H') ∧ ∀ x H', J.yld i H x H' → g x (wipe σ vs) H' fun σ2 H2 => wipe σ2 vs = wipe σ vs ∧ tt σ2 H2 fun b H3 =>
    if b = true then te σ2 H3 fun y H4 => ∃ acc, H4 D = some (.lst acc) ∧ acc.length < sizeLine ∧ Nx (upd H4 D (.lst (acc ++ [y]))) else Nx H3)
def fCompE (vs : List Nat) (gt : PyData → En → Option En) (tt : M Bool) (te : M RD) (xs : List PyData) (e1 : En) : Option (Ou RD) :=
  if okW vs e1 = true then match compF vs gt tt te xs [] (wipeE vs e1) with
    | some (acc, e2) => some (.ok (.own (.lst acc)) (mrg vs e1 e2))
    | none => none
  else none
theorem lcV {vs ts : List Nat} {gt : PyData → En → Option En} (hts : ∀ v ∈ ts, v ∈ vs) {σ : St} {F1 H1 : Hp} {env1 : En} {xs : List PyData} {J : It} {ps : List (Addr × HO)} {Q : VK} (I1 : IV b F1 H1 σ env1) (w : WD b.K J xs F1 ps) (hp : ∀ q ∈ ps, H1 q.1 = some q.2 ∧ isTbl q.2 = false ∧ ¬ Mm σ env1 q.1)
    (ok1 : OkV b F1 H1 σ env1 (fCompE vs gt tt te xs env1) Q) : lcT (tG b.blk ts gt) (tT b.blk tt) (tV b.blk te) vs σ Q J H1 := by
  intro D hD
  unfold fCompE at ok1
  cases hw : okW vs env1 with
  | false => rw [hw] at ok1; exact ok1.elim
  | true =>
    rw [hw, if_pos rfl] at ok1
    cases hc : compF vs gt tt te xs [] (wipeE vs env1) with
    | none => rw [hc] at ok1; exact ok1.elim
    | some z =>
      obtain ⟨acc0, e0⟩ := z
      rw [hc] at ok1
      have hv := bo_out I1 hw
      have hFD : F1 D = none := I1.ext.none hD
      have hbs := I1.toBlk
      refine ⟨fun i m H2 => m = xs.length - i ∧ i ≤ xs.length ∧ ∃ F2 e2 acc vl, IV b.blk F2 H2 (wipe σ vs) e2 ∧ Gr (wipe σ vs) (wipeE vs env1) F1 H1 (wipe σ vs) e2 F2 H2 ∧ H2 D = some (.lst vl) ∧ Reps b.K F2 vl acc ∧ F2 D = none ∧ ¬ Mm (wipe σ vs) e2 D ∧
          (∀ q ∈ ps, H2 q.1 = some q.2 ∧ isTbl q.2 = false ∧ ¬ Mm (wipe σ vs) e2 q.1) ∧ compF vs gt tt te (xs.drop i) acc e2 = some (acc0, e0),
        ⟨xs.length, rfl, Nat.zero_le _, F1, wipeE vs env1, [], [], (hbs.wipe hv).allocH hD, Gr.newH hD, upd_same, .nil, hFD, fun z => ?_, fun q hq => ?_, hc⟩, ?_⟩
      · exact (I1.notMm hD) ((Mm.wipe hw).mp z)
      · obtain ⟨p1, p2, p3⟩ := hp q hq
        exact ⟨by rw [upd_ne (ne_of_none p1 hD)]; exact p1, p2, fun z => p3 ((Mm.wipe hw).mp z)⟩
      rintro i m H2 ⟨rfl, hil, F2, e2, acc, vl, I2, g2, hDl, hacc, hFD2, hmD, hp2, hcomp⟩
      have hps : ∀ q ∈ ps, H2 q.1 = some q.2 := fun q hq => (hp2 q hq).1
      by_cases hlt : i < xs.length
      · refine .inr ⟨w.goes F2 H2 i g2.f I2.ext hps hlt, fun H3 => ∃ F3 e3 acc3 vl3, IV b.blk F3 H3 (wipe σ vs) e3 ∧ Gr (wipe σ vs) (wipeE vs env1) F1 H1 (wipe σ vs) e3 F3 H3 ∧ H3 D = some (.lst vl3) ∧ Reps b.K F3 vl3 acc3 ∧ F3 D = none ∧ ¬ Mm (wipe σ vs) e3 D ∧
          (∀ q ∈ ps, H3 q.1 = some q.2 ∧ isTbl q.2 = false ∧ ¬ Mm (wipe σ vs) e3 q.1) ∧ compF vs gt tt te (xs.drop (i + 1)) acc3 e3 = some (acc0, e0), fun H3 h3 => ⟨xs.length - (i + 1), by omega, rfl, hlt, h3⟩, fun x H3 y => ?_⟩
        obtain ⟨F3, d, hd, al, rp⟩ := w.yld F2 H2 i x H3 g2.f I2.ext hps hlt y
        obtain ⟨I3, g3⟩ := al.both I2
        have hdrop : xs.drop i = d :: xs.drop (i + 1) := by
          rw [List.drop_eq_getElem_cons hlt]
          congr 1
          exact Option.some.inj ((List.getElem?_eq_getElem hlt).symm.trans hd)
        rw [hdrop] at hcomp
        have hcomp : (match gt d e2 with
          | none => none
          | some e1 => match tt e1 with
            | some (.ok true e2) => match te e2 with
              | some (.ok r e3) => match frzR r e3 with
                | some (d, e4) => if acc.length < lim then compF vs gt tt te (xs.drop (i + 1)) (acc ++ [d]) (wipeE vs e4) else none
                | none => none
              | _ => none
            | some (.ok false e2) => compF vs gt tt te (xs.drop (i + 1)) acc (wipeE vs e2)
            | _ => none) = some (acc0, e0) := hcomp
        refine ⟨F3, e2, d, I3, rp, ?_⟩
        cases q1 : gt d e2 with
        | none => rw [q1] at hcomp; cases hcomp
        | some e3 =>
          rw [q1] at hcomp
          intro σ4 F4 H4 I4 g4 hσ
          have hl4 : σ4.length = σ.length := by
            rw [hσ.1, wipe_length]
          have hwσ : wipe σ4 vs = wipe σ vs := wipe_idem hl4 hts hσ.2
          have hvb : ∀ x ∈ b.blk.B, x.1 ∉ vs := hv
          have pin0 : ∀ q ∈ (D, HO.lst vl) :: ps, H2 q.1 = some q.2 ∧ isTbl q.2 = false ∧ ¬ Mm (wipe σ vs) e2 q.1 := fun q hq => by
            rcases List.mem_cons.mp hq with z | z
            · rw [z]
              exact ⟨hDl, rfl, hmD⟩
            · exact hp2 q z
          have g24 := g3.trans g4
          have pin4 := ps_keep g24 pin0
          have g14 := g2.trans g24
          have fD4 : F4 D = none := fresh_keep g24 hFD2 hDl hmD
          refine ⟨hwσ, F4, e3, I4, ?_⟩
          have hcomp : (match tt e3 with
            | some (.ok true e2) => match te e2 with
              | some (.ok r e3) => match frzR r e3 with
                | some (d, e4) => if acc.length < lim then compF vs gt tt te (xs.drop (i + 1)) (acc ++ [d]) (wipeE vs e4) else none
                | none => none
              | _ => none
            | some (.ok false e2) => compF vs gt tt te (xs.drop (i + 1)) acc (wipeE vs e2)
            | _ => none) = some (acc0, e0) := hcomp
          cases q2 : tt e3 with
          | none => rw [q2] at hcomp; cases hcomp
          | some z =>
            cases z with
            | ex c e => rw [q2] at hcomp; cases hcomp
            | ok bb e5 =>
              rw [q2] at hcomp
              intro F5 H5 I5 g5
              have pin5 := ps_keep g5 pin4
              have d4 := pin4 _ List.mem_cons_self
              have d5 := pin5 _ List.mem_cons_self
              have fD5 : F5 D = none := fresh_keep g5 fD4 d4.1 d4.2.2
              cases bb with
              | false =>
                rw [if_neg Bool.false_ne_true]
                refine ⟨F5, wipeE vs e5, acc, vl, ?_, ?_, d5.1, hacc.mono (g24.f.trans g5.f), fD5, fun z => d5.2.2 (mm_wipe_le (σ := σ4) (vs := vs) (by rw [hwσ]; exact z)), fun q hq => ?_, hcomp⟩
                · rw [← hwσ]
                  exact I5.wipe hvb
                · rw [← hwσ]
                  have g15 := (g14.trans g5).wipe vs
                  rw [← hwσ] at g15
                  exact g15
                · obtain ⟨p1, p2, p3⟩ := pin5 q (List.mem_cons_of_mem _ hq)
                  exact ⟨p1, p2, fun z => p3 (mm_wipe_le (σ := σ4) (vs := vs) (by rw [hwσ]; exact z))⟩
              | true =>
                rw [if_pos rfl]
                refine ⟨F5, e5, I5, ?_⟩
                have hcomp : (match te e5 with
                  | some (.ok r e3) => match frzR r e3 with
                    | some (d, e4) => if acc.length < lim then compF vs gt tt te (xs.drop (i + 1)) (acc ++ [d]) (wipeE vs e4) else none
                    | none => none
                  | _ => none) = some (acc0, e0) := hcomp
                cases q3 : te e5 with
                | none => rw [q3] at hcomp; cases hcomp
                | some z =>
                  cases z with
                  | ex c e => rw [q3] at hcomp; cases hcomp
                  | ok r e6 =>
                    rw [q3] at hcomp
                    intro y6 F6 H6 I6 g6 er6
                    have hcomp : (match frzR r e6 with
                      | some (d, e4) => if acc.length < lim then compF vs gt tt te (xs.drop (i + 1)) (acc ++ [d]) (wipeE vs e4) else none
                      | none => none) = some (acc0, e0) := hcomp
                    cases q4 : frzR r e6 with
                    | none => rw [q4] at hcomp; cases hcomp
                    | some z =>
                      obtain ⟨d7, e7⟩ := z
                      rw [q4] at hcomp
                      have hcomp : (if acc.length < lim then compF vs gt tt te (xs.drop (i + 1)) (acc ++ [d7]) (wipeE vs e7) else none) = some (acc0, e0) := hcomp
                      by_cases hlim : acc.length < lim
                      · rw [if_pos hlim] at hcomp
                        obtain ⟨F7, I7, g7, rp7, _⟩ := frz_ok I6 g6 er6 q4
                        have pin7 := ps_keep g7 pin5
                        have d7' := pin7 _ List.mem_cons_self
                        have fD7 : F7 D = none := fresh_keep g7 fD5 d5.1 d5.2.2
                        have gall := ((g14.trans g5).trans g7).wipe vs
                        have Iw := I7.wipe hvb
                        rw [hwσ] at gall Iw
                        have hmw : ¬ Mm (wipe σ vs) (wipeE vs e7) D := fun z => d7'.2.2 (mm_wipe_le (σ := σ4) (vs := vs) (by rw [hwσ]; exact z))
                        have hacc7 : Reps b.K F7 (vl ++ [y6]) (acc ++ [d7]) := (hacc.mono ((g24.f.trans g5.f).trans g7.f)).snoc rp7
                        refine ⟨vl, d7'.1, ?_, F7, wipeE vs e7, acc ++ [d7], vl ++ [y6], Iw.updO fD7 d7'.1 rfl rfl hmw, gall.updO hD, upd_same, hacc7, fD7, hmw, fun q hq => ?_, hcomp⟩
                        · rw [hacc.length]
                          exact lim_lt hlim
                        · obtain ⟨p1, p2, p3⟩ := pin7 q (List.mem_cons_of_mem _ hq)
                          have hne : q.1 ≠ D := fun z => by
                            obtain ⟨r1, _⟩ := hp q hq
                            rw [z, hD] at r1
                            cases r1
                          exact ⟨by rw [upd_ne hne]; exact p1, p2, fun z => p3 (mm_wipe_le (σ := σ4) (vs := vs) (by rw [hwσ]; exact z))⟩
                      · rw [if_neg hlim] at hcomp
                        cases hcomp
      · have e : i = xs.length := by omega
        subst e
        rw [List.drop_length] at hcomp
        have hcomp : some (acc, e2) = some (acc0, e0) := hcomp
        cases hcomp
        obtain ⟨I5, m5⟩ := IV.unwipe I1 hw I2.ofBlk g2.f
        refine .inl ⟨w.stops F2 H2 g2.f I2.ext hps, ok1 _ F2 H2 I5 ⟨g2.f, g2.d, fun q o hq hm ht => g2.h q o hq (fun z => hm ((Mm.wipe hw).mp z)) ht, fun q hq => ?_, fun q hq => ?_, (mrg_len _ _ _).trans (g2.l.trans (wipeE_len _ _))⟩ ⟨D, rfl, hFD2, ⟨vl, hDl, hacc⟩, I1.h0 D hD, hD, fun z => hmD (m5 D z)⟩⟩
        · rcases g2.n q hq with z | z | z | z
          · exact .inl z
          · exact .inr (.inl z)
          · exact .inr (.inr (.inl ((Mm.wipe hw).mp z)))
          · exact .inr (.inr (.inr z))
        · rcases g2.m q (m5 q hq) with z | z
          · exact .inl ((Mm.wipe hw).mp z)
          · exact .inr z
theorem tLc_of {vs ts : List Nat} {it : M (List PyData)} {gt : PyData → En → Option En} (hts : ∀ v ∈ ts, v ∈ vs) {σ : St} {H : Hp} {Q : VK} (h : tV b (fComp vs it gt tt te) σ H Q) : tLc (tI b it) (tG b.blk ts gt) (tT b.blk tt) (tV b.blk te) vs σ H Q := by
  obtain ⟨F, env, I, ok⟩ := h
  exact iV I ok fun xs env1 J ps F1 H1 I1 g1 w hp ok1 => lcV hts I1 w hp ok1
/-- [elt for tg in iter if ..] -/
theorem pv_comp {vs ts : List Nat} {own : List (Str × Nat)} {scope : Scope} {ifs : List Expr} {it : M (List PyData)} {gt : PyData → En → Option En} (g : Gx X b k) (hi : PIv X b it tg iter) (ok : blkC X.N X.env.scope scope own = true)
    (hg : ∀ (s : Shared) (H : Hp) (C : Addr) (cl : List (Str × Addr)) (fp : List Addr), PGv (BlkX X scope s H C cl fp) b.blk ts gt tg)
    (ht : ∀ (s : Shared) (H : Hp) (C : Addr) (cl : List (Str × Addr)) (fp : List Addr), PTv (BlkX X scope s H C cl fp) b.blk tt ifs)
    (he : ∀ (s : Shared) (H : Hp) (C : Addr) (cl : List (Str × Addr)) (fp : List Addr), PV (BlkX X scope s H C cl fp) b.blk te elt)
    (hv : own.map (·.2) = vs := by rfl) (hts : ∀ v ∈ ts, v ∈ vs := by decide) (hs : ∀ x, foldedSetIterable iter X.env x = pure x := by intro _; rfl) :
    PV X b (fComp vs it gt tt te) (.ListComp elt [⟨tg, iter, ifs, 0⟩] scope pos) := by
  subst hv
  exact PE.imp (pe_lc g.calm g.nd hi (blkOk_by ok) hg ht he hs) fun σ H Q h => tLc_of hts h
/-- y = [..] on one line -/
theorem pf_setC (i : Nat) {y : Str} {py spos : Pos} {vs ts : List Nat} {own : List (Str × Nat)} {scope : Scope} {ifs : List Expr} {it : M (List PyData)} {gt : PyData → En → Option En} (g : Gx X b k) (hi : PIv X b it tg iter) (ok : blkC X.N X.env.scope scope own = true)
    (hg : ∀ (s : Shared) (H : Hp) (C : Addr) (cl : List (Str × Addr)) (fp : List Addr), PGv (BlkX X scope s H C cl fp) b.blk ts gt tg)
    (ht : ∀ (s : Shared) (H : Hp) (C : Addr) (cl : List (Str × Addr)) (fp : List Addr), PTv (BlkX X scope s H C cl fp) b.blk tt ifs)
    (he : ∀ (s : Shared) (H : Hp) (C : Addr) (cl : List (Str × Addr)) (fp : List Addr), PV (BlkX X scope s H C cl fp) b.blk te elt)
    (hy : X.N[i]? = some y := by rfl) (hyl : X.env.scope.names.lookup y = some .local := by rfl) (hk : X.env.scope.kind = .function := by rfl) (hl : (py.line == pos.line) = true := by rfl) (ha : (scope.names.any fun (n, k) => n == y && (k == .local || k == .cell)) = false := by decide +kernel)
    (hv : own.map (·.2) = vs := by rfl) (hts : ∀ v ∈ ts, v ∈ vs := by decide) (hs : ∀ x, foldedSetIterable iter X.env x = pure x := by intro _; rfl) :
    PF X b (fSet i (fComp vs it gt tt te)) (.Assign [.Name y py] (.ListComp elt [⟨tg, iter, ifs, 0⟩] scope pos) spos) := by
  subst hv
  refine PS.imp (ps_setLc (i := i) g.calm g.nd hy hyl (sw_true hk hyl hl ha) hi (blkOk_by ok) hg ht he hs) fun D σ H h => ?_
  obtain ⟨F, env, I, ok⟩ := h
  refine tLc_of hts ?_
  exact vS0 I ok fun r env1 v F1 H1 I1 g1 er ok0 => set_end I1 g1 er ok0
end
end Pv
namespace Pv
open PySem PySem.Spec PyProof.Rows L2

/-! ### arguments -/
def fArgs : List (M RD) → M (List RD)
  | [], e => some (.ok [] e)
  | f :: fs, e => bnd (f e) fun r e1 => bnd (fArgs fs e1) fun rs e2 => some (.ok (r :: rs) e2)
/-- one for one; new objects stand apart -/
inductive Ers (b : Bx) (Hs F H : Hp) (σ : St) (env : En) : List V → List RD → Prop
  | nil : Ers b Hs F H σ env [] []
  | cons {v : V} {r : RD} {vs : List V} {rs : List RD} : Er b Hs F H σ env v r → (∀ o, r = .own o → ∀ (i : Nat) (o' : Ob) (u : V), rs[i]? = some (RD.own o') → vs[i]? = some u → u ≠ v) → Ers b Hs F H σ env vs rs → Ers b Hs F H σ env (v :: vs) (r :: rs)
def OkA (b : Bx) (F H : Hp) (σ : St) (env : En) (o : Option (Ou (List RD))) (Q : List V → Hp → Prop) : Prop := match o with
  | none => False
  | some (.ok rs env') => ∀ vs F' H', IV b F' H' σ env' → Gr σ env F H σ env' F' H' → Ers b H F' H' σ env' vs rs → Q vs H'
  | some (.ex c env') => ∀ F' H', IV b F' H' σ env' → Gr σ env F H σ env' F' H' → b.W (.ref (b.cl c)) none σ H'
def tA (b : Bx) (fs : List (M RD)) : TA := fun σ H Q => ∃ F env, IV b F H σ env ∧ OkA b F H σ env (fArgs fs env) Q
def PAv (X : Cx) (b : Bx) (fs : List (M RD)) (es : List Expr) : Prop := PA X es (tA b fs)
section
variable {X : Cx} {b : Bx} {k : Nat} {pos pos' : Pos} {e : Expr} {es : List Expr} {f : M RD} {fs : List (M RD)}
variable {F F0 F1 F' H H1 H' Hs : Hp} {σ σ0 σ' : St} {env env0 env1 env' : En} {Q : VK}
theorem pav_nil : PAv X b [] [] := PA.imp pa_nil fun σ H Q h => by
  obtain ⟨F, env, I, ok⟩ := h
  exact ok [] F H I (Gr.refl _ _ _ _) .nil
theorem pav_cons (h1 : PV X b f e) (h2 : PAv X b fs es) (hs : starEach (e :: es) X.env = (false, eval e X.env) :: starEach es X.env := by rfl) : PAv X b (f :: fs) (e :: es) := PA.imp (pa_cons h1 h2 hs) fun σ H Q h => by
  obtain ⟨F, env, I, ok⟩ := h
  have ok : OkA b F H σ env (bnd (f env) fun r e1 => bnd (fArgs fs e1) fun rs e2 => some (.ok (r :: rs) e2)) Q := ok
  refine ⟨F, env, I, ?_⟩
  cases q : f env with
  | none => rw [q] at ok; exact ok.elim
  | some o =>
    rw [q] at ok
    cases o with
    | ex c e1 => exact ok
    | ok r e1 =>
      intro v F1 H1 I1 g1 er1
      refine ⟨F1, e1, I1, ?_⟩
      have ok : OkA b F H σ env (bnd (fArgs fs e1) fun rs e2 => some (.ok (r :: rs) e2)) Q := ok
      cases q2 : fArgs fs e1 with
      | none => rw [q2] at ok; exact ok.elim
      | some o =>
        rw [q2] at ok
        cases o with
        | ex c e2 => exact fun F2 H2 I2 g2 => ok F2 H2 I2 (g1.trans g2)
        | ok rs e2 =>
          intro vs F2 H2 I2 g2 er2
          refine ok (v :: vs) F2 H2 I2 (g1.trans g2) ?_
          have bk : ∀ {vs : List V} {rs : List RD}, Ers b H1 F2 H2 σ e2 vs rs → Ers b H F2 H2 σ e2 vs rs := fun {vs rs} h => by
            induction h with
            | nil => exact .nil
            | cons a q t ih => exact .cons (a.back g1.d) q ih
          refine .cons (er1.step g2) (fun o ho i o' u h1 h2 hu => ?_) (bk er2)
          subst ho
          obtain ⟨p, rfl, a2, a3, a4, a5, a6⟩ := er1
          obtain ⟨ho, b1, _, _⟩ := RepOb.obj a3
          have key : ∀ {vs : List V} {rs : List RD} {i : Nat}, Ers b H1 F2 H2 σ e2 vs rs → rs[i]? = some (.own o') → vs[i]? = some u → ∃ p, u = .ref p ∧ H1 p = none := fun {vs rs i} h => by
            induction h generalizing i with
            | nil => intro z _; simp at z
            | cons a q t ih =>
              intro z1 z2
              cases i with
              | zero =>
                simp at z1 z2
                subst z1 z2
                obtain ⟨p, c1, _, _, _, c5, _⟩ := a
                exact ⟨p, c1, c5⟩
              | succ i => exact ih (by simpa using z1) (by simpa using z2)
          obtain ⟨p2, c1, c2⟩ := key er2 h1 h2
          rw [c1] at hu
          cases hu
          rw [b1] at c2
          cases c2

/-! ### built-ins by their names -/
def rslvs (e : En) : List RD → Option (List PyData)
  | [] => some []
  | r :: rs => match rslv e r, rslvs e rs with
    | some d, some ds => some (d :: ds)
    | _, _ => none
def fCall (op : List PyData → Option RD) (fs : List (M RD)) : M RD := fun e => bnd (fArgs fs e) fun rs e1 => match rslvs e1 rs with
  | some ds => rok (op ds) e1
  | none => none
inductive Rvs (K : PySem.W.Frag) (F H : Hp) : List V → List PyData → Prop
  | nil : Rvs K F H [] []
  | cons {v : V} {d : PyData} {vs : List V} {ds : List PyData} : Rv K F H v d → Rvs K F H vs ds → Rvs K F H (v :: vs) (d :: ds)
/-- a call of a built-in by values does op -/
def CalD (K : PySem.W.Frag) (r : List V → Hp → VK → Prop) (op : List PyData → Option RD) : Prop :=
  ∀ (F H : Hp) (vs : List V) (ds : List PyData) (res : RD) (Q : VK), Ex F H → Rvs K F H vs ds → op ds = some res → Wd K F H res Q → r vs H Q
theorem Ers.rvs {vs : List V} {rs : List RD} {ds : List PyData} (I : IV b F H σ env) (h : Ers b Hs F H σ env vs rs) (e : rslvs env rs = some ds) : Rvs b.K F H vs ds := by
  induction h generalizing ds with
  | nil => cases e; exact .nil
  | @cons v r vs rs a q t ih =>
    have e : (match rslv env r, rslvs env rs with
      | some d, some ds => some (d :: ds)
      | _, _ => none) = some ds := e
    cases h1 : rslv env r with
    | none => rw [h1] at e; cases e
    | some d =>
      cases h2 : rslvs env rs with
      | none => rw [h1, h2] at e; cases e
      | some ds2 =>
        rw [h1, h2] at e
        cases e
        exact .cons (a.rv I h1) (ih h2)
theorem tCB_of {r : List V → Hp → VK → Prop} {op : List PyData → Option RD} (hd : CalD X.K r op) (hk : b.K = X.K) {σ : St} {H : Hp} {Q : VK} (h : tV b (fCall op fs) σ H Q) : tCB r (tA b fs) σ H Q := by
  obtain ⟨F, env, I, ok⟩ := h
  have ok : OkV b F H σ env (bnd (fArgs fs env) fun rs e1 => match rslvs e1 rs with
    | some ds => rok (op ds) e1
    | none => none) Q := ok
  refine ⟨F, env, I, ?_⟩
  cases q : fArgs fs env with
  | none => rw [q] at ok; exact ok.elim
  | some o =>
    rw [q] at ok
    cases o with
    | ex c e => exact ok
    | ok rs e1 =>
      intro vs F1 H1 I1 g1 er
      have ok : OkV b F H σ env (match rslvs e1 rs with
        | some ds => rok (op ds) e1
        | none => none) Q := ok
      cases q2 : rslvs e1 rs with
      | none => rw [q2] at ok; exact ok.elim
      | some ds =>
        rw [q2] at ok
        cases q3 : op ds with
        | none =>
          have ok : OkV b F H σ env (rok (op ds) e1) Q := ok
          rw [q3] at ok
          exact ok.elim
        | some res =>
          have ok : OkV b F H σ env (rok (op ds) e1) Q := ok
          rw [q3] at ok
          have z := Ers.rvs I1 er q2
          have w := wd_of I1 (OkV.re ok g1)
          rw [hk] at z w
          exact hd F1 H1 vs ds res Q I1.ext z q3 w
theorem pv_callB {id : String} {x : Str} {p1 : Pos} {r : List V → Hp → VK → Prop} {op : List PyData → Option RD} (hc : CallR X (.builtin id) r) (hd : CalD X.K r op) (g : Gx X b k) (hm : X.mg x = none) (ha : PAv X b fs (e :: es)) (hg : Gl X x := by rfl) (hv : bootBuiltins x = some (.builtin id) := by decide +kernel)
    (hn : x ≠ "__name__" := by decide) (hdb : (x == ("__debug__" : Str)) = false := by decide) (he : starEach (e :: es) X.env = (false, eval e X.env) :: starEach es X.env := by rfl) (hpl : (backTo pos (starEach es X.env)).any (·.1) = false := by rfl) :
    PV X b (fCall op fs) (.Call (.Name x p1) (e :: es) [] pos) := PE.imp (pe_callB hc hg hm hv ha hn hdb he hpl) fun _ _ _ h => tCB_of hd g.kk h
theorem pv_callT {T : String} {x : Str} {p1 : Pos} {r : List V → Hp → VK → Prop} {op : List PyData → Option RD} (hc : CallR X (.type T) r) (hd : CalD X.K r op) (g : Gx X b k) (hm : X.mg x = none) (ha : PAv X b fs (e :: es)) (hg : Gl X x := by rfl) (hv : bootBuiltins x = some (.type T) := by decide +kernel)
    (hn : x ≠ "__name__" := by decide) (hdb : (x == ("__debug__" : Str)) = false := by decide) (he : starEach (e :: es) X.env = (false, eval e X.env) :: starEach es X.env := by rfl) (hpl : (backTo pos (starEach es X.env)).any (·.1) = false := by rfl) :
    PV X b (fCall op fs) (.Call (.Name x p1) (e :: es) [] pos) := PE.imp (pe_callTy hc hg hm hv ha hn hdb he hpl) fun _ _ _ h => tCB_of hd g.kk h
end

/-! ### defs -/
/-- a def's end: what it hands back (data, a new object), what was handed in as it stands then; or a refusal -/
inductive Fo where
  | rt (r : RD) (out : En)
  | ex (c : Str) (out : En)
abbrev Fn := En → Option Fo
/-- how an argument is handed in: as data, to be changed, a function -/
inductive Mo where
  | d | m | f
def expR (r : RD) (e : En) : Option RD := match r with
  | .val d => some (.val d)
  | .own o => some (.own o)
  | .fn a => some (.fn a)
  | .pl j => match e[j]? with
    | some (.d x) => some (.val x)
    | some (.m true o) => some (.own o)
    | _ => none
/-- what was handed in, behind the body -/
def outs : En → En → En
  | .m _ _ :: as, s :: e => s :: outs as e
  | a :: as, _ :: e => a :: outs as e
  | _, _ => []
/-- a def of n names by its body -/
def mkFn (n : Nat) (body : MS) : Fn := fun args => match body (args ++ List.replicate (n - args.length) .un) with
  | some (.nx e) => some (.rt (.val .none) (outs args e))
  | some (.rt r e) => match expR r e with
    | some r' => some (.rt r' (outs args e))
    | none => none
  | some (.ex c e) => some (.ex c (outs args e))
  | _ => none
/-- the promise: g is what the def does -/
def spF (S : Sx) (n : Nat) (g : Fn) : Sp := fun vs H Q E => ∃ F args, vs.length = n ∧ IV ⟨S, H, [], fun _ _ _ _ => False⟩ F H (vs.map some) args ∧ (∀ (i : Nat) (w : Bool) (o : Ob), args[i]? = some (.m w o) → w = false) ∧ match g args with
  | none => False
  | some (.rt r out) => ∀ v F' H', IV ⟨S, H, [], fun _ _ _ _ => False⟩ F' H' (vs.map some) out → Gr (vs.map some) args F H (vs.map some) out F' H' → Er ⟨S, H, [], fun _ _ _ _ => False⟩ H F' H' (vs.map some) out v r → Q v H'
  | some (.ex c out) => ∀ F' H', IV ⟨S, H, [], fun _ _ _ _ => False⟩ F' H' (vs.map some) out → Gr (vs.map some) args F H (vs.map some) out F' H' → E (.ref (S.cl c)) none H'
/-- the places of what is to be changed -/
def borF : Nat → En → List V → List (Nat × Addr)
  | i, .m _ _ :: as, .ref p :: vs => (i, p) :: borF (i + 1) as vs
  | i, _ :: as, _ :: vs => borF (i + 1) as vs
  | _, _, _ => []
theorem borF_mem : ∀ {i : Nat} {as : En} {vs : List V} {x : Nat × Addr}, x ∈ borF i as vs → ∃ j w o, x.1 = i + j ∧ as[j]? = some (.m w o) ∧ vs[j]? = some (.ref x.2)
  | i, [], vs, x, h => by cases vs <;> cases h
  | i, a :: as, [], x, h => by cases a <;> cases h
  | i, a :: as, v :: vs, x, h => by
    have rec' : x ∈ borF (i + 1) as vs → ∃ j w o, x.1 = i + j ∧ (a :: as)[j]? = some (.m w o) ∧ (v :: vs)[j]? = some (.ref x.2) := fun h => by
      obtain ⟨j, w, o, h1, h2, h3⟩ := borF_mem h
      exact ⟨j + 1, w, o, by omega, by simpa using h2, by simpa using h3⟩
    cases a with
    | m w o =>
      cases v with
      | ref p =>
        rcases List.mem_cons.mp (show x ∈ (i, p) :: borF (i + 1) as vs from h) with e | e
        · subst e
          exact ⟨0, w, o, rfl, rfl, rfl⟩
        · exact rec' e
      | _ => exact rec' h
    | _ => exact rec' h
theorem borF_has : ∀ {i : Nat} {as : En} {vs : List V} {j : Nat} {w : Bool} {o : Ob} {p : Addr}, as[j]? = some (.m w o) → vs[j]? = some (.ref p) → (i + j, p) ∈ borF i as vs
  | i, [], vs, j, w, o, p, h1, h2 => by simp at h1
  | i, a :: as, [], j, w, o, p, h1, h2 => by simp at h2
  | i, a :: as, v :: vs, 0, w, o, p, h1, h2 => by
    simp at h1 h2
    subst h1 h2
    exact List.mem_cons_self
  | i, a :: as, v :: vs, j + 1, w, o, p, h1, h2 => by
    have h3 := borF_has (i := i + 1) (as := as) (vs := vs) (j := j) (w := w) (o := o) (p := p) (by simpa using h1) (by simpa using h2)
    rw [show i + 1 + j = i + (j + 1) by omega] at h3
    cases a with
    | m w o =>
      cases v with
      | ref p => exact List.mem_cons_of_mem _ h3
      | _ => exact h3
    | _ => exact h3
theorem outs_len : ∀ (as e : En), as.length ≤ e.length → (outs as e).length = as.length
  | [], e, _ => by cases e <;> rfl
  | a :: as, [], h => by simp at h
  | a :: as, s :: e, h => by
    have := outs_len as e (by simpa using h)
    cases a <;> exact congrArg Nat.succ this
theorem outs_get : ∀ {as e : En} {i : Nat} {s : Sl}, (outs as e)[i]? = some s → (∃ w o, as[i]? = some (.m w o) ∧ e[i]? = some s) ∨ (as[i]? = some s ∧ ∀ w o, s ≠ .m w o)
  | [], e, i, s, h => by cases e <;> simp [outs] at h
  | a :: as, [], i, s, h => by cases a <;> simp [outs] at h
  | a :: as, t :: e, 0, s, h => by
    cases a with
    | m w o =>
      have h : some t = some s := h
      cases h
      exact .inl ⟨w, o, rfl, rfl⟩
    | un =>
      have h : some Sl.un = some s := h
      cases h
      exact .inr ⟨rfl, fun _ _ z => nomatch z⟩
    | d x =>
      have h : some (Sl.d x) = some s := h
      cases h
      exact .inr ⟨rfl, fun _ _ z => nomatch z⟩
    | f x =>
      have h : some (Sl.f x) = some s := h
      cases h
      exact .inr ⟨rfl, fun _ _ z => nomatch z⟩
  | a :: as, t :: e, i + 1, s, h => by
    have h2 : (outs as e)[i]? = some s := by
      cases a <;> exact (by simpa [outs] using h)
    rcases outs_get h2 with ⟨w, o, h3, h4⟩ | ⟨h3, h4⟩
    · exact .inl ⟨w, o, by simpa using h3, by simpa using h4⟩
    · exact .inr ⟨by simpa using h3, h4⟩
section
variable {S : Sx} {F F' H H' : Hp} {vs : List V} {args env' : En} {σ' : St} {W : WX} {n : Nat}
abbrev Bx.out (S : Sx) (H : Hp) : Bx := ⟨S, H, [], fun _ _ _ _ => False⟩
theorem mm_start {m : Nat} {q : Addr} (hn : vs.length = args.length) : Mm (vs.map some ++ List.replicate m none) (args ++ List.replicate n .un) q ↔ Mm (vs.map some) args q := by
  constructor
  · rintro ⟨i, w, o, h1, h2⟩
    by_cases hi : i < args.length
    · rw [List.getElem?_append_left hi] at h1
      rw [List.getElem?_append_left (by rw [List.length_map, hn]; exact hi)] at h2
      exact ⟨i, w, o, h1, h2⟩
    · rw [List.getElem?_append_right (by omega), List.getElem?_replicate] at h1
      split at h1 <;> cases h1
  · rintro ⟨i, w, o, h1, h2⟩
    have hi := lt_of_get h1
    exact ⟨i, w, o, by rw [List.getElem?_append_left hi]; exact h1, by rw [List.getElem?_append_left (by rw [List.length_map, hn]; exact hi)]; exact h2⟩
theorem map_some_get {i : Nat} {x : Option V} (h : (vs.map some)[i]? = some x) : ∃ v, x = some v ∧ vs[i]? = some v := by
  rw [List.getElem?_map] at h
  cases q : vs[i]? with
  | none => rw [q] at h; cases h
  | some v =>
    rw [q] at h
    cases h
    exact ⟨v, rfl, rfl⟩
theorem get_map_some {i : Nat} {v : V} (h : vs[i]? = some v) : (vs.map some)[i]? = some (some v) := by
  rw [List.getElem?_map, h]
  rfl
/-- an argument that is to be changed, behind the body -/
theorem out_m (I0 : IV (Bx.out S H) F H (vs.map some) args) (I : IV ⟨S, H, borF 0 args vs, W⟩ F' H' σ' env') {i : Nat} {w : Bool} {o : Ob} (h : (outs args env')[i]? = some (.m w o)) :
    ∃ p, vs[i]? = some (.ref p) ∧ σ'[i]? = some (some (.ref p)) ∧ env'[i]? = some (.m w o) ∧ w = false := by
  rcases outs_get h with ⟨w0, o0, h1, h2⟩ | ⟨_, h2⟩
  · obtain ⟨v, h3, p, h4, _⟩ := I0.sl i _ h1
    subst h4
    obtain ⟨u, h5, h6⟩ := map_some_get h3
    cases h5
    have hb := borF_has (i := 0) h1 h6
    rw [Nat.zero_add] at hb
    obtain ⟨h7, o1, h8⟩ := I.bo _ hb
    have h7 : σ'[i]? = some (some (.ref p)) := h7
    have h8 : env'[i]? = some (.m false o1) := h8
    rw [h2] at h8
    cases h8
    exact ⟨p, h6, h7, h2, rfl⟩
  · exact absurd rfl (h2 w o)
theorem mm_out (I0 : IV (Bx.out S H) F H (vs.map some) args) (I : IV ⟨S, H, borF 0 args vs, W⟩ F' H' σ' env') {q : Addr} (h : Mm (vs.map some) (outs args env') q) : Mm σ' env' q := by
  obtain ⟨i, w, o, h1, h2⟩ := h
  obtain ⟨p, h3, h4, h5, _⟩ := out_m I0 I h1
  rw [get_map_some h3] at h2
  cases h2
  exact ⟨i, w, o, h5, h4⟩
/-- the body's end, seen from the caller -/
theorem body_end (hn : vs.length = args.length) (I0 : IV (Bx.out S H) F H (vs.map some) args) (I : IV ⟨S, H, borF 0 args vs, W⟩ F' H' σ' env') (hl : args.length ≤ env'.length)
    (g : Gr (vs.map some ++ List.replicate (n - vs.length) none) (args ++ List.replicate (n - args.length) .un) F H σ' env' F' H') : IV (Bx.out S H) F' H' (vs.map some) (outs args env') ∧ Gr (vs.map some) args F H (vs.map some) (outs args env') F' H' := by
  refine ⟨⟨I.ext, I.z, by rw [List.length_map, outs_len _ _ hl, hn], fun i s h => ?_, fun i j w w' o o' p h1 h2 h3 h4 => ?_, fun q h => I.h0 q h, fun x hx => by cases hx⟩, g.f, g.d, fun q o hq hm ht => g.h q o hq (fun z => hm ((mm_start hn).mp z)) ht, fun q hq => ?_, fun q hq => ?_, outs_len _ _ hl⟩
  · rcases outs_get h with ⟨w0, o0, h1, h2⟩ | ⟨h1, h2⟩
    · have hm : ∃ w o, s = .m w o := by
        obtain ⟨v, h3, p, h4, _⟩ := I0.sl i _ h1
        subst h4
        obtain ⟨u, h5, h6⟩ := map_some_get h3
        cases h5
        have hb := borF_has (i := 0) h1 h6
        rw [Nat.zero_add] at hb
        obtain ⟨h7, o1, h8⟩ := I.bo _ hb
        have h8 : env'[i]? = some (.m false o1) := h8
        rw [h2] at h8
        cases h8
        exact ⟨_, _, rfl⟩
      obtain ⟨w, o, rfl⟩ := hm
      obtain ⟨p, h3, h4, h5, rfl⟩ := out_m I0 I h
      obtain ⟨v, h6, h7⟩ := I.sl i _ h5
      rw [h4] at h6
      cases h6
      obtain ⟨p', h8, h9, h10, _⟩ := h7
      cases h8
      exact ⟨_, get_map_some h3, p, rfl, h9, h10, fun z => by cases z⟩
    · obtain ⟨v, h3, h4⟩ := I0.sl i _ h1
      exact ⟨v, h3, h4.mono g.f fun w o p e => absurd e (h2 w o)⟩
  · obtain ⟨p1, a1, a2, a3, _⟩ := out_m I0 I h1
    obtain ⟨p2, b1, b2, b3, _⟩ := out_m I0 I h2
    rw [get_map_some a1] at h3
    rw [get_map_some b1] at h4
    cases h3
    cases h4
    exact I.ne i j _ _ _ _ p a3 b3 a2 b2
  · rcases g.n q hq with z | z | z | z
    · exact .inl z
    · exact .inr (.inl z)
    · exact .inr (.inr (.inl ((mm_start hn).mp z)))
    · exact .inr (.inr (.inr z))
  · rcases g.m q (mm_out I0 I hq) with z | z
    · exact .inl ((mm_start hn).mp z)
    · exact .inr z
theorem exp_ok {r r' : RD} {v : V} (I0 : IV (Bx.out S H) F H (vs.map some) args) (I : IV ⟨S, H, borF 0 args vs, W⟩ F' H' σ' env') (er : Er ⟨S, H, borF 0 args vs, W⟩ H F' H' σ' env' v r) (h : expR r env' = some r') :
    Er (Bx.out S H) H F' H' (vs.map some) (outs args env') v r' := by
  cases r with
  | val d => cases h; exact er
  | fn a => cases h; exact er
  | own o =>
    cases h
    obtain ⟨p, h1, h2, h3, h4, h5, h6⟩ := er
    exact ⟨p, h1, h2, h3, h4, h5, fun z => h6 (mm_out I0 I z)⟩
  | pl j =>
    have h : (match env'[j]? with
      | some (.d x) => some (.val x)
      | some (.m true o) => some (.own o)
      | _ => none) = some r' := h
    have er : σ'[j]? = some (some v) := er
    split at h
    · rename_i x q
      cases h
      obtain ⟨u, h1, h2⟩ := I.sl j _ q
      rw [er] at h1
      cases h1
      obtain ⟨u, h3, h4⟩ := h2
      cases h3
      exact h4
    · rename_i o q
      cases h
      obtain ⟨u, h1, h2⟩ := I.sl j _ q
      rw [er] at h1
      cases h1
      obtain ⟨p, h3, h4, h5, h6⟩ := h2
      cases h3
      refine ⟨p, rfl, h4, h5, h6 rfl, h6 rfl, fun z => ?_⟩
      obtain ⟨i, w, o2, z1, z2⟩ := z
      obtain ⟨p2, a1, a2, a3, a4⟩ := out_m I0 I z1
      rw [get_map_some a1] at z2
      cases z2
      have e := I.ne i j _ _ _ _ p a3 q a2 er
      subst e
      rw [a3] at q
      cases q
      cases a4
    · cases h
end
section
variable {S : Sx} {P : Program} {w : World} {mg : Str → Option Value} {base : Heap} {x qual : Str} {params : Arguments} {body : List Stmt} {scope : Scope} {f : Addr} {fd : FuncData} {N ps : List Str} {k : Nat} {bd : MS}
/-- the body of a def, from its start -/
theorem def_body (Sc : FnScope N ps scope) (hps : ps.length ≤ N.length) {cdv : Value} {A : Around} {outer : List Env} {s : Shared} {H : Hp} {vs : List V} {Q : VK} {E : XK} (hr : Room k (A.deeper (envOfC qual scope s.heap.objs.size f cdv)))
    (hb : ∀ (B : List (Nat × Addr)), Gx (cxOf (L2.CX P w) P w S.K mg base N qual scope f cdv A outer s H E) ⟨S, H, B, fun cls d _ H => E cls d H⟩ k →
      PFs (cxOf (L2.CX P w) P w S.K mg base N qual scope f cdv A outer s H E) ⟨S, H, B, fun cls d _ H => E cls d H⟩ bd body) (h : spF S ps.length (mkFn N.length bd) vs H Q E) :
    ∃ t, PSs (cxOf (L2.CX P w) P w S.K mg base N qual scope f cdv A outer s H E) body t ∧ t { nx := fun _ H' => Q .non H', rt := Q } (start N vs) H := by
  obtain ⟨F0, args, hl, I0, hw, hm⟩ := h
  have hla : vs.length = args.length := by
    have := I0.len
    rw [List.length_map] at this
    exact this
  refine ⟨_, hb (borF 0 args vs) ⟨rfl, Sc.nd, PassesOwn.leaving, takes_of rfl rfl rfl rfl, hr, rfl⟩, F0, args ++ List.replicate (N.length - args.length) .un, ?_, ?_⟩
  · refine ⟨I0.ext, I0.z, ?_, fun i s hi => ?_, fun i j w w' o o' p h1 h2 h3 h4 => ?_, fun q h => h, fun y hy => ?_⟩
    · unfold L2.start
      rw [List.length_append, List.length_append, List.length_map, List.length_replicate, List.length_replicate, hla]
    · unfold L2.start
      by_cases hlt : i < args.length
      · rw [List.getElem?_append_left hlt] at hi
        obtain ⟨v, h1, h2⟩ := I0.sl i s hi
        refine ⟨v, by rw [List.getElem?_append_left (by rw [List.length_map, hla]; exact hlt)]; exact h1, ?_⟩
        cases s with
        | un => trivial
        | d x => exact h2
        | m w o => exact h2
        | f a => exact h2
      · rw [List.getElem?_append_right (by omega), List.getElem?_replicate] at hi
        split at hi
        · rename_i h3
          cases hi
          refine ⟨none, ?_, trivial⟩
          rw [List.getElem?_append_right (by rw [List.length_map]; omega), List.getElem?_replicate, if_pos (by rw [List.length_map]; omega)]
        · cases hi
    · have hin : ∀ {i : Nat} {w : Bool} {o : Ob}, (args ++ List.replicate (N.length - args.length) Sl.un)[i]? = some (.m w o) → i < args.length ∧ args[i]? = some (.m w o) := fun {i w o} h => by
        by_cases hlt : i < args.length
        · rw [List.getElem?_append_left hlt] at h
          exact ⟨hlt, h⟩
        · rw [List.getElem?_append_right (by omega), List.getElem?_replicate] at h
          split at h <;> cases h
      obtain ⟨a1, a2⟩ := hin h1
      obtain ⟨b1, b2⟩ := hin h2
      unfold L2.start at h3 h4
      rw [List.getElem?_append_left (by rw [List.length_map, hla]; exact a1)] at h3
      rw [List.getElem?_append_left (by rw [List.length_map, hla]; exact b1)] at h4
      exact I0.ne i j w w' o o' p a2 b2 h3 h4
    · obtain ⟨j, w, o, h1, h2, h3⟩ := borF_mem hy
      rw [Nat.zero_add] at h1
      rw [h1]
      have hlt := lt_of_get h2
      have e := hw j w o h2
      subst e
      unfold L2.start
      exact ⟨by rw [List.getElem?_append_left (by rw [List.length_map, hla]; exact hlt)]; exact get_map_some h3, o, by rw [List.getElem?_append_left hlt]; exact h2⟩
  · have hm2 : (match (match bd (args ++ List.replicate (N.length - args.length) .un) with
      | some (.nx e) => some (Fo.rt (.val .none) (outs args e))
      | some (.rt r e) => match expR r e with
        | some r' => some (.rt r' (outs args e))
        | none => none
      | some (.ex c e) => some (.ex c (outs args e))
      | _ => none) with
      | none => False
      | some (.rt r out) => ∀ v F' H', IV (Bx.out S H) F' H' (vs.map some) out → Gr (vs.map some) args F0 H (vs.map some) out F' H' → Er (Bx.out S H) H F' H' (vs.map some) out v r → Q v H'
      | some (.ex c out) => ∀ F' H', IV (Bx.out S H) F' H' (vs.map some) out → Gr (vs.map some) args F0 H (vs.map some) out F' H' → E (.ref (S.cl c)) none H') := hm
    clear hm
    have ends : ∀ {σ' : St} {env' : En} {F' H' : Hp}, IV ⟨S, H, borF 0 args vs, fun cls d _ H => E cls d H⟩ F' H' σ' env' → Gr (L2.start N vs) (args ++ List.replicate (N.length - args.length) .un) F0 H σ' env' F' H' →
        IV (Bx.out S H) F' H' (vs.map some) (outs args env') ∧ Gr (vs.map some) args F0 H (vs.map some) (outs args env') F' H' := fun {σ' env' F' H'} I g => by
      refine body_end hla I0 I ?_ g
      rw [g.l, List.length_append]
      omega
    revert hm2
    cases q : bd (args ++ List.replicate (N.length - args.length) .un) with
    | none => exact fun z => z
    | some o =>
      cases o with
      | nx e =>
        intro hm2 σ' F' H' I g
        obtain ⟨I', g'⟩ := ends I g
        exact hm2 .non F' H' I' g' Rep.non
      | rt r e =>
        intro hm2 v σ' F' H' I g er
        obtain ⟨I', g'⟩ := ends I g
        cases q2 : expR r e with
        | none =>
          have hm3 : (match (match expR r e with
            | some r' => some (Fo.rt r' (outs args e))
            | none => none) with
            | none => False
            | some (.rt r out) => ∀ v F' H', IV (Bx.out S H) F' H' (vs.map some) out → Gr (vs.map some) args F0 H (vs.map some) out F' H' → Er (Bx.out S H) H F' H' (vs.map some) out v r → Q v H'
            | some (.ex c out) => ∀ F' H', IV (Bx.out S H) F' H' (vs.map some) out → Gr (vs.map some) args F0 H (vs.map some) out F' H' → E (.ref (S.cl c)) none H') := hm2
          rw [q2] at hm3
          exact hm3.elim
        | some r' =>
          have hm3 : (match (match expR r e with
            | some r' => some (Fo.rt r' (outs args e))
            | none => none) with
            | none => False
            | some (.rt r out) => ∀ v F' H', IV (Bx.out S H) F' H' (vs.map some) out → Gr (vs.map some) args F0 H (vs.map some) out F' H' → Er (Bx.out S H) H F' H' (vs.map some) out v r → Q v H'
            | some (.ex c out) => ∀ F' H', IV (Bx.out S H) F' H' (vs.map some) out → Gr (vs.map some) args F0 H (vs.map some) out F' H' → E (.ref (S.cl c)) none H') := hm2
          rw [q2] at hm3
          exact hm3 v F' H' I' g' (exp_ok I0 I er q2)
      | bk e => exact fun z => z.elim
      | ct e => exact fun z => z.elim
      | ex c e =>
        intro hm2 σ' F' H' I g
        obtain ⟨I', g'⟩ := ends I g
        exact hm2 F' H' I' g'
/-- THE RULE for a def: its body does bd -/
theorem fn_def (F : FunD S.K x qual params body scope [] [] f fd) (Sc : FnScope N ps scope)
    (hb : ∀ (cdv : Value) (A : Around) (outer : List Env) (s : Shared) (H : Hp) (E : XK) (B : List (Nat × Addr)), Gx (cxOf (L2.CX P w) P w S.K mg base N qual scope f cdv A outer s H E) ⟨S, H, B, fun cls d _ H => E cls d H⟩ k →
      PFs (cxOf (L2.CX P w) P w S.K mg base N qual scope f cdv A outer s H E) ⟨S, H, B, fun cls d _ H => E cls d H⟩ bd body) (hps : ps.length ≤ N.length) : FnOk P w S.K mg base (L2.CX P w) (k + 1) f fd ps (spF S ps.length (mkFn N.length bd)) := by
  refine F.ok Sc (fun vs H Q E h => ?_) (fun cdv A outer s H vs Q E hr h => def_body Sc hps hr (hb cdv A outer s H E) h)
  obtain ⟨_, _, h, _⟩ := h
  exact h
end
end Pv
namespace Pv
open PySem PySem.Spec PyProof.Rows L2

/-! ### a call of a def -/
def movedR (r : RD) (mv : List Nat) : Bool := match r with
  | .pl i => mv.contains i
  | _ => false
/-- the arguments as the def gets them, the slots behind it -/
def bindA : List Mo → List RD → List Nat → En → Option (En × En)
  | [], [], _, e => some ([], e)
  | .d :: ms, r :: rs, mv, e => if movedR r mv = true then none else match frzR r e with
    | some (d, e1) => match bindA ms rs mv e1 with
      | some (as, e2) => some (.d d :: as, e2)
      | none => none
    | none => none
  | .m :: ms, r :: rs, mv, e => match r with
    | .pl i => if mv.contains i = true then none else match e[i]? with
      | some (.m _ o) => match bindA ms rs (i :: mv) e with
        | some (as, e2) => some (.m false o :: as, e2)
        | none => none
      | _ => none
    | .own o => match bindA ms rs mv e with
      | some (as, e2) => some (.m false o :: as, e2)
      | none => none
    | _ => none
  | .f :: ms, r :: rs, mv, e => match r with
    | .fn a => match bindA ms rs mv e with
      | some (as, e2) => some (.f a :: as, e2)
      | none => none
    | _ => none
  | _, _, _, _ => none
/-- what was changed goes back to its slots -/
def backA : List Mo → List RD → En → En → Option En
  | [], [], [], e => some e
  | .m :: ms, .pl i :: rs, .m _ o :: out, e => match e[i]? with
    | some (.m w _) => backA ms rs out (e.set i (.m w o))
    | _ => none
  | .m :: ms, .own _ :: rs, .m _ _ :: out, e => backA ms rs out e
  | .d :: ms, _ :: rs, _ :: out, e => backA ms rs out e
  | .f :: ms, _ :: rs, _ :: out, e => backA ms rs out e
  | _, _, _, _ => none
def isPl : RD → Bool
  | .pl _ => true
  | _ => false
def fFun (ms : List Mo) (g : Fn) (fs : List (M RD)) : M RD := fun e => bnd (fArgs fs e) fun rs e1 => match bindA ms rs [] e1 with
  | none => none
  | some (args, e2) => match g args with
    | none => none
    | some (.rt r out) => if isPl r = true then none else match backA ms rs out e2 with
      | some e3 => some (.ok r e3)
      | none => none
    | some (.ex c out) => match backA ms rs out e2 with
      | some e3 => some (.ex c e3)
      | none => none
section
variable {b : Bx} {F F0 F1 F' H H1 H' Hs : Hp} {σ σ0 σ' : St} {env env0 env1 env' : En} {Q : VK}
/-- how an argument stands for its value; what is to be changed lies in a slot, or is new -/
def ArgI (b : Bx) (Hs F H : Hp) (σ : St) (env : En) (mv : List Nat) (v : V) (r : RD) : Sl → Prop
  | .un => False
  | .d x => Rep b.K F v x
  | .f a => v = .ref a
  | .m w o => w = false ∧ ∃ p, v = .ref p ∧ F p = none ∧ RepOb b.K F H p o ∧ ((∃ i w, r = .pl i ∧ i ∉ mv ∧ env[i]? = some (.m w o) ∧ σ[i]? = some (some (.ref p))) ∨ (∃ o', r = .own o') ∧ b.H0 p = none ∧ Hs p = none ∧ ¬ Mm σ env p)
inductive Args (b : Bx) (Hs F H : Hp) (σ : St) (env : En) : List Nat → List V → List RD → En → Prop
  | nil {mv : List Nat} : Args b Hs F H σ env mv [] [] []
  | cons {mv : List Nat} {v : V} {r : RD} {s : Sl} {vs : List V} {rs : List RD} {as : En} : ArgI b Hs F H σ env mv v r s → (∀ o, r = .own o → ∀ (i : Nat) (o' : Ob) (u : V), rs[i]? = some (RD.own o') → vs[i]? = some u → u ≠ v) →
      Args b Hs F H σ env (match r, s with | .pl i, .m _ _ => i :: mv | _, _ => mv) vs rs as → Args b Hs F H σ env mv (v :: vs) (r :: rs) (s :: as)
theorem bind_ok : ∀ (ms : List Mo) (rs : List RD) {vs : List V} {mv : List Nat} {F : Hp} {env : En} {as : En}, IV b F H σ env → Gr σ0 env0 F0 Hs σ env F H → Ers b Hs F H σ env vs rs → (∀ i ∈ mv, ∃ w o, env[i]? = some (.m w o)) → bindA ms rs mv env = some (as, env') →
    ∃ F', IV b F' H σ env' ∧ Gr σ0 env0 F0 Hs σ env' F' H ∧ Ex F F' ∧ Args b Hs F' H σ env' mv vs rs as ∧ (∀ i ∈ mv, env'[i]? = env[i]?) ∧
      (∀ Ht u q, Er b Ht F H σ env u q → (∀ o, q = .own o → ∀ (i : Nat) (o' : Ob) (u' : V), rs[i]? = some (RD.own o') → vs[i]? = some u' → u' ≠ u) → Er b Ht F' H σ env' u q)
  | [], [], vs, mv, F, env, as, I, g, er, hm, h => by
    cases er
    cases h
    exact ⟨F, I, g, Ex.refl F, .nil, fun _ _ => rfl, fun _ _ _ z _ => z⟩
  | [], _ :: _, vs, mv, F, env, as, I, g, er, hm, h => by cases h
  | .d :: _, [], vs, mv, F, env, as, I, g, er, hm, h => by cases h
  | .m :: _, [], vs, mv, F, env, as, I, g, er, hm, h => by cases h
  | .f :: _, [], vs, mv, F, env, as, I, g, er, hm, h => by cases h
  | .d :: ms, r :: rs, vs, mv, F, env, as, I, g, er, hm, h => by
    cases er with
    | @cons v _ vs _ e1 e2 e3 =>
    have h : (if movedR r mv = true then none else match frzR r env with
      | some (d, e1) => match bindA ms rs mv e1 with
        | some (as, e2) => some (Sl.d d :: as, e2)
        | none => none
      | none => none) = some (as, env') := h
    by_cases hmv : movedR r mv = true
    · rw [if_pos hmv] at h; cases h
    · rw [if_neg hmv] at h
      cases q : frzR r env with
      | none => rw [q] at h; cases h
      | some z =>
        obtain ⟨d, e4⟩ := z
        rw [q] at h
        have h : (match bindA ms rs mv e4 with
          | some (as, e2) => some (Sl.d d :: as, e2)
          | none => none) = some (as, env') := h
        cases q2 : bindA ms rs mv e4 with
        | none => rw [q2] at h; cases h
        | some z =>
          obtain ⟨as2, e5⟩ := z
          rw [q2] at h
          cases h
          obtain ⟨F1, I1, g1, rp, keep, x1⟩ := frz_ok I g e1 q
          have hk : ∀ i ∈ mv, e4[i]? = env[i]? := fun i hi => by
            rcases frz_env q with z | ⟨j, o, z1, z2, z3⟩
            · rw [z]
            · rw [z3, List.getElem?_set_ne]
              intro e
              subst e z1
              exact hmv (by show mv.contains j = true; exact List.contains_iff_mem.mpr hi)
          have er2 : Ers b Hs F1 H σ e4 vs rs := by
            have gen : ∀ {vs : List V} {rs : List RD}, Ers b Hs F H σ env vs rs → (∀ o, r = .own o → ∀ (i : Nat) (o' : Ob) (u : V), rs[i]? = some (RD.own o') → vs[i]? = some u → u ≠ v) → Ers b Hs F1 H σ e4 vs rs := fun {vs rs} h => by
              induction h with
              | nil => exact fun _ => .nil
              | @cons v2 r2 vs2 rs2 a c t ih =>
                intro n
                refine .cons (keep Hs v2 r2 a fun o o' h1 h2 => n o' h2 0 o v2 (by rw [h1]; rfl) rfl) c (ih fun o ho i o' u h1 h2 => n o ho (i + 1) o' u (by simpa using h1) (by simpa using h2))
            exact gen e3 e2
          obtain ⟨F2, I2, g2, x2, A, k2, keep2⟩ := bind_ok ms rs I1 g1 er2 (fun i hi => by rw [hk i hi]; exact hm i hi) q2
          refine ⟨F2, I2, g2, x1.trans x2, .cons (s := .d d) (rp.mono x2) e2 (by cases r <;> exact A), fun i hi => (k2 i hi).trans (hk i hi), fun Ht u q a n => ?_⟩
          exact keep2 Ht u q (keep Ht u q a fun o o' h1 h2 => fun z => n o h1 0 o' v (by rw [h2]; rfl) rfl z.symm) fun o ho i o' u' h1 h2 => n o ho (i + 1) o' u' (by simpa using h1) (by simpa using h2)
  | .f :: ms, r :: rs, vs, mv, F, env, as, I, g, er, hm, h => by
    cases er with
    | @cons v _ vs _ e1 e2 e3 =>
    cases r with
    | fn a =>
      have h : (match bindA ms rs mv env with
        | some (as, e2) => some (Sl.f a :: as, e2)
        | none => none) = some (as, env') := h
      cases q2 : bindA ms rs mv env with
      | none => rw [q2] at h; cases h
      | some z =>
        obtain ⟨as2, e5⟩ := z
        rw [q2] at h
        cases h
        obtain ⟨F2, I2, g2, x2, A, k2, keep2⟩ := bind_ok ms rs I g e3 hm q2
        exact ⟨F2, I2, g2, x2, .cons (s := .f a) e1 e2 A, k2, fun Ht u q a n => keep2 Ht u q a fun o ho i o' u' h1 h2 => n o ho (i + 1) o' u' (by simpa using h1) (by simpa using h2)⟩
    | _ => cases h
  | .m :: ms, r :: rs, vs, mv, F, env, as, I, g, er, hm, h => by
    cases er with
    | @cons v _ vs _ e1 e2 e3 =>
    cases r with
    | val _ => cases h
    | fn _ => cases h
    | own o =>
      have h : (match bindA ms rs mv env with
        | some (as, e2) => some (Sl.m false o :: as, e2)
        | none => none) = some (as, env') := h
      cases q2 : bindA ms rs mv env with
      | none => rw [q2] at h; cases h
      | some z =>
        obtain ⟨as2, e5⟩ := z
        rw [q2] at h
        cases h
        obtain ⟨F2, I2, g2, x2, A, k2, keep2⟩ := bind_ok ms rs I g e3 hm q2
        have er' := keep2 Hs v (.own o) e1 fun o' ho i o2 u' h1 h2 => e2 o rfl i o2 u' h1 h2
        obtain ⟨p, p1, p2, p3, p4, p5, p6⟩ := er'
        exact ⟨F2, I2, g2, x2, .cons (s := .m false o) ⟨rfl, p, p1, p2, p3, .inr ⟨⟨o, rfl⟩, p4, p5, p6⟩⟩ e2 A, k2, fun Ht u q a n => keep2 Ht u q a fun o ho i o' u' h1 h2 => n o ho (i + 1) o' u' (by simpa using h1) (by simpa using h2)⟩
    | pl j =>
      have h : (if mv.contains j = true then none else match env[j]? with
        | some (.m _ o) => match bindA ms rs (j :: mv) env with
          | some (as, e2) => some (Sl.m false o :: as, e2)
          | none => none
        | _ => none) = some (as, env') := h
      by_cases hmv : mv.contains j = true
      · rw [if_pos hmv] at h; cases h
      · rw [if_neg hmv] at h
        split at h
        · rename_i w o hj
          cases q2 : bindA ms rs (j :: mv) env with
          | none => rw [q2] at h; cases h
          | some z =>
            obtain ⟨as2, e5⟩ := z
            rw [q2] at h
            cases h
            obtain ⟨F2, I2, g2, x2, A, k2, keep2⟩ := bind_ok ms rs I g e3 (fun i hi => by
              rcases List.mem_cons.mp hi with e | e
              · rw [e]; exact ⟨w, o, hj⟩
              · exact hm i e) q2
            have hj2 := (k2 j List.mem_cons_self).trans hj
            have e1' : σ[j]? = some (some v) := e1
            obtain ⟨u, h1, h2⟩ := I2.sl j _ hj2
            rw [e1'] at h1
            cases h1
            obtain ⟨p, p1, p2, p3, p4⟩ := h2
            cases p1
            exact ⟨F2, I2, g2, x2, .cons (s := .m false o) ⟨rfl, p, rfl, p2, p3, .inl ⟨j, w, rfl, fun z => hmv (List.contains_iff_mem.mpr z), hj2, e1'⟩⟩ e2 A, fun i hi => k2 i (List.mem_cons_of_mem _ hi), fun Ht u q a n => keep2 Ht u q a fun o ho i o' u' h1 h2 => n o ho (i + 1) o' u' (by simpa using h1) (by simpa using h2)⟩
        · cases h
end
end Pv
namespace Pv
open PySem PySem.Spec PyProof.Rows L2
section
variable {b : Bx} {F F0 F1 F' H H1 H' Hs : Hp} {σ σ0 σ' : St} {env env0 env1 env' : En} {Q : VK}
theorem Args.get {mv : List Nat} {vs : List V} {rs : List RD} {as : En} (A : Args b Hs F H σ env mv vs rs as) : ∀ {k : Nat} {s : Sl}, as[k]? = some s → ∃ v r mv', vs[k]? = some v ∧ rs[k]? = some r ∧ (∀ i ∈ mv, i ∈ mv') ∧ ArgI b Hs F H σ env mv' v r s := by
  induction A with
  | nil => intro k s h; simp at h
  | @cons mv v r s vs rs as a n t ih =>
    intro k s' h
    cases k with
    | zero =>
      simp at h
      subst h
      exact ⟨v, r, mv, rfl, rfl, fun _ h => h, a⟩
    | succ k =>
      obtain ⟨v2, r2, mv2, h1, h2, h3, h4⟩ := ih (k := k) (s := s') (by simpa using h)
      refine ⟨v2, r2, mv2, by simpa using h1, by simpa using h2, fun i hi => h3 i ?_, h4⟩
      cases r <;> cases s <;> first | exact hi | exact List.mem_cons_of_mem _ hi
theorem Args.len {mv : List Nat} {vs : List V} {rs : List RD} {as : En} (A : Args b Hs F H σ env mv vs rs as) : vs.length = as.length ∧ rs.length = as.length := by
  induction A with
  | nil => exact ⟨rfl, rfl⟩
  | cons a n t ih => exact ⟨congrArg Nat.succ ih.1, congrArg Nat.succ ih.2⟩
theorem ArgI.apart (I : IV b F H σ env) {mv mv' : List Nat} {v : V} {r r' : RD} {w w' : Bool} {o o' : Ob} {vs : List V} {rs : List RD} {l : Nat} (h1 : ArgI b Hs F H σ env mv v r (.m w o)) (h2 : ArgI b Hs F H σ env mv' v r' (.m w' o'))
    (hm : ∀ i, r = .pl i → i ∈ mv') (n : ∀ o, r = .own o → ∀ (i : Nat) (o' : Ob) (u : V), rs[i]? = some (RD.own o') → vs[i]? = some u → u ≠ v) (hr : rs[l]? = some r') (hv : vs[l]? = some v) : False := by
  obtain ⟨_, p, p1, p2, p3, p4⟩ := h1
  obtain ⟨_, q, q1, q2, q3, q4⟩ := h2
  rw [p1] at q1
  cases q1
  rcases p4 with ⟨i, w1, e1, e2, e3, e4⟩ | ⟨⟨o1, e1⟩, e2, e3, e4⟩
  · rcases q4 with ⟨j, w2, f1, f2, f3, f4⟩ | ⟨⟨o2, f1⟩, f2, f3, f4⟩
    · have := I.ne i j _ _ _ _ p e3 f3 e4 f4
      subst this
      exact f2 (hm i e1)
    · exact f4 ⟨i, w1, o, e3, e4⟩
  · rcases q4 with ⟨j, w2, f1, f2, f3, f4⟩ | ⟨⟨o2, f1⟩, f2, f3, f4⟩
    · exact e4 ⟨j, w2, o', f3, f4⟩
    · exact n o1 e1 l o2 v (by rw [hr, f1]) hv rfl
theorem Args.ne (I : IV b F H σ env) {mv : List Nat} {vs : List V} {rs : List RD} {as : En} (A : Args b Hs F H σ env mv vs rs as) : ∀ {k l : Nat} {w w' : Bool} {o o' : Ob} {v : V}, as[k]? = some (.m w o) → as[l]? = some (.m w' o') → vs[k]? = some v → vs[l]? = some v → k = l := by
  induction A with
  | nil => intro k l w w' o o' v h; simp at h
  | @cons mv v r s vs rs as a n t ih =>
    have zs : ∀ {l : Nat} {w w' : Bool} {o o' : Ob}, s = .m w o → as[l]? = some (.m w' o') → vs[l]? = some v → False := fun {l w w' o o'} h1 h2 h3 => by
      subst h1
      obtain ⟨v2, r2, mv2, g1, g2, g3, g4⟩ := t.get h2
      rw [h3] at g1
      cases g1
      refine ArgI.apart I a g4 (fun i hi => ?_) n g2 h3
      subst hi
      exact g3 i List.mem_cons_self
    intro k l w w' o o' u h1 h2 h3 h4
    cases k with
    | zero =>
      cases l with
      | zero => rfl
      | succ l =>
        simp at h1 h3
        subst h3
        exact (zs h1 (by simpa using h2) (by simpa using h4)).elim
    | succ k =>
      cases l with
      | zero =>
        simp at h2 h4
        subst h4
        exact (zs h2 (by simpa using h1) (by simpa using h3)).elim
      | succ l => exact congrArg Nat.succ (ih (by simpa using h1) (by simpa using h2) (by simpa using h3) (by simpa using h4))
/-- what the def gets -/
theorem Args.iv (I : IV b F H σ env) {vs : List V} {rs : List RD} {as : En} (A : Args b Hs F H σ env [] vs rs as) : IV (Bx.out b.toSx H) F H (vs.map some) as ∧ ∀ (i : Nat) (w : Bool) (o : Ob), as[i]? = some (.m w o) → w = false := by
  refine ⟨⟨I.ext, I.z, by rw [List.length_map]; exact A.len.1, fun i s h => ?_, fun i j w w' o o' p h1 h2 h3 h4 => ?_, fun q h => h, fun x hx => by cases hx⟩, fun i w o h => ?_⟩
  · obtain ⟨v, r, mv, h1, h2, h3, h4⟩ := A.get h
    refine ⟨some v, get_map_some h1, ?_⟩
    cases s with
    | un => exact h4.elim
    | d x => exact ⟨v, rfl, h4⟩
    | f a => exact congrArg some h4
    | m w o =>
      obtain ⟨e, p, p1, p2, p3, _⟩ := h4
      exact ⟨p, congrArg some p1, p2, p3, fun z => by rw [e] at z; cases z⟩
  · obtain ⟨u, e, h5⟩ := map_some_get h3
    cases e
    obtain ⟨u, e, h6⟩ := map_some_get h4
    cases e
    exact Args.ne I A h1 h2 h5 h6
  · obtain ⟨v, r, mv, h1, h2, h3, h4⟩ := A.get h
    exact h4.1
theorem bind_ms : ∀ (ms : List Mo) (rs : List RD) {mv : List Nat} {env env' as : En}, bindA ms rs mv env = some (as, env') → ∀ {k : Nat} {w : Bool} {o : Ob}, as[k]? = some (.m w o) → ms[k]? = some .m
  | [], [], mv, env, env', as, h, k, w, o, hk => by cases h; simp at hk
  | [], _ :: _, mv, env, env', as, h, k, w, o, hk => by cases h
  | .d :: _, [], mv, env, env', as, h, k, w, o, hk => by cases h
  | .m :: _, [], mv, env, env', as, h, k, w, o, hk => by cases h
  | .f :: _, [], mv, env, env', as, h, k, w, o, hk => by cases h
  | .d :: ms, r :: rs, mv, env, env', as, h, k, w, o, hk => by
    have h : (if movedR r mv = true then none else match frzR r env with
      | some (d, e1) => match bindA ms rs mv e1 with
        | some (as, e2) => some (Sl.d d :: as, e2)
        | none => none
      | none => none) = some (as, env') := h
    split at h
    · cases h
    · split at h
      · split at h
        · rename_i q
          cases h
          cases k with
          | zero => simp at hk
          | succ k => exact (by simpa using bind_ms ms rs q (k := k) (w := w) (o := o) (by simpa using hk))
        · cases h
      · cases h
  | .f :: ms, r :: rs, mv, env, env', as, h, k, w, o, hk => by
    cases r with
    | fn a =>
      have h : (match bindA ms rs mv env with
        | some (as, e2) => some (Sl.f a :: as, e2)
        | none => none) = some (as, env') := h
      split at h
      · rename_i q
        cases h
        cases k with
        | zero => simp at hk
        | succ k => exact (by simpa using bind_ms ms rs q (k := k) (w := w) (o := o) (by simpa using hk))
      · cases h
    | _ => cases h
  | .m :: ms, r :: rs, mv, env, env', as, h, k, w, o, hk => by
    cases k with
    | zero => rfl
    | succ k =>
      cases r with
      | own o' =>
        have h : (match bindA ms rs mv env with
          | some (as, e2) => some (Sl.m false o' :: as, e2)
          | none => none) = some (as, env') := h
        split at h
        · rename_i q
          cases h
          exact (by simpa using bind_ms ms rs q (k := k) (w := w) (o := o) (by simpa using hk))
        · cases h
      | pl j =>
        have h : (if mv.contains j = true then none else match env[j]? with
          | some (.m _ o) => match bindA ms rs (j :: mv) env with
            | some (as, e2) => some (Sl.m false o :: as, e2)
            | none => none
          | _ => none) = some (as, env') := h
        split at h
        · cases h
        · split at h
          · split at h
            · rename_i q
              cases h
              exact (by simpa using bind_ms ms rs q (k := k) (w := w) (o := o) (by simpa using hk))
            · cases h
          · cases h
      | _ => cases h
theorem bind_len : ∀ (ms : List Mo) (rs : List RD) {mv : List Nat} {env env' as : En}, bindA ms rs mv env = some (as, env') → as.length = ms.length
  | [], [], mv, env, env', as, h => by cases h; rfl
  | [], _ :: _, mv, env, env', as, h => by cases h
  | .d :: _, [], mv, env, env', as, h => by cases h
  | .m :: _, [], mv, env, env', as, h => by cases h
  | .f :: _, [], mv, env, env', as, h => by cases h
  | .d :: ms, r :: rs, mv, env, env', as, h => by
    have h : (if movedR r mv = true then none else match frzR r env with
      | some (d, e1) => match bindA ms rs mv e1 with
        | some (as, e2) => some (Sl.d d :: as, e2)
        | none => none
      | none => none) = some (as, env') := h
    split at h
    · cases h
    · split at h
      · split at h
        · rename_i q
          cases h
          exact congrArg Nat.succ (bind_len ms rs q)
        · cases h
      · cases h
  | .f :: ms, r :: rs, mv, env, env', as, h => by
    cases r with
    | fn a =>
      have h : (match bindA ms rs mv env with
        | some (as, e2) => some (Sl.f a :: as, e2)
        | none => none) = some (as, env') := h
      split at h
      · rename_i q
        cases h
        exact congrArg Nat.succ (bind_len ms rs q)
      · cases h
    | _ => cases h
  | .m :: ms, r :: rs, mv, env, env', as, h => by
    cases r with
    | own o' =>
      have h : (match bindA ms rs mv env with
        | some (as, e2) => some (Sl.m false o' :: as, e2)
        | none => none) = some (as, env') := h
      split at h
      · rename_i q
        cases h
        exact congrArg Nat.succ (bind_len ms rs q)
      · cases h
    | pl j =>
      have h : (if mv.contains j = true then none else match env[j]? with
        | some (.m _ o) => match bindA ms rs (j :: mv) env with
          | some (as, e2) => some (Sl.m false o :: as, e2)
          | none => none
        | _ => none) = some (as, env') := h
      split at h
      · cases h
      · split at h
        · split at h
          · rename_i q
            cases h
            exact congrArg Nat.succ (bind_len ms rs q)
          · cases h
        · cases h
    | _ => cases h
theorem bind_ms2 : ∀ (ms : List Mo) (rs : List RD) {mv : List Nat} {env env' as : En}, bindA ms rs mv env = some (as, env') → ∀ {k : Nat}, ms[k]? = some Mo.m → ∃ o, as[k]? = some (.m false o)
  | [], [], mv, env, env', as, h, k, hk => by simp at hk
  | [], _ :: _, mv, env, env', as, h, k, hk => by cases h
  | .d :: _, [], mv, env, env', as, h, k, hk => by cases h
  | .m :: _, [], mv, env, env', as, h, k, hk => by cases h
  | .f :: _, [], mv, env, env', as, h, k, hk => by cases h
  | .d :: ms, r :: rs, mv, env, env', as, h, k, hk => by
    have h : (if movedR r mv = true then none else match frzR r env with
      | some (d, e1) => match bindA ms rs mv e1 with
        | some (as, e2) => some (Sl.d d :: as, e2)
        | none => none
      | none => none) = some (as, env') := h
    split at h
    · cases h
    · split at h
      · split at h
        · rename_i q
          cases h
          cases k with
          | zero => simp at hk
          | succ k => exact (by simpa using bind_ms2 ms rs q (k := k) (by simpa using hk))
        · cases h
      · cases h
  | .f :: ms, r :: rs, mv, env, env', as, h, k, hk => by
    cases r with
    | fn a =>
      have h : (match bindA ms rs mv env with
        | some (as, e2) => some (Sl.f a :: as, e2)
        | none => none) = some (as, env') := h
      split at h
      · rename_i q
        cases h
        cases k with
        | zero => simp at hk
        | succ k => exact (by simpa using bind_ms2 ms rs q (k := k) (by simpa using hk))
      · cases h
    | _ => cases h
  | .m :: ms, r :: rs, mv, env, env', as, h, k, hk => by
    cases r with
    | own o' =>
      have h : (match bindA ms rs mv env with
        | some (as, e2) => some (Sl.m false o' :: as, e2)
        | none => none) = some (as, env') := h
      split at h
      · rename_i q
        cases h
        cases k with
        | zero => exact ⟨o', rfl⟩
        | succ k => exact (by simpa using bind_ms2 ms rs q (k := k) (by simpa using hk))
      · cases h
    | pl j =>
      have h : (if mv.contains j = true then none else match env[j]? with
        | some (.m _ o) => match bindA ms rs (j :: mv) env with
          | some (as, e2) => some (Sl.m false o :: as, e2)
          | none => none
        | _ => none) = some (as, env') := h
      split at h
      · cases h
      · split at h
        · split at h
          · rename_i q
            cases h
            cases k with
            | zero => exact ⟨_, rfl⟩
            | succ k => exact (by simpa using bind_ms2 ms rs q (k := k) (by simpa using hk))
          · cases h
        · cases h
    | _ => cases h
theorem back_char : ∀ (ms : List Mo) (rs : List RD) (out : En) {e e3 : En}, backA ms rs out e = some e3 → e3.length = e.length ∧
    (∀ (j : Nat) (s : Sl), e3[j]? = some s → (e[j]? = some s ∧ ∀ k : Nat, ms[k]? = some Mo.m → rs[k]? = some (RD.pl j) → False) ∨ ∃ (k : Nat) (w w' : Bool) (o o0 : Ob), ms[k]? = some Mo.m ∧ rs[k]? = some (RD.pl j) ∧ out[k]? = some (Sl.m w' o) ∧ e[j]? = some (Sl.m w o0) ∧ s = Sl.m w o) ∧
    (∀ (j : Nat) (w : Bool) (o : Ob), e[j]? = some (Sl.m w o) → ∃ o', e3[j]? = some (Sl.m w o')) := by
  intro ms
  induction ms with
  | nil =>
    intro rs out e e3 h
    cases rs with
    | cons r rs => cases h
    | nil =>
      cases out with
      | cons s out => cases h
      | nil =>
        cases h
        exact ⟨rfl, fun j s h => .inl ⟨h, fun k h => by simp at h⟩, fun j w o h => ⟨o, h⟩⟩
  | cons m ms ih =>
    intro rs out e e3 h
    have skip : ∀ {r : RD} {rs : List RD} {s : Sl} {out : En}, (m = Mo.m → ∀ j, r ≠ RD.pl j) → backA ms rs out e = some e3 → e3.length = e.length ∧
        (∀ (j : Nat) (s' : Sl), e3[j]? = some s' → (e[j]? = some s' ∧ ∀ k : Nat, (m :: ms)[k]? = some Mo.m → (r :: rs)[k]? = some (RD.pl j) → False) ∨ ∃ (k : Nat) (w w' : Bool) (o o0 : Ob), (m :: ms)[k]? = some Mo.m ∧ (r :: rs)[k]? = some (RD.pl j) ∧ (s :: out)[k]? = some (Sl.m w' o) ∧ e[j]? = some (Sl.m w o0) ∧ s' = Sl.m w o) ∧
        (∀ (j : Nat) (w : Bool) (o : Ob), e[j]? = some (Sl.m w o) → ∃ o', e3[j]? = some (Sl.m w o')) := fun {r rs s out} hn h => by
      obtain ⟨a1, a2, a3⟩ := ih rs out h
      refine ⟨a1, fun j s' hj => ?_, a3⟩
      rcases a2 j s' hj with ⟨b1, b2⟩ | ⟨k, w, w', o, o0, b1, b2, b3, b4, b5⟩
      · refine .inl ⟨b1, fun k h1 h2 => ?_⟩
        cases k with
        | zero =>
          simp at h1 h2
          exact hn h1 j h2
        | succ k => exact b2 k (by simpa using h1) (by simpa using h2)
      · exact .inr ⟨k + 1, w, w', o, o0, by simpa using b1, by simpa using b2, by simpa using b3, b4, b5⟩
    cases rs with
    | nil => cases m <;> cases h
    | cons r rs =>
      cases out with
      | nil => cases m <;> cases r <;> cases h
      | cons s out =>
        cases m with
        | d => exact skip (fun z => by cases z) h
        | f => exact skip (fun z => by cases z) h
        | m =>
          cases r with
          | val _ => cases s <;> cases h
          | fn _ => cases s <;> cases h
          | own o =>
            cases s with
            | m w o => exact skip (fun _ j z => by cases z) h
            | _ => cases h
          | pl i =>
            cases s with
            | m w' o =>
              have h : (match e[i]? with
                | some (.m w _) => backA ms rs out (e.set i (.m w o))
                | _ => none) = some e3 := h
              split at h
              · rename_i w o0 hi
                obtain ⟨a1, a2, a3⟩ := ih rs out h
                refine ⟨a1.trans (List.length_set ..), fun j s' hj => ?_, fun j w1 o1 hj => ?_⟩
                · rcases a2 j s' hj with ⟨b1, b2⟩ | ⟨k, w1, w2, o1, o2, b1, b2, b3, b4, b5⟩
                  · rcases getE_set b1 with ⟨c1, c2, _⟩ | ⟨c1, c2⟩
                    · subst c1 c2
                      exact .inr ⟨0, w, w', o, o0, rfl, rfl, rfl, hi, rfl⟩
                    · refine .inl ⟨c2, fun k h1 h2 => ?_⟩
                      cases k with
                      | zero =>
                        simp at h2
                        exact c1 h2
                      | succ k => exact b2 k (by simpa using h1) (by simpa using h2)
                  · rcases getE_set b4 with ⟨c1, c2, _⟩ | ⟨c1, c2⟩
                    · subst c1
                      cases c2
                      exact .inr ⟨k + 1, w, w2, o1, o0, by simpa using b1, by simpa using b2, by simpa using b3, hi, b5⟩
                    · exact .inr ⟨k + 1, w1, w2, o1, o2, by simpa using b1, by simpa using b2, by simpa using b3, c2, b5⟩
                · by_cases e1 : i = j
                  · subst e1
                    rw [hi] at hj
                    cases hj
                    exact a3 i w o (set_get hi)
                  · exact a3 j w1 o1 (by rw [List.getElem?_set_ne e1]; exact hj)
              · cases h
            | _ => cases h
/-- the call's end, in the caller -/
theorem back_ok {ms : List Mo} {vs : List V} {rs : List RD} {as out : En} {e3 : En} {F2 H2 : Hp} (I : IV b F H σ env) (g : Gr σ0 env0 F0 Hs σ env F H) (A : Args b Hs F H σ env [] vs rs as) (hms : ∀ {k : Nat} {w : Bool} {o : Ob}, as[k]? = some (.m w o) → ms[k]? = some .m) (hms2 : ∀ {k : Nat}, ms[k]? = some Mo.m → ∃ o, as[k]? = some (.m false o))
    (I2 : IV (Bx.out b.toSx H) F2 H2 (vs.map some) out) (g2 : Gr (vs.map some) as F H (vs.map some) out F2 H2) (hb : backA ms rs out env = some e3) :
    IV b F2 H2 σ e3 ∧ Gr σ0 env0 F0 Hs σ e3 F2 H2 ∧ (∀ v r, Er (Bx.out b.toSx H) H F2 H2 (vs.map some) out v r → (∀ i, r ≠ .pl i) → Er b Hs F2 H2 σ e3 v r) := by
  obtain ⟨l3, c1, c2⟩ := back_char ms rs out hb
  -- the places of what was handed in to be changed
  have mmA : ∀ {q : Addr}, Mm (vs.map some) as q → (Mm σ env q ∧ ∃ (k i : Nat) (w : Bool) (o : Ob), rs[k]? = some (.pl i) ∧ ms[k]? = some .m ∧ env[i]? = some (.m w o) ∧ σ[i]? = some (some (.ref q))) ∨ (Hs q = none ∧ ¬ Mm σ env q) := fun {q} h => by
    obtain ⟨k, w, o, h1, h2⟩ := h
    obtain ⟨v, r, mv, e1, e2, e3, e4⟩ := A.get h1
    obtain ⟨_, p, p1, p2, p3, p4⟩ := e4
    rw [get_map_some e1] at h2
    cases h2
    cases p1
    rcases p4 with ⟨i, w1, f1, f2, f3, f4⟩ | ⟨⟨o1, f1⟩, f2, f3, f4⟩
    · exact .inl ⟨⟨i, w1, o, f3, f4⟩, k, i, w1, o, by rw [e2, f1], hms h1, f3, f4⟩
    · exact .inr ⟨f3, f4⟩
  have mm3 : ∀ {q : Addr}, Mm σ e3 q → Mm σ env q := fun {q} h => by
    obtain ⟨j, w, o, h1, h2⟩ := h
    rcases c1 j _ h1 with ⟨d1, _⟩ | ⟨k, w1, w2, o1, o0, d1, d2, d3, d4, d5⟩
    · exact ⟨j, w, o, d1, h2⟩
    · cases d5
      exact ⟨j, w, o0, d4, h2⟩
  have I3 : IV b F2 H2 σ e3 := by
    refine ⟨I2.ext, I2.z, by rw [l3]; exact I.len, fun j s hj => ?_, fun i j w w' o o' p h1 h2 h3 h4 => ?_, fun q h => I.h0 q (g2.d q h), fun x hx => ?_⟩
    · rcases c1 j s hj with ⟨d1, d2⟩ | ⟨k, w1, w2, o1, o0, d1, d2, d3, d4, d5⟩
      · obtain ⟨v, h1, h2⟩ := I.sl j s d1
        refine ⟨v, h1, h2.mono g2.f fun w q p e1 e2 e4 => ?_⟩
        subst e1 e2
        have hm : Mm σ env p := ⟨j, w, q, d1, h1⟩
        obtain ⟨_, ho, m1, m2, m3⟩ := I.mm hm
        have nA : ¬ Mm (vs.map some) as p := fun z => by
          rcases mmA z with ⟨_, k, i, w3, o3, f1, f2, f3, f4⟩ | ⟨_, z2⟩
          · have := I.ne i j _ _ _ _ p f3 d1 f4 h1
            subst this
            exact d2 k f2 f1
          · exact z2 hm
        exact ⟨fresh_keep g2 e4 m1 nA m2, fun o ho2 => by
          rw [m1] at ho2
          cases ho2
          exact g2.h p _ m1 nA m3⟩
      · subst d5
        obtain ⟨v, h1, h2⟩ := I.sl j _ d4
        obtain ⟨p, p1, p2, p3, p4⟩ := h2
        subst p1
        refine ⟨_, h1, p, rfl, ?_⟩
        obtain ⟨u, q1, q2⟩ := I2.sl k _ d3
        obtain ⟨p', r1, r2, r3, _⟩ := q2
        subst r1
        -- the argument's own value
        have hu : vs[k]? = some (.ref p') := by
          obtain ⟨z, z1, z2⟩ := map_some_get q1
          cases z1
          exact z2
        have hk : k < as.length := by
          rw [← A.len.1]
          exact lt_of_get hu
        obtain ⟨v2, r, mv, a1, a2, a3, a4⟩ := A.get (List.getElem?_eq_getElem hk)
        rw [hu] at a1
        cases a1
        rw [d2] at a2
        cases a2
        have : p' = p := by
          obtain ⟨o5, h5⟩ := hms2 d1
          rw [List.getElem?_eq_getElem hk] at h5
          rw [Option.some.inj h5] at a4
          obtain ⟨_, p3', b1, b2, b3, b4⟩ := a4
          cases b1
          rcases b4 with ⟨i, w4, f1, f2, f3, f4⟩ | ⟨⟨o4, f1⟩, _⟩
          · cases f1
            rw [h1] at f4
            cases f4
            rfl
          · cases f1
        subst this
        exact ⟨r2, r3, p4⟩
    · obtain ⟨o1, h5⟩ : ∃ o1, env[i]? = some (.m w o1) := by
        rcases c1 i _ h1 with ⟨d1, _⟩ | ⟨k, w1, w2, o1, o0, d1, d2, d3, d4, d5⟩
        · exact ⟨o, d1⟩
        · cases d5
          exact ⟨o0, d4⟩
      obtain ⟨o2, h6⟩ : ∃ o1, env[j]? = some (.m w' o1) := by
        rcases c1 j _ h2 with ⟨d1, _⟩ | ⟨k, w1, w2, o1, o0, d1, d2, d3, d4, d5⟩
        · exact ⟨o', d1⟩
        · cases d5
          exact ⟨o0, d4⟩
      exact I.ne i j _ _ _ _ p h5 h6 h3 h4
    · obtain ⟨h1, o, h2⟩ := I.bo x hx
      exact ⟨h1, c2 _ _ _ h2⟩
  refine ⟨I3, ⟨g.f.trans g2.f, fun q h => g.d q (g2.d q h), fun q o hq hm ht => ?_, fun q hq => ?_, fun q hq => g.m q (mm3 hq), l3.trans g.l⟩, fun v r er hr => ?_⟩
  · have h1 := g.h q o hq hm ht
    refine g2.h q o h1 (fun z => ?_) ht
    rcases mmA z with ⟨z1, _⟩ | ⟨z1, _⟩
    · rcases g.m q z1 with z | z
      · exact hm z
      · rw [hq] at z; cases z
    · rw [hq] at z1; cases z1
  · rcases g2.n q hq with z | z | z | ⟨o, z, zm⟩
    · exact g.n q z
    · exact .inr (.inl (g.d q z))
    · rcases mmA z with ⟨z1, _⟩ | ⟨z1, _⟩
      · rcases g.m q z1 with z | z
        · exact .inr (.inr (.inl z))
        · exact .inr (.inl z)
      · exact .inr (.inl z1)
    · cases e : Hs q with
      | none => exact .inr (.inl rfl)
      | some u =>
        by_cases hm : Mm σ0 env0 q
        · exact .inr (.inr (.inl hm))
        · refine .inr (.inr (.inr ⟨u, rfl, ?_⟩))
          cases ht : isTbl u with
          | true => cases u <;> first | rfl | (simp [isTbl] at ht)
          | false =>
            have y := g.h q u e hm ht
            rw [z] at y
            cases y
            exact zm
  · cases r with
    | val d => exact er
    | fn a => exact er
    | pl i => exact absurd rfl (hr i)
    | own o =>
      obtain ⟨p, h1, h2, h3, h4, h5, h6⟩ := er
      exact ⟨p, h1, h2, h3, I.h0 p h4, g.d p h4, fun z => (I.notMm h4) (mm3 z)⟩
end
section
variable {X : Cx} {b : Bx} {k j : Nat} {pos pos' : Pos} {e : Expr} {es : List Expr} {fs : List (M RD)}
/-- a def of the module, by its name: what a call needs -/
structure Df (S : Sx) (P : Program) (w : World) (mg : Str → Option Value) (base : Heap) (k : Nat) (x : Str) (n : Nat) (g : Fn) : Prop where
  ex : ∃ (f : Addr) (fd : FuncData) (ps : List Str), FnOk P w S.K mg base (L2.CX P w) k f fd ps (spF S n g) ∧ mg x = some (.ref f) ∧ PySem.W.keepIn S.K (.ref f) = true ∧ Binds S.K fd ps []
theorem fFun_of {ms : List Mo} {g : Fn} {n : Nat} (hn : n = ms.length) {σ : St} {H : Hp} {Q : VK} (h : tV b (fFun ms g fs) σ H Q) : tCallS (spF b.toSx n g) (WE b.W) (tA b fs) σ H Q := by
  obtain ⟨F, env, I, ok⟩ := h
  have ok : OkV b F H σ env (bnd (fArgs fs env) fun rs e1 => match bindA ms rs [] e1 with
    | none => none
    | some (args, e2) => match g args with
      | none => none
      | some (.rt r out) => if isPl r = true then none else match backA ms rs out e2 with
        | some e3 => some (.ok r e3)
        | none => none
      | some (.ex c out) => match backA ms rs out e2 with
        | some e3 => some (.ex c e3)
        | none => none) Q := ok
  refine ⟨F, env, I, ?_⟩
  cases q : fArgs fs env with
  | none => rw [q] at ok; exact ok.elim
  | some o =>
    rw [q] at ok
    cases o with
    | ex c e => exact ok
    | ok rs e1 =>
      intro vs F1 H1 I1 g1 er
      have ok : OkV b F H σ env (match bindA ms rs [] e1 with
        | none => none
        | some (args, e2) => match g args with
          | none => none
          | some (.rt r out) => if isPl r = true then none else match backA ms rs out e2 with
            | some e3 => some (.ok r e3)
            | none => none
          | some (.ex c out) => match backA ms rs out e2 with
            | some e3 => some (.ex c e3)
            | none => none) Q := ok
      cases q2 : bindA ms rs [] e1 with
      | none => rw [q2] at ok; exact ok.elim
      | some z =>
        obtain ⟨as, e2⟩ := z
        rw [q2] at ok
        have ok : OkV b F H σ env (match g as with
          | none => none
          | some (.rt r out) => if isPl r = true then none else match backA ms rs out e2 with
            | some e3 => some (.ok r e3)
            | none => none
          | some (.ex c out) => match backA ms rs out e2 with
            | some e3 => some (.ex c e3)
            | none => none) Q := ok
        obtain ⟨F2, I2, g2, x2, A, _, _⟩ := bind_ok ms rs I1 g1 er (fun i hi => by cases hi) q2
        obtain ⟨Ia, hw⟩ := Args.iv I2 A
        have hms : ∀ {k : Nat} {w : Bool} {o : Ob}, as[k]? = some (.m w o) → ms[k]? = some .m := fun {k w o} h => bind_ms ms rs q2 h
        have hlen : vs.length = n := by
          rw [A.len.1, hn]
          exact bind_len ms rs q2
        refine ⟨F2, as, hlen, Ia, hw, ?_⟩
        have hms2 : ∀ {k : Nat}, ms[k]? = some Mo.m → ∃ o, as[k]? = some (.m false o) := fun {k} h => bind_ms2 ms rs q2 h
        cases q3 : g as with
        | none => rw [q3] at ok; exact ok.elim
        | some o =>
          rw [q3] at ok
          cases o with
          | rt r out =>
            intro v F3 H3 I3 g3 er3
            have ok : OkV b F H σ env (if isPl r = true then none else match backA ms rs out e2 with
              | some e3 => some (.ok r e3)
              | none => none) Q := ok
            by_cases hp : isPl r = true
            · rw [if_pos hp] at ok; exact ok.elim
            · rw [if_neg hp] at ok
              cases q4 : backA ms rs out e2 with
              | none => rw [q4] at ok; exact ok.elim
              | some e3 =>
                rw [q4] at ok
                obtain ⟨I4, g4, k4⟩ := back_ok I2 g2 A hms hms2 I3 g3 q4
                exact ok v F3 H3 I4 g4 (k4 v r er3 fun i z => hp (by subst z; rfl))
          | ex c out =>
            intro F3 H3 I3 g3
            have ok : OkV b F H σ env (match backA ms rs out e2 with
              | some e3 => some (.ex c e3)
              | none => none) Q := ok
            cases q4 : backA ms rs out e2 with
            | none => rw [q4] at ok; exact ok.elim
            | some e3 =>
              rw [q4] at ok
              obtain ⟨I4, g4, k4⟩ := back_ok I2 g2 A hms hms2 I3 g3 q4
              exact ok F3 H3 I4 g4
theorem pv_fun {x : Str} {p1 : Pos} {ms : List Mo} {n : Nat} {g : Fn} (D : Df b.toSx X.prog X.w X.mg X.base j x n g) (gx : Gx X b k) (ha : PAv X b fs (e :: es)) (hj : j ≤ k := by decide) (hn : n = ms.length := by rfl) (hg : Gl X x := by rfl)
    (hdb : (x == ("__debug__" : Str)) = false := by decide) (he : starEach (e :: es) X.env = (false, eval e X.env) :: starEach es X.env := by rfl) (hpl : (backTo pos (starEach es X.env)).any (·.1) = false := by rfl) :
    PV X b (fFun ms g fs) (.Call (.Name x p1) (e :: es) [] pos) := by
  obtain ⟨f, fd, ps, F, hm, hk, hb⟩ := D.ex
  rw [gx.kk] at F hk hb
  exact PE.imp (pe_callS F (gx.room.mono hj) hg hm hk hb (passAt gx.tk) ha hdb he hpl) fun _ _ _ h => fFun_of hn h
end
end Pv
namespace Pv
open PySem PySem.Spec PyProof.Rows L2

/-! ### over a dict's keys -/
def dctO : HO → Bool
  | .dK _ => true
  | .dT _ => true
  | _ => false
theorem dctO.mob {u : HO} (h : dctO u = true) : mob u = true := by cases u <;> first | rfl | cases h
theorem dctO.mobf {u : HO} {od : Obj} (h : dctO u = true) : Pv.mob (.frz od u) = true := by cases u <;> first | rfl | cases h
theorem dctO.mut {u : HO} (h : dctO u = true) : Mut (some u) := by cases u <;> first | trivial | cases h
theorem dctO.tbl {u : HO} (h : dctO u = true) : isTbl u = false := by cases u <;> first | rfl | cases h
section
variable {b : Bx} {F F0 F1 F2 F' H H1 H2 H' Hs : Hp} {σ σ0 σ' σ2 : St} {env env0 env1 env2 env' : En} {d : Addr} {od : Obj} {u : HO}
theorem ex_lock (x : Ex F H) (h : H d = some u) (hu : dctO u = true) : Ex F (upd H d (.frz od u)) := fun a o e => by
  by_cases q : a = d
  · subst q
    have z := x a o e
    unfold StO at z ⊢
    split at z
    · rcases z with z | ⟨o', z⟩ <;> rw [h] at z <;> cases z <;> first | exact .inr ⟨_, upd_same⟩ | cases hu
    · rcases z with z | ⟨o', z⟩ <;> rw [h] at z <;> cases z <;> first | exact .inr ⟨_, upd_same⟩ | cases hu
    · rcases z with z | ⟨o', z⟩ <;> rw [h] at z <;> cases z <;> first | exact .inr ⟨_, upd_same⟩ | cases hu
    · rcases z with z | ⟨o', z⟩ <;> rw [h] at z <;> cases z <;> first | exact .inr ⟨_, upd_same⟩ | cases hu
    · rw [h] at z; cases z; cases hu
    · rw [h] at z; cases z; cases hu
    · rename_i y1 y2 y3 y4 y5 y6
      rw [h] at z
      cases z
      cases u <;> first | (cases hu; done) | exact absurd rfl (y1 _) | exact absurd rfl (y2 _)
  · exact StO.upd q (x a o e)
/-- no lock of a dict is known as such -/
def cln (F : Hp) : Hp := fun a => match F a with
  | some (.frz _ (.dK k)) => some (.dK k)
  | some (.frz _ (.dT k)) => some (.dT k)
  | o => o
theorem cln_ex : Ex F (cln F) := fun a o e => by
  unfold StO
  split
  · exact .inl (by unfold cln; rw [e])
  · exact .inl (by unfold cln; rw [e])
  · exact .inl (by unfold cln; rw [e])
  · exact .inl (by unfold cln; rw [e])
  · unfold cln; rw [e]
  · unfold cln; rw [e]
  · rename_i y1 y2 y3 y4 y5 y6
    unfold cln
    rw [e]
    split
    · rename_i q; cases q; exact absurd rfl (y3 _ _)
    · rename_i q; cases q; exact absurd rfl (y4 _ _)
    · rfl
theorem cln_ne {q : Addr} (h : cln F q ≠ none) : F q ≠ none := fun z => h (by unfold cln; rw [z])
theorem cln_none {q : Addr} (h : F q = none) : cln F q = none := by unfold cln; rw [h]
theorem cln_of {F : Hp} {a : Addr} {o : HO} (h : cln F a = some o) : F a = some o ∨ ((∃ q k, F a = some (.frz q (.dK k)) ∧ o = .dK k) ∨ ∃ q k, F a = some (.frz q (.dT k)) ∧ o = .dT k) := by
  unfold cln at h
  split at h
  · rename_i q; cases h; exact .inr (.inl ⟨_, _, q, rfl⟩)
  · rename_i q; cases h; exact .inr (.inr ⟨_, _, q, rfl⟩)
  · exact .inl h
theorem ex_unlock (x : Ex F H) (h : H d = some (.frz od u)) (hu : dctO u = true) : Ex (cln F) (upd H d u) := fun a o e => by
  have z : StO H a o := by
    rcases cln_of e with e | ⟨q, k, e', rfl⟩ | ⟨q, k, e', rfl⟩
    · exact x a o e
    · exact (x a _ e' : StO H a (.frz q (.dK k)))
    · exact (x a _ e' : StO H a (.frz q (.dT k)))
  by_cases q : a = d
  · subst q
    unfold StO at z ⊢
    split at z
    · rcases z with z | ⟨o', z⟩ <;> rw [h] at z <;> cases z
      exact .inl upd_same
    · rcases z with z | ⟨o', z⟩ <;> rw [h] at z <;> cases z
      exact .inl upd_same
    · rcases z with z | ⟨o', z⟩ <;> rw [h] at z <;> cases z
      exact .inl upd_same
    · rcases z with z | ⟨o', z⟩ <;> rw [h] at z <;> cases z
      exact .inl upd_same
    · rw [h] at z; cases z
    · rw [h] at z; cases z
    · rename_i y1 y2 y3 y4 y5 y6
      rw [h] at z
      cases z
      cases u <;> first | (cases hu; done) | exact absurd rfl (y3 _ _) | exact absurd rfl (y4 _ _)
  · exact StO.upd q z
theorem IV.lock (I : IV b F H σ env) (hF : F d ≠ none) (h : H d = some u) (hu : dctO u = true) : IV b F (upd H d (.frz od u)) σ env :=
  I.grow (ex_lock I.ext h hu) (Ex.refl F) (b.zm H d u _ I.z h (dctO.mob hu) (dctO.mobf hu)) (fun q z => upd_none z) fun q z => by
    have n : q ≠ d := fun e => hF (e ▸ (I.mm z).1)
    rw [upd_ne n]
    exact ⟨(I.mm z).1, fun _ z => z⟩
theorem IV.unlock (I : IV b F H σ env) (hF : F d ≠ none) (h : H d = some (.frz od u)) (hu : dctO u = true) : IV b (cln F) (upd H d u) σ env :=
  I.grow (ex_unlock I.ext h hu) cln_ex (b.zm H d _ u I.z h (dctO.mobf hu) (dctO.mob hu)) (fun q z => upd_none z) fun q z => by
    have n : q ≠ d := fun e => hF (e ▸ (I.mm z).1)
    rw [upd_ne n]
    exact ⟨cln_none (I.mm z).1, fun _ z => z⟩
theorem Gr.unlock (g : Gr σ env F (upd H d (.frz od u)) σ2 env2 F2 H2) (h : H d = some u) (hF : F d ≠ none) (hu : dctO u = true) : Gr σ env F H σ2 env2 (cln F2) (upd H2 d u) where
  f := g.f.trans cln_ex
  d := fun q z => by
    have z1 := upd_none z
    exact upd_none (g.d q z1)
  h := fun q o e hm ht => by
    by_cases n : q = d
    · subst n
      rw [h] at e
      cases e
      exact upd_same
    · rw [upd_ne n]
      exact g.h q o (by rw [upd_ne n]; exact e) hm ht
  n := fun q z => by
    by_cases n : q = d
    · subst n
      exact .inl hF
    · have y := g.n q (cln_ne z)
      rw [upd_ne n] at y
      exact y
  m := fun q z => by
    rcases g.m q z with y | y
    · exact .inl y
    · exact .inr (upd_none y)
  l := g.l
theorem Er.unlock {v : V} {r : RD} (e : Er b (upd H d (.frz od u)) F2 H2 σ2 env2 v r) : Er b H (cln F2) (upd H2 d u) σ2 env2 v r := by
  cases r with
  | val d => exact Rep.mono cln_ex e
  | pl i => exact e
  | fn a => exact e
  | own o =>
    obtain ⟨p, h1, h2, h3, h4, h5, h6⟩ := e
    have n : p ≠ d := fun z => by
      subst z
      rw [upd_same] at h5
      cases h5
    exact ⟨p, h1, cln_none h2, h3.mono cln_ex (fun o z => by rw [upd_ne n]; exact z), h4, upd_none h5, h6⟩
def kvsAt (i : Nat) (env : En) : Option (List (PyData × PyData) × En) := match env[i]? with
  | some (.d (.dict kvs)) => if isRaw kvs = true then none else some (kvs, env)
  | some (.m true (.dct _ kvs)) => some (kvs, env.set i (.d (.dict kvs)))
  | _ => none
theorem kvsAt_ok {i : Nat} {kvs : List (PyData × PyData)} (I : IV b F H σ env) (h : kvsAt i env = some (kvs, env')) :
    ∃ d F', σ[i]? = some (some (.ref d)) ∧ IV b F' H σ env' ∧ Gr σ env F H σ env' F' H ∧ F' d ≠ none ∧ ((∃ ks, Rd F' d (.dK ks) ∧ RepK b.K F' ks kvs) ∨ ∃ ks, Rd F' d (.dT ks) ∧ RepT b.K F' ks kvs) := by
  unfold kvsAt at h
  split at h
  · rename_i kvs' hx
    by_cases nr : isRaw kvs' = true
    · rw [if_pos nr] at h; cases h
    rw [if_neg nr] at h
    cases h
    obtain ⟨u, h1, v, h2, h3⟩ := I.sl i _ hx
    subst h2
    cases h3 with
    | raw _ _ => exact absurd rfl nr
    | scr _ _ => exact absurd rfl nr
    | dK q r => exact ⟨_, F, h1, I, Gr.refl _ _ _ _, fun z => rd_ne q z rfl, .inl ⟨_, q, r⟩⟩
    | dT q r => exact ⟨_, F, h1, I, Gr.refl _ _ _ _, fun z => rd_ne q z rfl, .inr ⟨_, q, r⟩⟩
  · rename_i t kvs' hx
    cases h
    obtain ⟨u, h1, p, h2, h3, h4, h5⟩ := I.sl i _ hx
    subst h2
    obtain ⟨ho, e1, _, _⟩ := RepOb.obj h4
    refine ⟨p, upd F p ho, h1, I.frzSl hx h1 e1, Gr.frzSl I hx h1, (by rw [upd_same]; intro z; cases z), ?_⟩
    cases t with
    | false =>
      obtain ⟨ks, q, r⟩ := h4
      rw [e1] at q
      cases q
      exact .inl ⟨ks, .inl upd_same, r.mono (Ex.new h3)⟩
    | true =>
      obtain ⟨ks, q, r⟩ := h4
      rw [e1] at q
      cases q
      exact .inr ⟨ks, .inl upd_same, r.mono (Ex.new h3)⟩
  · cases h
theorem RepK.get' {K : PySem.W.Frag} {F : Hp} : ∀ {vs : List (Key × V)} {ds : List (PyData × PyData)} {i : Nat} {x : Key × V}, RepK K F vs ds → vs[i]? = some x → ∃ d, ds[i]? = some (kD x.1, d) ∧ Rep K F x.2 d
  | _, _, _, _, .nil, e => by simp at e
  | _, _, 0, _, .cons r _, e => by simp at e; subst e; exact ⟨_, rfl, r⟩
  | _, _, i + 1, d, .cons _ t, e => by
    obtain ⟨u, h1, h2⟩ := RepK.get' (i := i) (x := d) t (by simpa using e)
    exact ⟨u, by simpa using h1, h2⟩
theorem RepT.get' {K : PySem.W.Frag} {F : Hp} : ∀ {vs : List (List Key × V)} {ds : List (PyData × PyData)} {i : Nat} {x : List Key × V}, RepT K F vs ds → vs[i]? = some x → ∃ d, ds[i]? = some (.tuple (x.1.map kD), d) ∧ Rep K F x.2 d
  | _, _, _, _, .nil, e => by simp at e
  | _, _, 0, _, .cons r _, e => by simp at e; subst e; exact ⟨_, rfl, r⟩
  | _, _, i + 1, d, .cons _ t, e => by
    obtain ⟨u, h1, h2⟩ := RepT.get' (i := i) (x := d) t (by simpa using e)
    exact ⟨u, by simpa using h1, h2⟩
theorem rep_key {K : PySem.W.Frag} {F : Hp} (k : Key) : Rep K F (kV k) (kD k) := by
  cases k with
  | inl i => exact .int i
  | inr x => exact .str x
theorem reps_keys {K : PySem.W.Frag} {F : Hp} : ∀ (k : List Key), Reps K F (k.map kV) (k.map kD)
  | [] => .nil
  | k :: ks => .cons (rep_key k) (reps_keys ks)
/-- all are whole numbers -/
def allD (ds : List PyData) : Bool := ds.all fun d => match d with
  | .int _ => true
  | _ => false
theorem allD_key : ∀ k : List Key, allD (k.map kD) = allI (k.map kV)
  | [] => rfl
  | k :: ks => by
    show ((match kD k with
      | .int _ => true
      | _ => false) && allD (ks.map kD)) = ((match kV k with
      | .int _ => true
      | _ => false) && allI (ks.map kV))
    rw [allD_key ks]
    cases k <;> rfl
/-- a key as the walk yields it -/
def keyI : PyData → PyData
  | .tuple ds => if allD ds = true then .tuple ds else .dict [(.none, .list ds)]
  | d => d
theorem keyI_k (k : Key) : keyI (kD k) = kD k := by cases k <;> rfl
theorem keyI_rep {K : PySem.W.Frag} {F : Hp} {q : Addr} {k : List Key} (h : F q = some (.tup (k.map kV))) : Rep K F (.ref q) (keyI (.tuple (k.map kD))) := by
  show Rep K F (.ref q) (if allD (k.map kD) = true then .tuple (k.map kD) else .dict [(.none, .list (k.map kD))])
  rw [allD_key]
  by_cases e : allI (k.map kV) = true
  · rw [if_pos e]
    exact .tup (od := { cls := .none, data := .plain }) (by unfold tupHO; rw [if_pos e]; exact h) rfl (reps_keys k)
  · rw [if_neg e]
    exact .raw h (reps_keys k)
theorem wd_keysK {K : PySem.W.Frag} {F0 : Hp} {ks : List (Key × V)} {kvs : List (PyData × PyData)} (r : RepK K F0 ks kvs) : WD K (Itk d od ks) (kvs.map fun kv => keyI kv.1) F0 [(d, .frz od (.dK ks))] where
  goes := fun F H i x1 x2 hp hi => ⟨hp _ List.mem_cons_self, by rw [r.length]; simpa using hi⟩
  stops := fun F H x1 x2 hp => ⟨hp _ List.mem_cons_self, by rw [r.length]; simp⟩
  yld := fun F H i x H' x1 x2 hp hi y => by
    obtain ⟨rfl, k, v, h1, rfl⟩ := y
    obtain ⟨d2, h2, _⟩ := r.get' h1
    exact ⟨F, kD k, by rw [List.getElem?_map, h2]; exact congrArg some (keyI_k k), .refl, rep_key k⟩
theorem wd_keysT {K : PySem.W.Frag} {F0 : Hp} {ks : List (List Key × V)} {kvs : List (PyData × PyData)} (r : RepT K F0 ks kvs) : WD K (Itkt d od ks) (kvs.map fun kv => keyI kv.1) F0 [(d, .frz od (.dT ks))] where
  goes := fun F H i x1 x2 hp hi => ⟨hp _ List.mem_cons_self, by rw [r.length]; simpa using hi⟩
  stops := fun F H x1 x2 hp => ⟨hp _ List.mem_cons_self, by rw [r.length]; simp⟩
  yld := fun F H i x H' x1 x2 hp hi y => by
    obtain ⟨rfl, k, v, q, h1, rfl, hq⟩ := y
    obtain ⟨d2, h2, _⟩ := r.get' h1
    have e : (kvs.map fun kv => keyI kv.1)[i]? = some (keyI (.tuple (k.map kD))) := by rw [List.getElem?_map, h2]; rfl
    cases hf : F q with
    | none => exact ⟨upd F q (.tup (k.map kV)), _, e, .k .refl hf hq rfl, keyI_rep upd_same⟩
    | some o =>
      have z := x2 q o hf
      have y : o = .tup (k.map kV) := by
        unfold StO at z
        split at z
        · rcases z with z | ⟨_, z⟩ <;> rw [hq] at z <;> cases z
        · rcases z with z | ⟨_, z⟩ <;> rw [hq] at z <;> cases z
        · rcases z with z | ⟨_, z⟩ <;> rw [hq] at z <;> cases z
        · rcases z with z | ⟨_, z⟩ <;> rw [hq] at z <;> cases z
        · rw [hq] at z; cases z
        · rw [hq] at z; cases z; rfl
        · rw [hq] at z; cases z; rfl
      subst y
      exact ⟨F, _, e, .refl, keyI_rep hf⟩
/-- behind the locked walk -/
theorem unlock_key {σ' : St} {env' : En} {F' H' : Hp} (h : H d = some u) (hF : F d ≠ none) (hu : dctO u = true) (I0 : IV b F (upd H d (.frz od u)) σ env) (I : IV b F' H' σ' env') (g : Gr σ env F (upd H d (.frz od u)) σ' env' F' H') :
    H' d = some (.frz od u) ∧ IV b (cln F') (upd H' d u) σ' env' ∧ Gr σ env F H σ' env' (cln F') (upd H' d u) := by
  have e1 : H' d = some (.frz od u) := g.h d _ upd_same (fun z => hF (I0.mm z).1) rfl
  have hF' : F' d ≠ none := fun z => by
    cases q : F d with
    | none => exact hF q
    | some o => exact (g.f d o q).ne z
  exact ⟨e1, I.unlock hF' e1 hu, g.unlock h hF hu⟩
theorem OkS.unlock {o : Option Fl} {D : Ends} (I0 : IV b F (upd H d (.frz od u)) σ env) (ok : OkS b F H σ env o D) (h : H d = some u) (hF : F d ≠ none) (hu : dctO u = true) (hx : ∀ c e, o ≠ some (.ex c e)) :
    OkS b F (upd H d (.frz od u)) σ env o ⟨fun σ' H' => H' d = some (.frz od u) ∧ D.nx σ' (upd H' d u), fun v H' => H' d = some (.frz od u) ∧ D.rt v (upd H' d u), fun σ' H' => H' d = some (.frz od u) ∧ D.bk σ' (upd H' d u), fun σ' H' => H' d = some (.frz od u) ∧ D.ct σ' (upd H' d u)⟩ := by
  cases o with
  | none => exact ok
  | some o =>
    cases o with
    | nx e => 
      intro σ' F' H' I g
      obtain ⟨h1, h2, h3⟩ := unlock_key h hF hu I0 I g
      exact ⟨h1, ok _ _ _ h2 h3⟩
    | bk e => 
      intro σ' F' H' I g
      obtain ⟨h1, h2, h3⟩ := unlock_key h hF hu I0 I g
      exact ⟨h1, ok _ _ _ h2 h3⟩
    | ct e => 
      intro σ' F' H' I g
      obtain ⟨h1, h2, h3⟩ := unlock_key h hF hu I0 I g
      exact ⟨h1, ok _ _ _ h2 h3⟩
    | rt r e => 
      intro v σ' F' H' I g er
      obtain ⟨h1, h2, h3⟩ := unlock_key h hF hu I0 I g
      exact ⟨h1, ok _ _ _ _ h2 h3 er.unlock⟩
    | ex c e => exact absurd rfl (hx c e)
theorem OkV.unlock {o : Option (Ou RD)} {Q : VK} (I0 : IV b F (upd H d (.frz od u)) σ env) (ok : OkV b F H σ env o Q) (h : H d = some u) (hF : F d ≠ none) (hu : dctO u = true) (hx : ∀ c e, o ≠ some (.ex c e)) :
    OkV b F (upd H d (.frz od u)) σ env o (fun v H' => H' d = some (.frz od u) ∧ Q v (upd H' d u)) := by
  cases o with
  | none => exact ok
  | some o =>
    cases o with
    | ok r e => 
      intro v F' H' I g er
      obtain ⟨h1, h2, h3⟩ := unlock_key h hF hu I0 I g
      exact ⟨h1, ok _ _ _ h2 h3 er.unlock⟩
    | ex c e => exact absurd rfl (hx c e)
end
section
variable {X : Cx} {b : Bx} {k : Nat} {pos pos' : Pos} {tg e elt : Expr} {tt : M Bool} {te : M RD} {s1 : MS} {sts : List Stmt}
/-- over the keys of the dict of a slot: no exception leaves -/
def fForK (i : Nat) (gt : PyData → En → Option En) (bd : MS) : MS := fun e => match kvsAt i e with
  | none => none
  | some (kvs, e1) => match loopF gt bd (kvs.map fun kv => keyI kv.1) e1 with
    | some (.ex _ _) => none
    | o => o
def fCompK (i : Nat) (vs : List Nat) (gt : PyData → En → Option En) (tt : M Bool) (te : M RD) : M RD := fun e => match kvsAt i e with
  | none => none
  | some (kvs, e1) => fCompE vs gt tt te (kvs.map fun kv => keyI kv.1) e1
/-- the dict as it stands for the walk -/
theorem rd_cases {H : Hp} {d : Addr} {u : HO} (r : Rd H d u) : (∃ o, H d = some (.frz o u)) ∨ H d = some u := r.symm
theorem pf_forK (i : Nat) {x : Str} {ts : List Nat} {gt : PyData → En → Option En} (g : Gx X b k) (hg : PGv X b ts gt tg) (hb : PFs X b s1 sts) (hN : X.N[i]? = some x := by rfl) (hv : Vis X.env.scope x := by first | exact Or.inl rfl | exact Or.inr (Or.inl rfl) | exact Or.inr (Or.inr rfl)) (hd : (x == ("__debug__" : Str)) = false := by decide)
    (hcd : (x == ("__classdict__" : Str)) = false := by decide) :
    PF X b (fForK i gt s1) (.For tg (.Name x pos') sts [] pos) := by
  have P := ps_for (pos := pos) g.po g.calm (pi_keys (tg := tg) (pe_var (pos := pos') hN hv hd hcd)) hg hb
  have P2 := ps_lock P
  refine ⟨fun pins s σ H D I h => ?_⟩
  obtain ⟨F, env, Iv, ok⟩ := h
  unfold fForK at ok
  cases q : kvsAt i env with
  | none => rw [q] at ok; exact ok.elim
  | some z =>
    obtain ⟨kvs, env1⟩ := z
    rw [q] at ok
    have ok1 : (∀ c e, loopF gt s1 (kvs.map fun kv => keyI kv.1) env1 ≠ some (.ex c e)) ∧ OkS b F H σ env (loopF gt s1 (kvs.map fun kv => keyI kv.1) env1) D := by
      have ok : OkS b F H σ env (match loopF gt s1 (kvs.map fun kv => keyI kv.1) env1 with
        | some (.ex _ _) => none
        | o => o) D := ok
      revert ok
      cases loopF gt s1 (kvs.map fun kv => keyI kv.1) env1 with
      | none => exact fun z => z.elim
      | some o => cases o <;> first | exact fun z => z.elim | exact fun z => ⟨fun c e y => (by cases y), z⟩
    obtain ⟨hx, ok1⟩ := ok1
    obtain ⟨d, F1, hs, I1, g1, hF, kk⟩ := kvsAt_ok Iv q
    have ok2 := OkS.re ok1 g1
    rcases kk with ⟨ks, r1, r2⟩ | ⟨ks, r1, r2⟩
    · rcases rd_cases (I1.ext.rdK r1) with ⟨o, hl⟩ | hl
      · exact P.run pins s σ H D I ⟨.ref d, hs, d, o, rfl, .inl ⟨ks, hl, forV I1 (wd_keysK r2) (fun q hq => by
          cases List.mem_singleton.mp hq
          exact ⟨hl, rfl, fun z => hF (I1.mm z).1⟩) ok2⟩⟩
      · exact P2.run pins s σ H D I ⟨d, _, hl, trivial, fun od => ⟨.ref d, hs, d, od, rfl, .inl ⟨ks, upd_same, by
          have I2 := I1.lock (od := od) hF hl rfl
          exact forV I2 (wd_keysK r2) (fun q hq => by
            cases List.mem_singleton.mp hq
            exact ⟨upd_same, rfl, fun z => hF (I1.mm z).1⟩) (OkS.unlock I2 ok2 hl hF rfl hx)⟩⟩⟩
    · rcases rd_cases (I1.ext.rdT r1) with ⟨o, hl⟩ | hl
      · exact P.run pins s σ H D I ⟨.ref d, hs, d, o, rfl, .inr ⟨ks, hl, forV I1 (wd_keysT r2) (fun q hq => by
          cases List.mem_singleton.mp hq
          exact ⟨hl, rfl, fun z => hF (I1.mm z).1⟩) ok2⟩⟩
      · exact P2.run pins s σ H D I ⟨d, _, hl, trivial, fun od => ⟨.ref d, hs, d, od, rfl, .inr ⟨ks, upd_same, by
          have I2 := I1.lock (od := od) hF hl rfl
          exact forV I2 (wd_keysT r2) (fun q hq => by
            cases List.mem_singleton.mp hq
            exact ⟨upd_same, rfl, fun z => hF (I1.mm z).1⟩) (OkS.unlock I2 ok2 hl hF rfl hx)⟩⟩⟩
theorem fCompE_nx {vs : List Nat} {gt : PyData → En → Option En} {xs : List PyData} {e1 : En} : ∀ c e, fCompE vs gt tt te xs e1 ≠ some (.ex c e) := fun c e h => by
  unfold fCompE at h
  split at h
  · split at h <;> cases h
  · cases h
theorem pv_compK (i : Nat) {x : Str} {p1 : Pos} {vs ts : List Nat} {own : List (Str × Nat)} {scope : Scope} {ifs : List Expr} {gt : PyData → En → Option En} (g : Gx X b k) (ok : blkC X.N X.env.scope scope own = true)
    (hg : ∀ (s : Shared) (H : Hp) (C : Addr) (cl : List (Str × Addr)) (fp : List Addr), PGv (BlkX X scope s H C cl fp) b.blk ts gt tg)
    (ht : ∀ (s : Shared) (H : Hp) (C : Addr) (cl : List (Str × Addr)) (fp : List Addr), PTv (BlkX X scope s H C cl fp) b.blk tt ifs)
    (he : ∀ (s : Shared) (H : Hp) (C : Addr) (cl : List (Str × Addr)) (fp : List Addr), PV (BlkX X scope s H C cl fp) b.blk te elt)
    (hN : X.N[i]? = some x := by rfl) (hxv : Vis X.env.scope x := by first | exact Or.inl rfl | exact Or.inr (Or.inl rfl) | exact Or.inr (Or.inr rfl)) (hd : (x == ("__debug__" : Str)) = false := by decide) (hcd : (x == ("__classdict__" : Str)) = false := by decide)
    (hv : own.map (·.2) = vs := by rfl) (hts : ∀ v ∈ ts, v ∈ vs := by decide) :
    PV X b (fCompK i vs gt tt te) (.ListComp elt [⟨tg, .Name x p1, ifs, 0⟩] scope pos) := by
  subst hv
  have P := pe_lc (pos := pos) g.calm g.nd (pi_keys (tg := tg) (pe_var (pos := p1) hN hxv hd hcd)) (blkOk_by ok) hg ht he
  have P2 := pe_lock P
  refine ⟨fun pins s σ H Q I h => ?_⟩
  obtain ⟨F, env, Iv, ok⟩ := h
  unfold fCompK at ok
  cases q : kvsAt i env with
  | none => rw [q] at ok; exact ok.elim
  | some z =>
    obtain ⟨kvs, env1⟩ := z
    rw [q] at ok
    have ok1 : OkV b F H σ env (fCompE (own.map (·.2)) gt tt te (kvs.map fun kv => keyI kv.1) env1) Q := ok
    obtain ⟨d, F1, hs, I1, g1, hF, kk⟩ := kvsAt_ok Iv q
    have ok2 := OkV.re ok1 g1
    rcases kk with ⟨ks, r1, r2⟩ | ⟨ks, r1, r2⟩
    · rcases rd_cases (I1.ext.rdK r1) with ⟨o, hl⟩ | hl
      · exact P.run pins s σ H Q I ⟨.ref d, hs, d, o, rfl, .inl ⟨ks, hl, lcV hts I1 (wd_keysK r2) (fun q hq => by
          cases List.mem_singleton.mp hq
          exact ⟨hl, rfl, fun z => hF (I1.mm z).1⟩) ok2⟩⟩
      · exact P2.run pins s σ H Q I ⟨d, _, hl, trivial, fun od => ⟨.ref d, hs, d, od, rfl, .inl ⟨ks, upd_same, by
          have I2 := I1.lock (od := od) hF hl rfl
          exact lcV hts I2 (wd_keysK r2) (fun q hq => by
            cases List.mem_singleton.mp hq
            exact ⟨upd_same, rfl, fun z => hF (I1.mm z).1⟩) (OkV.unlock I2 ok2 hl hF rfl fCompE_nx)⟩⟩⟩
    · rcases rd_cases (I1.ext.rdT r1) with ⟨o, hl⟩ | hl
      · exact P.run pins s σ H Q I ⟨.ref d, hs, d, o, rfl, .inr ⟨ks, hl, lcV hts I1 (wd_keysT r2) (fun q hq => by
          cases List.mem_singleton.mp hq
          exact ⟨hl, rfl, fun z => hF (I1.mm z).1⟩) ok2⟩⟩
      · exact P2.run pins s σ H Q I ⟨d, _, hl, trivial, fun od => ⟨.ref d, hs, d, od, rfl, .inr ⟨ks, upd_same, by
          have I2 := I1.lock (od := od) hF hl rfl
          exact lcV hts I2 (wd_keysT r2) (fun q hq => by
            cases List.mem_singleton.mp hq
            exact ⟨upd_same, rfl, fun z => hF (I1.mm z).1⟩) (OkV.unlock I2 ok2 hl hF rfl fCompE_nx)⟩⟩⟩
end
end Pv
namespace Pv
open PySem PySem.Spec PyProof.Rows L2

/-! ### operators over data -/
section
variable {X : Cx} {F H : Hp} {v u : V} {x y : PyData} {k : Nat}
theorem wd_val {d : PyData} {w : V} {Q : VK} {K : PySem.W.Frag} (h : Wd K F H (.val d) Q) (r : Rep K F w d) : Q w H := h w F H .refl r
theorem wd_list' {vs : List V} {ds : List PyData} {Q : VK} {K : PySem.W.Frag} (x : Ex F H) (h : Wd K F H (.own (.lst ds)) Q) (r : Reps K F vs ds) : ∀ p, H p = none → Q (.ref p) (upd H p (.lst vs)) := fun p hp => h _ F _ (.h1 _ hp) (nw_list x hp r)
theorem wd_tup' {vs : List V} {ds : List PyData} {Q : VK} {K : PySem.W.Frag} (x : Ex F H) (h : Wd K F H (.val (.tuple ds)) Q) (r : Reps K F vs ds) : ∀ p od, od.dict = none → H p = none → Q (.ref p) (upd H p (tupHO od vs)) := fun p od n hp => h _ _ _ (.f1 _ hp) (nw_tup x hp r n)
/-- a new tuple as it is known -/
theorem inv_tup {pins : List (Addr × Obj)} {σ : St} {s : Shared} {h' : Heap} {vs : List V} {its : List Value} (I : Inv X pins σ H s) (kp : ∀ b u, s.heap.get? b = some u → h'.get? b = some u) (r : Vals vs its) (hz : vs.length ≤ sizeLine) (e : h'.get? s.heap.objs.size = some { cls := .type "tuple", data := .seq its.toArray }) :
    Inv X pins σ (upd H s.heap.objs.size (tupHO { cls := .type "tuple", data := .seq its.toArray } vs)) { s with heap := h' } := by
  refine I.laid (t' := s.toks) kp (Nat.le_refl _) ?_
  have z : ∀ H', ObjOk X.prog X.w H' h' s.heap.objs.size (.tup vs) := fun H' => ⟨hz, its, r, _, e, rfl, _, rfl⟩
  unfold tupHO
  split
  · exact z _
  · exact ⟨e, z _⟩
/-- + -/
def addD : PyData → PyData → Option RD
  | .int i, .int j => some (.val (.int (i + j)))
  | .str a, .str b => if a.length + b.length ≤ lim then some (.val (.str (a ++ b))) else none
  | .list xs, .list ys => if xs.length + ys.length ≤ lim then some (.own (.lst (xs ++ ys))) else none
  | _, _ => none
abbrev rAdd (K : PySem.W.Frag) : R2 := fun x y H Q => rI0 (fun i j => .int (i + j)) x y H Q ∨ (∃ i j, x = .str i ∧ y = .str j ∧ i.length + j.length ≤ sizeLine ∧ Q (.str (i ++ j)) H) ∨ rCat x y H Q
theorem op_addD : OpR X (binaryOp .Add) (rAdd X.K) := OpR.or op_add (OpR.or op_add_str op_cat)
theorem opd_add {K : PySem.W.Frag} : OpD K (rAdd K) addD := fun F H v u x y res Q ex rv ru e wd => by
  unfold addD at e
  split at e
  · cases e
    exact .inl ⟨_, _, rv.int, ru.int, wd_val wd (.int _)⟩
  · split at e
    · rename_i hl
      cases e
      exact .inr (.inl ⟨_, _, rv.str, ru.str, lim_le hl, wd_val wd (.str _)⟩)
    · cases e
  · split at e
    · rename_i hl
      cases e
      obtain ⟨a, vs, rfl, h1, r1⟩ := rv.lst ex
      obtain ⟨b, us, rfl, h2, r2⟩ := ru.lst ex
      exact .inr (.inr ⟨_, _, _, _, rfl, rfl, h1, h2, by rw [r1.length, r2.length]; exact lim_le hl, wd_list' ex wd (r1.append r2)⟩)
    · cases e
  · cases e
/-- - -/
def subD : PyData → PyData → Option RD
  | .int i, .int j => some (.val (.int (i - j)))
  | _, _ => none
theorem opd_sub {K : PySem.W.Frag} : OpD K (rI0 fun i j => .int (i - j)) subD := fun F H v u x y res Q ex rv ru e wd => by
  unfold subD at e
  split at e
  · cases e
    exact ⟨_, _, rv.int, ru.int, wd_val wd (.int _)⟩
  · cases e
/-- * -/
def mulS (s : Str) (n : Int) : Str := ⟨(List.replicate n.toNat s.cps.toList).flatten.toArray⟩
def mulD : PyData → PyData → Option RD
  | .int i, .int j => if Builtin.Int.intBits i + Builtin.Int.intBits j ≤ 100000000 then some (.val (.int (i * j))) else none
  | .str s, .int n => if n < 1000000 ∧ -1000000 < n ∧ s.length ≤ 1000 ∧ s.length * n.toNat ≤ lim then some (.val (.str (mulS s n))) else none
  | .list xs, .int n => if n < 1000000 ∧ -1000000 < n ∧ xs.length * n.toNat ≤ lim then some (.own (.lst (List.replicate n.toNat xs).flatten)) else none
  | _, _ => none
theorem foldl_arr : ∀ (n : Nat) (a acc : Array Nat), ((List.replicate n a).foldl (· ++ ·) acc).toList = acc.toList ++ (List.replicate n a.toList).flatten
  | 0, a, acc => by simp
  | n + 1, a, acc => by
    rw [List.replicate_succ, List.foldl_cons, foldl_arr n a, List.replicate_succ, List.flatten_cons, Array.toList_append, List.append_assoc]
theorem mul_txt (s : Str) (n : Int) : Txt.mul s n = mulS s n := by
  obtain ⟨c⟩ := s
  unfold Txt.mul mulS
  split
  · rename_i h
    have e : n.toNat = 0 := by omega
    rw [e]
    rfl
  · split
    · rename_i h1 h
      rw [Bool.or_eq_true] at h
      rcases h with h | h
      · have e : n = 1 := by simpa using h
        subst e
        simp
      · have e : c = #[] := by
          have : c.size = 0 := by simpa [Str.length] using h
          exact Array.eq_empty_of_size_eq_zero this
        subst e
        simp
    · congr 1
      apply Array.toList_inj.mp
      rw [foldl_arr]
      simp
abbrev rMulS : R2 := fun x y H Q => ∃ s n, x = .str s ∧ y = .int n ∧ n < 1000000 ∧ -1000000 < n ∧ s.length ≤ 1000 ∧ s.length * n.toNat ≤ lim ∧ Q (.str (mulS s n)) H
theorem op_mulS : OpR X (binaryOp .Mult) rMulS := by
  intro pins s σ H x y v u Q I rx ry h
  obtain ⟨z, n, rfl, rfl, h1, h0, h2, h3, q⟩ := h
  obtain ⟨t, rfl⟩ := rx
  obtain ⟨t', rfl⟩ := ry
  have hn : ¬ n < -(2 ^ 63 : Int) := by omega
  refine SB.mul (x := z) (n := n) ⟨?_, ?_, ?_⟩ fun t' k => ⟨.str (mulS z n), H, I.tok _, ⟨_, by rw [mul_txt]⟩, q⟩
  · have e1 : ¬ n ≥ 2 ^ 63 := by omega
    rw [decide_eq_false hn, decide_eq_false e1]
    rfl
  · intro h5 _ h6
    have h7 : (9223372036854 : Int) ≤ (2 ^ 63 - 1) / n := by
      rw [Int.le_ediv_iff_mul_le (by omega)]
      omega
    omega
  · intro _ _
    unfold Builtin.Str.tooLong
    have := lim_le h3
    simpa using this
abbrev rMul : R2 := fun x y H Q => rI CMulX (fun i j => .int (i * j)) x y H Q ∨ rMulS x y H Q ∨ rRep x y H Q
theorem op_mulD : OpR X (binaryOp .Mult) rMul := OpR.or op_mulX (OpR.or op_mulS op_rep)
theorem Reps.flat {K : PySem.W.Frag} {F : Hp} {vs : List V} {ds : List PyData} (r : Reps K F vs ds) : ∀ n : Nat, Reps K F (List.replicate n vs).flatten (List.replicate n ds).flatten
  | 0 => .nil
  | n + 1 => by
    rw [List.replicate_succ, List.flatten_cons, List.replicate_succ, List.flatten_cons]
    exact r.append (Reps.flat r n)
theorem opd_mul {K : PySem.W.Frag} : OpD K rMul mulD := fun F H v u x y res Q ex rv ru e wd => by
  unfold mulD at e
  split at e
  · split at e
    · rename_i hl
      cases e
      refine .inl ⟨_, _, rv.int, ru.int, ?_, wd_val wd (.int _)⟩
      unfold CMulX
      omega
    · cases e
  · split at e
    · rename_i hl
      cases e
      exact .inr (.inl ⟨_, _, rv.str, ru.int, hl.1, hl.2.1, hl.2.2.1, hl.2.2.2, wd_val wd (.str _)⟩)
    · cases e
  · split at e
    · rename_i hl
      cases e
      obtain ⟨a, vs, rfl, h1, r1⟩ := rv.lst ex
      exact .inr (.inr ⟨_, _, _, rfl, ru.int, h1, by omega, by omega, by rw [r1.length]; exact lim_le hl.2.2, wd_list' ex wd (r1.flat _)⟩)
    · cases e
  · cases e
/-- %, //, ** -/
def modD : PyData → PyData → Option RD
  | .int i, .int j => if 0 < j then some (.val (.int (i % j))) else none
  | _, _ => none
theorem opd_mod {K : PySem.W.Frag} : OpD K (rI (fun _ j => 0 < j) fun i j => .int (i % j)) modD := fun F H v u x y res Q ex rv ru e wd => by
  unfold modD at e
  split at e
  · split at e
    · rename_i hl
      cases e
      exact ⟨_, _, rv.int, ru.int, hl, wd_val wd (.int _)⟩
    · cases e
  · cases e
def fdivD : PyData → PyData → Option RD
  | .int i, .int j => if 0 < j ∧ j.natAbs.log2 < 9000 then some (.val (.int (i / j))) else none
  | _, _ => none
theorem opd_fdiv {K : PySem.W.Frag} : OpD K (rI CDivW fun i j => .int (i / j)) fdivD := fun F H v u x y res Q ex rv ru e wd => by
  unfold fdivD at e
  split at e
  · split at e
    · rename_i hl
      cases e
      exact ⟨_, _, rv.int, ru.int, hl, wd_val wd (.int _)⟩
    · cases e
  · cases e
def powD : PyData → PyData → Option RD
  | .int i, .int j => if 0 ≤ j ∧ j ≤ 1000000 ∧ i.natAbs < 2 ^ 64 then some (.val (.int (i ^ j.toNat))) else none
  | _, _ => none
theorem opd_pow {K : PySem.W.Frag} : OpD K (rI CPow fun i j => .int (i ^ j.toNat)) powD := fun F H v u x y res Q ex rv ru e wd => by
  unfold powD at e
  split at e
  · split at e
    · rename_i hl
      cases e
      exact ⟨_, _, rv.int, ru.int, hl, wd_val wd (.int _)⟩
    · cases e
  · cases e
/-! ### data compared -/
theorem Rv.reads {pins : List (Addr × Obj)} {σ : St} {s : Shared} {w : Value} {d : PyData} (ex : Ex F H) (I : Inv X pins σ H s) (r : Rv X.K F H v d) (n : noD d = true) (rw' : RelV v w) : ∃ as, Reads s.heap w d as := Dp.reads I d v w (r.dp ex n) rw'
mutual
theorem noD_plain : ∀ d : PyData, d.plain = noD d
  | .none => rfl
  | .bool _ => rfl
  | .int _ => rfl
  | .str _ => rfl
  | .list xs => by rw [PyData.plain, noD]; exact noDs_plain xs
  | .tuple xs => by rw [PyData.plain, noD]; exact noDs_plain xs
  | .dict _ => rfl
theorem noDs_plain : ∀ ds : List PyData, PyData.plainAll ds = noDs ds
  | [] => rfl
  | d :: ds => by rw [PyData.plainAll, noDs, noD_plain d, noDs_plain ds]
end
def okD (d : PyData) : Bool := noD d && decide (d.depth ≤ 64)
/-- data read as such, and a comparison -/
abbrev rDD (K : PySem.W.Frag) (C : PyData → PyData → Bool) (f : PyData → PyData → Bool) : R2 := fun v u H Q => ∃ F x y, Ex F H ∧ Rv K F H v x ∧ Rv K F H u y ∧ okD x = true ∧ okD y = true ∧ C x y = true ∧ Q (.bl (f x y)) H
theorem room_of {A : Around} {a b : PyData} (hu : A.units + 200 < cLine) (h : a.depth ≤ 64) : A.units + 2 + min a.depth b.depth < cLine := by
  have := Nat.min_le_left a.depth b.depth
  omega
theorem opr_dd {f : Value → Value → Sem Value} {C g : PyData → PyData → Bool} (hh : ∀ (E : Value → Shared → Prop) (s : Shared) (a b : Value) (da db : PyData) (as bs : List Addr) (Q : Value → Shared → Prop), Reads s.heap a da as → Reads s.heap b db bs → okD da = true → okD db = true → C da db = true → Q (.bool (g da db)) s → wpAny (model X.prog X.w) X.A (f a b) Q E s) : OpR X f (rDD X.K C g) := by
  intro pins s σ H v u a b Q I rv ru h
  obtain ⟨F, x, y, ex, rx, ry, ox, oy, hc, q⟩ := h
  unfold okD at ox oy
  rw [Bool.and_eq_true] at ox oy
  obtain ⟨as, r1⟩ := rx.reads ex I ox.1 rv
  obtain ⟨bs, r2⟩ := ry.reads ex I oy.1 ru
  exact hh X.xe s a b x y as bs _ r1 r2 (by unfold okD; rw [Bool.and_eq_true]; exact ox) (by unfold okD; rw [Bool.and_eq_true]; exact oy) hc ⟨.bl _, H, I, rfl, q⟩
def cmpD (C f : PyData → PyData → Bool) (x y : PyData) : Option RD := if okD x = true ∧ okD y = true ∧ C x y = true then some (.val (.bool (f x y))) else none
theorem opd_dd {K : PySem.W.Frag} {C f : PyData → PyData → Bool} : OpD K (rDD K C f) (cmpD C f) := fun F H v u x y res Q ex rv ru e wd => by
  unfold cmpD at e
  split at e
  · rename_i h
    cases e
    exact ⟨F, x, y, ex, rv, ru, h.1, h.2.1, h.2.2, wd_val wd (.bl _)⟩
  · cases e
theorem okD_dep {d : PyData} (h : okD d = true) : d.depth ≤ 64 := by
  unfold okD at h
  rw [Bool.and_eq_true] at h
  simpa using h.2
theorem okD_pl {d : PyData} (h : okD d = true) : d.plain = true := by
  unfold okD at h
  rw [Bool.and_eq_true] at h
  rw [noD_plain]
  exact h.1
abbrev cY : PyData → PyData → Bool := fun _ _ => true
abbrev cAl : PyData → PyData → Bool := fun x y => PySem.W.alike x y && (match x with
  | .none => false
  | _ => true)
theorem cAl_al {x y : PyData} (h : cAl x y = true) : PySem.W.alike x y = true ∧ x ≠ .none := by
  unfold cAl at h
  rw [Bool.and_eq_true] at h
  refine ⟨h.1, fun e => ?_⟩
  subst e
  cases h.2
theorem rm0 {A : Around} {a b : PyData} (hr : Room k A) (h : okD a = true) : A.units + min a.depth b.depth < cLine := by
  have := hr.un
  have := room_of (A := A) (b := b) (by omega) (okD_dep h)
  omega
theorem rm1 {A : Around} {a b : PyData} (hr : Room k A) (h : okD a = true) : A.units + 1 + min a.depth b.depth < cLine := by
  have := hr.un
  have := room_of (A := A) (b := b) (by omega) (okD_dep h)
  omega
variable (hr : Room k X.A)
include hr
theorem op_eqD' : OpR X (compareOp .Eq) (rDD X.K cY PyData.eqv) := opr_dd fun E s a b da db as bs Q r1 r2 o1 o2 _ q => PySem.SeqAt.eq_plain r1 r2 (okD_pl o1) (okD_pl o2) (rm0 hr o1) q
theorem op_neD' : OpR X (compareOp .NotEq) (rDD X.K cY fun x y => !PyData.eqv x y) := opr_dd fun E s a b da db as bs Q r1 r2 o1 o2 _ q => PySem.SeqAt.ne_plain r1 r2 (okD_pl o1) (okD_pl o2) (rm0 hr o1) q
theorem op_ltD : OpR X (compareOp .Lt) (rDD X.K cAl PySem.W.dataLt) := opr_dd fun E s a b da db as bs Q r1 r2 o1 o2 hc q => PySem.W.lt_data r1 r2 (cAl_al hc).1 (cAl_al hc).2 (rm0 hr o1) q
theorem op_gtD : OpR X (compareOp .Gt) (rDD X.K cAl fun x y => PySem.W.dataLt y x) := opr_dd fun E s a b da db as bs Q r1 r2 o1 o2 hc q => PySem.W.gt_data r1 r2 (cAl_al hc).1 (cAl_al hc).2 (rm0 hr o1) q
theorem op_leD : OpR X (compareOp .LtE) (rDD X.K cAl fun x y => !PySem.W.dataLt y x) := opr_dd fun E s a b da db as bs Q r1 r2 o1 o2 hc q => PySem.W.le_data r1 r2 (cAl_al hc).1 (cAl_al hc).2 (rm0 hr o1) q
theorem op_geD : OpR X (compareOp .GtE) (rDD X.K cAl fun x y => !PySem.W.dataLt x y) := opr_dd fun E s a b da db as bs Q r1 r2 o1 o2 hc q => PySem.W.ge_data r1 r2 (cAl_al hc).1 (cAl_al hc).2 (rm0 hr o1) q
end
end Pv
namespace Pv
open PySem PySem.Spec PyProof.Rows L2

/-! ### keys of dicts -/
def keq1 : PyData → PyData → Bool
  | .int i, .int j => i == j
  | .str x, .str y => x == y
  | _, _ => false
def keqs : List PyData → List PyData → Bool
  | [], [] => true
  | x :: xs, y :: ys => keq1 x y && keqs xs ys
  | _, _ => false
def keq : PyData → PyData → Bool
  | .tuple xs, .tuple ys => keqs xs ys
  | x, y => keq1 x y
theorem keq1_kD (a b : Key) : keq1 (kD a) (kD b) = decide (a = b) := by
  cases a <;> cases b <;> simp [kD, keq1] <;> exact Bool.beq_eq_decide_eq _ _
theorem keq_kD (a b : Key) : keq (kD a) (kD b) = decide (a = b) := by
  rw [← keq1_kD]
  cases a <;> cases b <;> rfl
theorem keqs_kD : ∀ a b : List Key, keqs (a.map kD) (b.map kD) = decide (a = b)
  | [], [] => rfl
  | [], _ :: _ => rfl
  | _ :: _, [] => rfl
  | a :: as, b :: bs => by
    show (keq1 (kD a) (kD b) && keqs (as.map kD) (bs.map kD)) = _
    rw [keq1_kD, keqs_kD as bs, Bool.eq_iff_iff]
    simp
theorem keq_kT (a b : List Key) : keq (.tuple (a.map kD)) (.tuple (b.map kD)) = decide (a = b) := keqs_kD a b
def dGet (kvs : List (PyData × PyData)) (y : PyData) : Option PyData := (kvs.find? fun kv => keq kv.1 y).map (·.2)
def dPut (kvs : List (PyData × PyData)) (y v : PyData) : List (PyData × PyData) := if (kvs.any fun kv => keq kv.1 y) = true then kvs.map fun kv => if keq kv.1 y = true then (kv.1, v) else kv else kvs ++ [(y, v)]
def asK : PyData → Option Key
  | .int i => some (.inl i)
  | .str x => some (.inr x)
  | _ => none
def asKs : List PyData → Option (List Key)
  | [] => some []
  | x :: xs => match asK x, asKs xs with
    | some k, some ks => some (k :: ks)
    | _, _ => none
theorem asK_eq {x : PyData} {k : Key} (h : asK x = some k) : x = kD k := by
  cases x <;> first | (cases h; rfl) | cases h
theorem asKs_eq : ∀ {xs : List PyData} {ks : List Key}, asKs xs = some ks → xs = ks.map kD
  | [], ks, h => by cases h; rfl
  | x :: xs, ks, h => by
    unfold asKs at h
    split at h
    · rename_i k ks' h1 h2
      cases h
      rw [asK_eq h1, asKs_eq h2]
      rfl
    · cases h
section
variable {X : Cx} {K : PySem.W.Frag} {F H : Hp} {v u : V} {x y : PyData} {k : Nat}
theorem rep_kD {w : V} {k : Key} (r : Rep K F w (kD k)) : w = kV k := by
  cases k <;> (cases r; rfl)
theorem reps_kD : ∀ {ks : List Key} {vs : List V}, Reps K F vs (ks.map kD) → vs = ks.map kV
  | [], _, r => by cases r; rfl
  | k :: ks, _, r => by
    cases r with
    | cons a t => rw [rep_kD a, reps_kD t]; rfl
theorem repK_get : ∀ {ks : List (Key × V)} {kvs : List (PyData × PyData)} (k : Key), RepK K F ks kvs → match dGet kvs (kD k) with
    | none => valV ks k = none
    | some d => ∃ w, valV ks k = some w ∧ Rep K F w d
  | _, _, k, .nil => rfl
  | (k1, w) :: ks, (_, d) :: kvs, k, .cons r t => by
    have ih := repK_get k t
    unfold dGet
    rw [List.find?_cons, keq_kD]
    by_cases e : k1 = k
    · rw [decide_eq_true e]
      exact ⟨w, valV_pos e, r⟩
    · rw [decide_eq_false e, valV_neg (p := (k1, w)) e]
      exact ih
theorem repT_get : ∀ {ks : List (List Key × V)} {kvs : List (PyData × PyData)} (k : List Key), RepT K F ks kvs → match dGet kvs (.tuple (k.map kD)) with
    | none => valV ks k = none
    | some d => ∃ w, valV ks k = some w ∧ Rep K F w d
  | _, _, k, .nil => rfl
  | (k1, w) :: ks, (_, d) :: kvs, k, .cons r t => by
    have ih := repT_get k t
    unfold dGet
    rw [List.find?_cons, keq_kT]
    by_cases e : k1 = k
    · rw [decide_eq_true e]
      exact ⟨w, valV_pos e, r⟩
    · rw [decide_eq_false e, valV_neg (p := (k1, w)) e]
      exact ih
theorem repK_any : ∀ {ks : List (Key × V)} {kvs : List (PyData × PyData)} (k : Key), RepK K F ks kvs → (kvs.any fun kv => keq kv.1 (kD k)) = ks.any fun kv => decide (kv.1 = k)
  | _, _, k, .nil => rfl
  | (k1, w) :: ks, (_, d) :: kvs, k, .cons r t => by rw [List.any_cons, List.any_cons, keq_kD, repK_any k t]
theorem repT_any : ∀ {ks : List (List Key × V)} {kvs : List (PyData × PyData)} (k : List Key), RepT K F ks kvs → (kvs.any fun kv => keq kv.1 (.tuple (k.map kD))) = ks.any fun kv => decide (kv.1 = k)
  | _, _, k, .nil => rfl
  | (k1, w) :: ks, (_, d) :: kvs, k, .cons r t => by rw [List.any_cons, List.any_cons, keq_kT, repT_any k t]
theorem repK_map {v : V} {d : PyData} (q : Rep K F v d) : ∀ {ks : List (Key × V)} {kvs : List (PyData × PyData)} (k : Key), RepK K F ks kvs → RepK K F (ks.map fun kv => if kv.1 = k then (kv.1, v) else kv) (kvs.map fun kv => if keq kv.1 (kD k) = true then (kv.1, d) else kv)
  | _, _, k, .nil => .nil
  | (k1, w) :: ks, (_, d1) :: kvs, k, .cons r t => by
    rw [List.map_cons, List.map_cons, keq_kD]
    by_cases e : k1 = k
    · rw [if_pos (c := (k1, w).1 = k) e, decide_eq_true e, if_pos rfl]
      exact .cons q (repK_map q k t)
    · rw [if_neg (c := (k1, w).1 = k) e, decide_eq_false e, if_neg Bool.false_ne_true]
      exact .cons r (repK_map q k t)
theorem repT_map {v : V} {d : PyData} (q : Rep K F v d) : ∀ {ks : List (List Key × V)} {kvs : List (PyData × PyData)} (k : List Key), RepT K F ks kvs → RepT K F (ks.map fun kv => if kv.1 = k then (kv.1, v) else kv) (kvs.map fun kv => if keq kv.1 (.tuple (k.map kD)) = true then (kv.1, d) else kv)
  | _, _, k, .nil => .nil
  | (k1, w) :: ks, (_, d1) :: kvs, k, .cons r t => by
    rw [List.map_cons, List.map_cons, keq_kT]
    by_cases e : k1 = k
    · rw [if_pos (c := (k1, w).1 = k) e, decide_eq_true e, if_pos rfl]
      exact .cons q (repT_map q k t)
    · rw [if_neg (c := (k1, w).1 = k) e, decide_eq_false e, if_neg Bool.false_ne_true]
      exact .cons r (repT_map q k t)
theorem repK_snoc {v : V} {d : PyData} {k : Key} (q : Rep K F v d) : ∀ {ks : List (Key × V)} {kvs : List (PyData × PyData)}, RepK K F ks kvs → RepK K F (ks ++ [(k, v)]) (kvs ++ [(kD k, d)])
  | _, _, .nil => .cons q .nil
  | _, _, .cons r t => .cons r (repK_snoc q t)
theorem repT_snoc {v : V} {d : PyData} {k : List Key} (q : Rep K F v d) : ∀ {ks : List (List Key × V)} {kvs : List (PyData × PyData)}, RepT K F ks kvs → RepT K F (ks ++ [(k, v)]) (kvs ++ [(.tuple (k.map kD), d)])
  | _, _, .nil => .cons q .nil
  | _, _, .cons r t => .cons r (repT_snoc q t)
theorem repK_put {v : V} {d : PyData} (q : Rep K F v d) {ks : List (Key × V)} {kvs : List (PyData × PyData)} (k : Key) (r : RepK K F ks kvs) : RepK K F (putK ks k v) (dPut kvs (kD k) d) := by
  unfold putK dPut
  rw [repK_any k r]
  split
  · exact repK_map q k r
  · exact repK_snoc q r
theorem repT_put {v : V} {d : PyData} (q : Rep K F v d) {ks : List (List Key × V)} {kvs : List (PyData × PyData)} (k : List Key) (r : RepT K F ks kvs) : RepT K F (putK ks k v) (dPut kvs (.tuple (k.map kD)) d) := by
  unfold putK dPut
  rw [repT_any k r]
  split
  · exact repT_map q k r
  · exact repT_snoc q r
/-- a key as it fits a dict that isn't empty -/
def keyOk (kvs : List (PyData × PyData)) (y : PyData) : Bool := match kvs, y with
  | (.tuple _, _) :: _, .tuple ys => (asKs ys).isSome
  | (.int _, _) :: _, y => (asK y).isSome
  | (.str _, _) :: _, y => (asK y).isSome
  | _, _ => false
/-- what the dict at a holds at the key y, whose record may be known -/
def DGx (H : Hp) (a : Addr) (y : V) (r : Option V) : Prop :=
  (∃ kvs k, Rd H a (.dK kvs) ∧ y = kV k ∧ r = valV kvs k) ∨ ∃ kvs k b, Rd H a (.dT kvs) ∧ y = .ref b ∧ Rd H b (.tup (k.map kV)) ∧ r = valV kvs k
theorem DGx.isD {a : Addr} {y : V} {r : Option V} (g : DGx H a y r) : IsD H a := by
  rcases g with ⟨kvs, k, e, _⟩ | ⟨kvs, k, b, e, _⟩
  · exact .inl ⟨_, e⟩
  · exact .inr ⟨_, e⟩
section
variable {pins : List (Addr × Obj)} {σ : St} {s : Shared} {a : Addr} {z : V} {c r : Value} {o : Option V} {A : Around} {E : Value → Shared → Prop} {yy : V}
theorem key_rd {P : Program} {w : World} {h : Heap} {ks : List Key} (ok : HOk P w H h) (e : Rd H a (.tup (ks.map kV))) : (tupleKind (mixKind P w)).is h ks a := by
  obtain ⟨_, its, r, o, h1, h2, n, h3⟩ := (show ObjOk P w H h a (.tup (ks.map kV)) from e.ok ok)
  exact ⟨o, its.toArray, n, h1, h2, h3, by simpa using items_are r⟩
theorem x_getItem {Q : Value → Shared → Prop} (hu : A.units + 1 < cLine) (I : Inv X pins σ H s) (g : DGx H a yy (some z)) (ry : RelV yy c) (h : ∀ w' s', Inv X pins σ H s' → RelV z w' → Q w' s') :
    wpAny (model X.prog X.w) A (getItem (.ref a) c) Q E s := by
  rcases g with ⟨kvs, k, e, ey, l⟩ | ⟨kvs, k, b, e, ey, eb, l⟩
  · subst ey
    obtain ⟨_, hd, vs, rel, dd⟩ := dk_rd I.hok e
    obtain ⟨w', hw, rw'⟩ := RelO.some_of (v := z) (o := valueAt vs k) (by rw [l]; exact rel.val k)
    exact wpAny_getItem_of (kV_is ry) dd.mapOf hw (h w' _ (I.tok _) rw')
  · subst ey
    cases (show c = Value.ref b from ry)
    obtain ⟨_, hd, xs, rel, dd⟩ := dt_rd I.hok e
    obtain ⟨w', hw, rw'⟩ := RelO.some_of (v := z) (o := (atKey xs k).map (·.2)) (by rw [l]; exact rel.val k)
    obtain ⟨p, hp, hp2⟩ := Option.map_eq_some_iff.mp hw
    refine wpAny_getItem_heap (tupleKind_room_in1 hu) (key_rd I.hok eb) dd hp ?_
    rw [hp2]
    exact h w' _ (I.tok _) rw'
theorem x_in {Q : Value → Shared → Prop} (hu : A.units + 1 < cLine) (I : Inv X pins σ H s) (g : DGx H a yy o) (ry : RelV yy c) (h : ∀ s', Inv X pins σ H s' → Q (.bool o.isSome) s') :
    wpAny (model X.prog X.w) A (compareOp .In c (.ref a)) Q E s := by
  rcases g with ⟨kvs, k, e, ey, l⟩ | ⟨kvs, k, b, e, ey, eb, l⟩
  · subst ey
    obtain ⟨_, hd, vs, rel, dd⟩ := dk_rd I.hok e
    refine wpAny_in_of (kV_is ry) hd dd.mapOf ?_
    rw [← (rel.val k).isSome_eq, ← l]
    exact h _ (I.tok _)
  · subst ey
    cases (show c = Value.ref b from ry)
    obtain ⟨_, hd, xs, rel, dd⟩ := dt_rd I.hok e
    refine wpAny_in_heap (tupleKind_room_in1 hu) (key_rd I.hok eb) hd dd ?_
    have q := (rel.val k).isSome_eq
    rw [Option.isSome_map] at q
    rw [← q, ← l]
    exact h _ (I.tok _)
theorem x_notIn {Q : Value → Shared → Prop} (hu : A.units + 1 < cLine) (I : Inv X pins σ H s) (g : DGx H a yy o) (ry : RelV yy c) (h : ∀ s', Inv X pins σ H s' → Q (.bool (!o.isSome)) s') :
    wpAny (model X.prog X.w) A (compareOp .NotIn c (.ref a)) Q E s := by
  rcases g with ⟨kvs, k, e, ey, l⟩ | ⟨kvs, k, b, e, ey, eb, l⟩
  · subst ey
    obtain ⟨_, hd, vs, rel, dd⟩ := dk_rd I.hok e
    refine wpAny_notIn_of (kV_is ry) hd dd.mapOf ?_
    rw [← (rel.val k).isSome_eq, ← l]
    exact h _ (I.tok _)
  · subst ey
    cases (show c = Value.ref b from ry)
    obtain ⟨_, hd, xs, rel, dd⟩ := dt_rd I.hok e
    refine wpAny_notIn_heap (tupleKind_room_in1 hu) (key_rd I.hok eb) hd dd ?_
    have q := (rel.val k).isSome_eq
    rw [Option.isSome_map] at q
    rw [← q, ← l]
    exact h _ (I.tok _)
end
theorem keyOk_raw {kvs : List (PyData × PyData)} (h : keyOk kvs y = true) : isRaw kvs = false := by
  unfold isRaw
  split
  · cases h
  · cases h
  · rfl
theorem dget_of {kvs : List (PyData × PyData)} (ex : Ex F H) (rv : Rv K F H v (.dict kvs)) (ru : Rv K F H u y) (ok : keyOk kvs y = true) :
    ∃ a o, v = .ref a ∧ DGx H a u o ∧ match dGet kvs y with
      | none => o = none
      | some d => ∃ w, o = some w ∧ Rep K F w d := by
  obtain ⟨a, rfl, h⟩ := rv.dct ex (keyOk_raw ok)
  rcases h with ⟨ks, h1, h2⟩ | ⟨ks, h1, h2⟩
  · have hk : ∃ k, asK y = some k := by
      cases h2 with
      | nil => cases ok
      | @cons k1 w ks d kvs r t =>
        cases k1 <;> exact Option.isSome_iff_exists.mp ok
    obtain ⟨k, hk⟩ := hk
    have e := asK_eq hk
    subst e
    have eu : u = kV k := by
      cases k with
      | inl i => exact ru.int
      | inr x => exact ru.str
    have g := repK_get k h2
    refine ⟨a, valV ks k, rfl, .inl ⟨ks, k, h1, eu, rfl⟩, ?_⟩
    revert g
    cases dGet kvs (kD k) <;> exact id
  · have hk : ∃ zs k, y = .tuple zs ∧ asKs zs = some k := by
      cases h2 with
      | nil => cases ok
      | @cons k1 w ks d kvs r t =>
        cases y with
        | tuple zs =>
          obtain ⟨k, hk⟩ := Option.isSome_iff_exists.mp (show (asKs zs).isSome = true from ok)
          exact ⟨zs, k, rfl, hk⟩
        | _ => cases ok
    obtain ⟨zs, k, rfl, hk⟩ := hk
    have e := asKs_eq hk
    subst e
    obtain ⟨b, vs, od, rfl, hb, rs, _⟩ := ru.tup
    rw [reps_kD rs] at hb
    have g := repT_get k h2
    refine ⟨a, valV ks k, rfl, .inr ⟨ks, k, b, h1, rfl, tupHO.rd (ex.h hb), rfl⟩, ?_⟩
    revert g
    cases dGet kvs (.tuple (k.map kD)) <;> exact id

/-! ### in -/
def inD (neg : Bool) (x c : PyData) : Option RD := match c with
  | .str b => match x with
    | .str a => some (.val (.bool (neg ^^ !(Builtin.Str.occurrences b a 0 b.length 1).isEmpty)))
    | _ => none
  | .list xs => if okD x = true ∧ noDs xs = true then some (.val (.bool (neg ^^ xs.any fun y => PyData.eqv y x))) else none
  | .tuple xs => if okD x = true ∧ noDs xs = true then some (.val (.bool (neg ^^ xs.any fun y => PyData.eqv y x))) else none
  | .dict kvs => if keyOk kvs x = true then some (.val (.bool (neg ^^ (dGet kvs x).isSome))) else none
  | _ => none
abbrev rInL (K : PySem.W.Frag) (neg : Bool) : R2 := fun v u H Q => ∃ F x xs, Ex F H ∧ Rv K F H v x ∧ (Rv K F H u (.list xs) ∨ Rv K F H u (.tuple xs)) ∧ okD x = true ∧ noDs xs = true ∧ Q (.bl (neg ^^ xs.any fun y => PyData.eqv y x)) H
abbrev rInS (neg : Bool) : R2 := fun x y H Q => ∃ i j, x = .str i ∧ y = .str j ∧ Q (.bl (neg ^^ !(Builtin.Str.occurrences j i 0 j.length 1).isEmpty)) H
abbrev rInK (neg : Bool) : R2 := fun y x H Q => ∃ a o, x = .ref a ∧ DGx H a y o ∧ Q (.bl (neg ^^ o.isSome)) H
abbrev rInD (K : PySem.W.Frag) (neg : Bool) : R2 := fun x y H Q => rInS neg x y H Q ∨ rInL K neg x y H Q ∨ rInK neg x y H Q
theorem opd_in (neg : Bool) : OpD K (rInD K neg) (inD neg) := fun F H v u x y res Q ex rv ru e wd => by
  unfold inD at e
  split at e
  · split at e
    · cases e
      exact .inl ⟨_, _, rv.str, ru.str, wd_val wd (.bl _)⟩
    · cases e
  · split at e
    · rename_i h
      cases e
      exact .inr (.inl ⟨F, _, _, ex, rv, .inl ru, h.1, h.2, wd_val wd (.bl _)⟩)
    · cases e
  · split at e
    · rename_i h
      cases e
      exact .inr (.inl ⟨F, _, _, ex, rv, .inr ru, h.1, h.2, wd_val wd (.bl _)⟩)
    · cases e
  · split at e
    · rename_i kvs h
      cases e
      obtain ⟨a, o, e1, e2, e3⟩ := dget_of ex ru rv h
      refine .inr (.inr ⟨a, o, e1, e2, ?_⟩)
      have e4 : o.isSome = (dGet kvs x).isSome := by
        revert e3
        cases dGet kvs x with
        | none => intro e3; rw [e3]; rfl
        | some d => intro e3; obtain ⟨w, e3, _⟩ := e3; rw [e3]; rfl
      rw [e4]
      exact wd_val wd (.bl _)
    · cases e
  · cases e
variable (hr : Room k X.A)
include hr
theorem reads_tup {pins : List (Addr × Obj)} {σ : St} {s : Shared} {w : Value} {xs : List PyData} (I : Inv X pins σ H s) (ex : Ex F H) (r : Rv X.K F H v (.list xs) ∨ Rv X.K F H v (.tuple xs)) (n : noDs xs = true) (rw' : RelV v w) : (∃ as, Reads s.heap w (.list xs) as) ∨ ∃ as, Reads s.heap w (.tuple xs) as := by
  rcases r with r | r
  · exact .inl (r.reads ex I n rw')
  · exact .inr (r.reads ex I n rw')
theorem rmA {A : Around} {xs : List PyData} {a : PyData} (hr : Room k A) (h : okD a = true) : A.units + 1 + min (PyData.depthAll xs) a.depth < cLine := by
  have h1 := hr.un
  have h2 := okD_dep h
  have := Nat.min_le_right (PyData.depthAll xs) a.depth
  omega
theorem op_inL : OpR X (compareOp .In) (rInL X.K false) := by
  intro pins s σ H v u a b Q I rv ru h
  obtain ⟨F, x, xs, ex, rx, ry, ox, oy, q⟩ := h
  obtain ⟨as, r1⟩ := rx.reads ex I (by rw [← noD_plain]; exact okD_pl ox) rv
  have fin : EP X pins σ Q (.bool (xs.any fun y => PyData.eqv y x)) s := ⟨.bl _, H, I, rfl, by simpa using q⟩
  rcases reads_tup hr I ex ry oy ru with ⟨bs, r2⟩ | ⟨bs, r2⟩
  · exact PySem.SeqAt.in_list_data r2 r1 (by rw [noDs_plain]; exact oy) (okD_pl ox) (rmA hr hr ox) fin
  · exact PySem.SeqAt.in_tuple_data r2 r1 (by rw [noDs_plain]; exact oy) (okD_pl ox) (rmA hr hr ox) fin
theorem op_notInL : OpR X (compareOp .NotIn) (rInL X.K true) := by
  intro pins s σ H v u a b Q I rv ru h
  obtain ⟨F, x, xs, ex, rx, ry, ox, oy, q⟩ := h
  obtain ⟨as, r1⟩ := rx.reads ex I (by rw [← noD_plain]; exact okD_pl ox) rv
  have fin : EP X pins σ Q (.bool (!xs.any fun y => PyData.eqv y x)) s := ⟨.bl _, H, I, rfl, by simpa using q⟩
  rcases reads_tup hr I ex ry oy ru with ⟨bs, r2⟩ | ⟨bs, r2⟩
  · exact PySem.SeqAt.notIn_list_data r2 r1 (by rw [noDs_plain]; exact oy) (okD_pl ox) (rmA hr hr ox) fin
  · exact PySem.SeqAt.notIn_tuple_data r2 r1 (by rw [noDs_plain]; exact oy) (okD_pl ox) (rmA hr hr ox) fin
theorem op_inK : OpR X (compareOp .In) (rInK false) := by
  intro pins s σ H y x a b Q I ry rx h
  obtain ⟨c, o, rfl, g, q⟩ := h
  obtain rfl : b = Value.ref c := rx
  exact x_in (by have := hr.un; omega) I g ry fun s3 I3 => ⟨.bl o.isSome, H, I3, rfl, by simpa using q⟩
theorem op_notInK : OpR X (compareOp .NotIn) (rInK true) := by
  intro pins s σ H y x a b Q I ry rx h
  obtain ⟨c, o, rfl, g, q⟩ := h
  obtain rfl : b = Value.ref c := rx
  exact x_notIn (by have := hr.un; omega) I g ry fun s3 I3 => ⟨.bl (!o.isSome), H, I3, rfl, by simpa using q⟩
theorem op_inS : OpR X (compareOp .In) (rInS false) := by
  intro pins s σ H x y a b Q I rx ry h
  obtain ⟨i, j, e1, e2, q⟩ := h
  exact op_in_str pins s σ H x y a b Q I rx ry ⟨i, j, e1, e2, by simpa using q⟩
theorem op_notInS : OpR X (compareOp .NotIn) (rInS true) := by
  intro pins s σ H x y a b Q I rx ry h
  obtain ⟨i, j, e1, e2, q⟩ := h
  exact op_notin_str pins s σ H x y a b Q I rx ry ⟨i, j, e1, e2, by simpa using q⟩
theorem op_inD : OpR X (compareOp .In) (rInD X.K false) := OpR.or (op_inS hr) (OpR.or (op_inL hr) (op_inK hr))
theorem op_notInD : OpR X (compareOp .NotIn) (rInD X.K true) := OpR.or (op_notInS hr) (OpR.or (op_notInL hr) (op_notInK hr))
end
end Pv
namespace Pv
open PySem PySem.Spec PyProof.Rows L2

section
variable {X : Cx} {K : PySem.W.Frag} {F H : Hp} {v u : V} {x y : PyData} {k : Nat}
/-! ### is, is not: None and truths -/
def isN : PyData → Bool
  | .none => true
  | _ => false
def isD (neg : Bool) (x y : PyData) : Option RD := match y with
  | .none => some (.val (.bool (neg ^^ isN x)))
  | .bool b => match x with
    | .bool a => some (.val (.bool (neg ^^ decide (a = b))))
    | _ => none
  | _ => none
abbrev rIsD (neg : Bool) : R2 := fun x y H Q => (y = .non ∧ Q (.bl (neg ^^ decide (x = .non))) H) ∨ (∃ a b : Bool, x = .bl a ∧ y = .bl b ∧ Q (.bl (neg ^^ decide (a = b))) H)
theorem rv_isN (h : Rv K F H v x) : decide (v = V.non) = isN x := by
  cases x with
  | none => rw [h.non]; rfl
  | bool b => rw [h.bl]; rfl
  | int b => rw [h.int]; rfl
  | str b => rw [h.str]; rfl
  | list xs =>
    generalize e : PyData.list xs = d at h
    cases h with
    | val h => subst e; cases h; rfl
    | @ob p o _ _ => cases o <;> first | rfl | cases e
  | tuple xs =>
    obtain ⟨a, vs, od, rfl, _⟩ := h.tup
    rfl
  | dict xs =>
    generalize e : PyData.dict xs = d at h
    cases h with
    | val h => subst e; cases h <;> rfl
    | @ob p o _ _ => cases o <;> first | rfl | cases e
theorem opd_is (neg : Bool) : OpD K (rIsD neg) (isD neg) := fun F H v u x y res Q ex rv ru e wd => by
  unfold isD at e
  split at e
  · cases e
    exact .inl ⟨ru.non, by rw [rv_isN rv]; exact wd_val wd (.bl _)⟩
  · split at e
    · cases e
      exact .inr ⟨_, _, rv.bl, ru.bl, wd_val wd (.bl _)⟩
    · cases e
  · cases e
theorem op_isD : OpR X (compareOp .Is) (rIsD false) := by
  intro pins s σ H x y a b Q I rx ry h
  rcases h with ⟨e, q⟩ | ⟨i, j, e1, e2, q⟩
  · exact op_isN pins s σ H x y a b Q I rx ry ⟨e, by simpa using q⟩
  · exact op_isBl pins s σ H x y a b Q I rx ry ⟨i, j, e1, e2, by simpa using q⟩
theorem op_isNotD : OpR X (compareOp .IsNot) (rIsD true) := by
  intro pins s σ H x y a b Q I rx ry h
  rcases h with ⟨e, q⟩ | ⟨i, j, e1, e2, q⟩
  · exact op_notN pins s σ H x y a b Q I rx ry ⟨e, by simpa using q⟩
  · exact op_notBl pins s σ H x y a b Q I rx ry ⟨i, j, e1, e2, by simpa using q⟩

/-! ### subscripts -/
def ixD (x y : PyData) : Option RD := match x with
  | .dict [(.bool true, .list xs)] => match y with
    | .int i => (atI xs i).map RD.val
    | _ => none
  | .list xs => match y with
    | .int i => (atI xs i).map RD.val
    | _ => none
  | .tuple xs => match y with
    | .int i => (atI xs i).map RD.val
    | _ => none
  | .str s => match y with
    | .int i => if s.length ≤ lim then (atI s.cps.toList i).map fun c => RD.val (.str ⟨#[c]⟩) else none
    | _ => none
  | .dict kvs => if keyOk kvs y = true then (dGet kvs y).map RD.val else none
  | _ => none
abbrev rIxK : R2 := fun x y H Q => ∃ a v, x = .ref a ∧ DGx H a y (some v) ∧ Q v H
theorem ix_dict (hr : Room k X.A) : IxR X rIxK := by
  intro value slice pins s σ H x y v u Q I rx ry h hs
  obtain ⟨a, w, rfl, g, q⟩ := h
  obtain rfl : v = Value.ref a := rx
  have hT := (isD_at I g.isD).1
  have hu := hr.un
  have h2 : wpAny (model X.prog X.w) X.A (getItem (.ref a) u) (EP X pins σ Q) X.xe s := x_getItem (by omega) I g ry fun w' s3 I3 rw' => ⟨w, H, I3, rw', q⟩
  unfold subscriptTail
  refine wpAny_bind ?_
  rw [getitemInPython_of_ne hT.not_modules]
  refine wpAny_bind (wpAny_specialOf hT PySem.F.slot_dict_getitem.lookup ?_)
  have fin : wpAny (model X.prog X.w) X.A (subscripted slice false (.ref a) u) (fun r s₃ => wpAny (model X.prog X.w) X.A (letTemporaryGo value (.ref a) r >>= fun _ => pure r) (EP X pins σ Q) X.xe s₃) X.xe s := by
    rw [hs]
    exact wpAny_operating (wpAny_mono h2 (fun r s₃ h₃ => wpAny_bind (wpAny_letTemporaryGo (wpAny_pure h₃))) fun _ _ x => x)
  first
    | exact wpAny_pure (wpAny_bind fin)
    | exact wpAny_bind (wpAny_pure (wpAny_bind fin))
    | exact wpAny_bind fin
abbrev rIxD (K : PySem.W.Frag) : R2 := fun x y H Q => rIx K x y H Q ∨ rIxK x y H Q
theorem ix_D (hr : Room k X.A) : IxR X (rIxD X.K) := IxR.or ix_seq (ix_dict hr)
theorem atI_rep {vs : List V} {ds : List PyData} {i : Int} {d : PyData} (r : Reps K F vs ds) (h : atI ds i = some d) : ∃ w, atI vs i = some w ∧ Rep K F w d := by
  unfold atI at h ⊢
  rw [r.length]
  cases q : ixN ds.length i with
  | none => rw [q] at h; cases h
  | some j =>
    rw [q] at h
    exact r.get h
theorem opd_ix : OpD K (rIxD K) ixD := fun F H v u x y res Q ex rv ru e wd => by
  unfold ixD at e
  split at e
  · split at e
    · rename_i xs i
      obtain ⟨d, h1, rfl⟩ := Option.map_eq_some_iff.mp e
      obtain ⟨a, vs, rfl, h2, r2⟩ := rv.scr ex
      obtain ⟨w, h3, h4⟩ := atI_rep r2 h1
      exact .inl (.inl ⟨_, _, _, _, rfl, ru.int, h2, h3, wd_val wd h4⟩)
    · cases e
  · split at e
    · rename_i xs i
      obtain ⟨d, h1, rfl⟩ := Option.map_eq_some_iff.mp e
      obtain ⟨a, vs, rfl, h2, r2⟩ := rv.lst ex
      obtain ⟨w, h3, h4⟩ := atI_rep r2 h1
      exact .inl (.inl ⟨_, _, _, _, rfl, ru.int, sql h2, h3, wd_val wd h4⟩)
    · cases e
  · split at e
    · rename_i xs i
      obtain ⟨d, h1, rfl⟩ := Option.map_eq_some_iff.mp e
      obtain ⟨a, vs, od, rfl, h2, r2, _⟩ := rv.tup
      obtain ⟨w, h3, h4⟩ := atI_rep r2 h1
      exact .inl (.inr (.inl ⟨_, _, _, _, rfl, ru.int, sqh (ex.h h2), h3, wd_val wd h4⟩))
    · cases e
  · split at e
    · split at e
      · rename_i hl
        obtain ⟨c, h1, rfl⟩ := Option.map_eq_some_iff.mp e
        exact .inl (.inr (.inr ⟨_, _, _, rv.str, ru.int, lim_le hl, h1, wd_val wd (.str _)⟩))
      · cases e
    · cases e
  · split at e
    · rename_i h
      obtain ⟨d, h1, rfl⟩ := Option.map_eq_some_iff.mp e
      obtain ⟨a, o, rfl, g, m⟩ := dget_of ex rv ru h
      rw [h1] at m
      obtain ⟨w, rfl, m⟩ := m
      exact .inr ⟨a, w, rfl, g, wd_val wd m⟩
    · cases e
  · cases e

/-! ### slices -/
def cutD {α : Type} (xs : List α) (lo hi : Option Int) : List α := (xs.drop (HT.sIx xs.length 0 lo)).take (HT.sIx xs.length xs.length hi - HT.sIx xs.length 0 lo)
def slD (x : PyData) (lo hi : Option Int) : Option RD := match x with
  | .dict [(.bool true, .list xs)] => some (.own (.lst (cutD xs lo hi)))
  | .list xs => some (.own (.lst (cutD xs lo hi)))
  | .tuple xs => some (.val (.tuple (cutD xs lo hi)))
  | .str s => if s.length ≤ lim then some (.val (.str (cutS s lo hi))) else none
  | _ => none
/-- t[lo:hi] -/
def rSlX (K : PySem.W.Frag) : V → Option Int → Option Int → Hp → VK → Prop := fun x lo hi H Q => ∃ a xs, x = .ref a ∧ SqT K H a xs ∧
  (HT.sIx xs.length 0 lo = 0 ∧ HT.sIx xs.length xs.length hi = xs.length → Q (.ref a) H) ∧ (¬ (HT.sIx xs.length 0 lo = 0 ∧ HT.sIx xs.length xs.length hi = xs.length) → ∀ p od, od.dict = none → H p = none → Q (.ref p) (upd H p (tupHO od (cutV xs lo hi))))
theorem sl_tupX : SlR X (rSlX X.K) := by
  intro pins s σ H x v vl vu lo hi sl Q I rx hs pl pu h
  obtain ⟨a, xs, rfl, hx, q1, q2⟩ := h
  by_cases hw : HT.sIx xs.length 0 lo = 0 ∧ HT.sIx xs.length xs.length hi = xs.length
  · exact sl_tupA pins s σ H _ v vl vu lo hi sl Q I rx hs pl pu ⟨a, xs, rfl, hx, q1, fun z => absurd hw z⟩
  · cases rx
    obtain ⟨its, r, ht, hz⟩ := I.tuple hx
    have hlen : its.toArray.size = xs.length := by rw [List.size_toArray]; exact r.length.symm
    refine ⟨"tuple", _, PyProof.Rows.slot_tuple_getitem.lookup, ht.typeIs, ?_⟩
    refine HT.getItem_tuple_cut ht hs pl pu (by rw [hlen]; exact hw) ?_ (by rw [hlen]; exact hz)
    rw [hlen]
    exact ⟨.ref s.heap.objs.size, _, inv_tup I (fun b ob q => Heap.get?_push_of_some _ q) ((r.drop (HT.sIx xs.length 0 lo)).take (HT.sIx xs.length xs.length hi - HT.sIx xs.length 0 lo)) (Nat.le_trans (cutV_length xs lo hi) hz) (Heap.get?_push_size _ rfl), rfl, q2 hw _ _ rfl (I.hok.fresh (Nat.le_refl _))⟩
abbrev rSlD (K : PySem.W.Frag) : V → Option Int → Option Int → Hp → VK → Prop := fun x lo hi H Q => rSlL K x lo hi H Q ∨ rSlX K x lo hi H Q ∨ rSlS x lo hi H Q
theorem sl_D : SlR X (rSlD X.K) := SlR.or sl_list (SlR.or sl_tupX sl_str)
theorem reps_cut {vs : List V} {ds : List PyData} (r : Reps K F vs ds) (lo hi : Option Int) : Reps K F (cutV vs lo hi) (cutD ds lo hi) := by
  unfold cutV cutD
  rw [r.length]
  exact (r.drop _).take _
/-- a part of a slice -/
def fPart (f : Option (M RD)) : M (Option Int) := fun e => match f with
  | none => some (.ok none e)
  | some f => bnd (f e) fun r e1 => match r with
    | .val (.int i) => some (.ok (some i) e1)
    | _ => none
theorem slD_end {x : PyData} {lo hi : Option Int} {res : RD} {Q : VK} (ex : Ex F H) (rv : Rv K F H v x) (e : slD x lo hi = some res) (wd : Wd K F H res Q) : rSlD K v lo hi H Q := by
  unfold slD at e
  split at e
  · cases e
    obtain ⟨a, vs, rfl, h2, r2⟩ := rv.scr ex
    exact .inl ⟨_, _, rfl, h2, wd_list' ex wd (reps_cut r2 lo hi)⟩
  · cases e
    obtain ⟨a, vs, rfl, h2, r2⟩ := rv.lst ex
    exact .inl ⟨_, _, rfl, sql h2, wd_list' ex wd (reps_cut r2 lo hi)⟩
  · cases e
    obtain ⟨a, vs, od, rfl, h2, r2, nd⟩ := rv.tup
    refine .inr (.inl ⟨_, _, rfl, sqh (ex.h h2), fun z => wd_val wd (.tup h2 nd ?_), fun _ => wd_tup' ex wd (reps_cut r2 lo hi)⟩)
    have := reps_cut r2 lo hi
    unfold cutD at this ⊢
    unfold cutV at this
    rw [z.1, z.2] at this
    simpa using this
  · split at e
    · rename_i hl
      cases e
      exact .inr (.inr ⟨_, rv.str, lim_le hl, wd_val wd (.str _)⟩)
    · cases e
  · cases e
end
section
variable {X : Cx} {b : Bx} {k : Nat} {pos p2 : Pos} {e e1 e2 : Expr} {f f1 f2 : M RD}
def fSl (f : M RD) (lo hi : Option (M RD)) : M RD := fun e => bnd (f e) fun r e1 => bnd (fPart lo e1) fun l e2 => bnd (fPart hi e2) fun h e3 => match rslv e3 r with
  | some x => rok (slD x l h) e3
  | _ => none
/-- a part's reading -/
def POv (X : Cx) (b : Bx) : Option (M RD) → Option Expr → Prop
  | none, none => True
  | some f, some e => PV X b f e
  | _, _ => False
def tPO (b : Bx) : Option (M RD) → TO
  | none => tNoPart
  | some f => tPart (tV b f)
theorem POv.po {f : Option (M RD)} {e : Option Expr} (h : POv X b f e) : PO X e (tPO b f) := by
  cases f <;> cases e <;> first | exact po_none | exact h.elim | exact po_some h
theorem part_of {f : Option (M RD)} {F H : Hp} {σ : St} {env : En} {kk : Option Int → En → Option (Ou RD)} {Q : VK} {R : Option Int → Hp → Prop} (I : IV b F H σ env) (ok : OkV b F H σ env (bnd (fPart f env) kk) Q)
    (hk : ∀ i env1 F1 H1, IV b F1 H1 σ env1 → Gr σ env F H σ env1 F1 H1 → OkV b F1 H1 σ env1 (kk i env1) Q → R i H1) : tPO b f σ H R := by
  cases f with
  | none => exact hk none env F H I (Gr.refl _ _ _ _) ok
  | some f =>
    have ok' : OkV b F H σ env (bnd (f env) fun r e1 => bnd (match r with
      | .val (.int i) => some (.ok (some i) e1)
      | _ => none) kk) Q := by
      revert ok
      show OkV b F H σ env (bnd (bnd (f env) fun r e1 => match r with
      | .val (.int i) => some (.ok (some i) e1)
      | _ => none) kk) Q → _
      cases f env with
      | none => exact id
      | some o => cases o <;> exact id
    refine vV I ok' fun r env1 v F1 H1 I1 g1 er ok1 => ?_
    cases r with
    | val d =>
      cases d with
      | int j =>
        cases (show Rep b.K F1 v (.int j) from er)
        exact ⟨j, rfl, hk _ env1 F1 H1 I1 g1 ok1⟩
      | _ => exact ok1.elim
    | _ => exact ok1.elim
theorem pv_sl {lo hi : Option Expr} {fl fh : Option (M RD)} (g : Gx X b k) (h : PV X b f e) (hl : POv X b fl lo) (hh : POv X b fh hi) : PV X b (fSl f fl fh) (.Subscript e (.Slice lo hi none p2) pos) :=
  PE.imp (pe_slice sl_D h hl.po hh.po) fun σ H Q h => by
    obtain ⟨F, env, I, ok⟩ := h
    refine vV I ok fun r env1 v F1 H1 I1 g1 er ok1 => ?_
    refine part_of I1 ok1 fun i env2 F2 H2 I2 g2 ok2 => ?_
    refine part_of I2 ok2 fun j env3 F3 H3 I3 g3 ok3 => ?_
    have er3 := (er.step g2).step g3
    have ok3 : OkV b F3 H3 σ env3 (match rslv env3 r with
      | some x => rok (slD x i j) env3
      | _ => none) Q := ok3
    cases h1 : rslv env3 r with
    | none => rw [h1] at ok3; exact ok3.elim
    | some x =>
      rw [h1] at ok3
      have ok3 : OkV b F3 H3 σ env3 (rok (slD x i j) env3) Q := ok3
      cases h2 : slD x i j with
      | none => rw [h2] at ok3; exact ok3.elim
      | some res =>
        rw [h2] at ok3
        have z1 := Er.rv I3 er3 h1
        have wd := wd_of I3 ok3
        rw [g.kk] at z1 wd
        exact slD_end I3.ext z1 h2 wd
/-! ### one operand -/
def UnD (K : PySem.W.Frag) (r : V → Hp → VK → Prop) (op : PyData → Option RD) : Prop := ∀ (F H : Hp) (v : V) (x : PyData) (res : RD) (Q : VK), Ex F H → Rv K F H v x → op x = some res → Wd K F H res Q → r v H Q
def fUn (op : PyData → Option RD) (f : M RD) : M RD := fun e => bnd (f e) fun r e1 => match rslv e1 r with
  | some x => rok (op x) e1
  | none => none
theorem pv_un {op : UnaryOp} {r : V → Hp → VK → Prop} {fo : PyData → Option RD} (ho : UnR X (unaryOp op) r) (hd : UnD X.K r fo) (g : Gx X b k) (h : PV X b f e) : PV X b (fUn fo f) (.UnaryOp op e pos) := PE.imp (pe_un ho h) fun σ H Q h => by
  obtain ⟨F, env, I, ok⟩ := h
  refine vV I ok fun r env1 v F1 H1 I1 g1 er ok1 => ?_
  cases h1 : rslv env1 r with
  | none => rw [h1] at ok1; exact ok1.elim
  | some x =>
    rw [h1] at ok1
    have ok1 : OkV b F1 H1 σ env1 (rok (fo x) env1) Q := ok1
    cases h2 : fo x with
    | none => rw [h2] at ok1; exact ok1.elim
    | some res =>
      rw [h2] at ok1
      have z1 := Er.rv I1 er h1
      have wd := wd_of I1 ok1
      rw [g.kk] at z1 wd
      exact hd F1 H1 v x res Q I1.ext z1 h2 wd
def negD : PyData → Option RD
  | .int i => some (.val (.int (-i)))
  | _ => none
theorem und_neg {K : PySem.W.Frag} : UnD K (rU fun i => .int (-i)) negD := fun F H v x res Q ex rv e wd => by
  unfold negD at e
  split at e
  · cases e
    exact ⟨_, rv.int, wd_val wd (.int _)⟩
  · cases e
end
end Pv
namespace Pv
open PySem PySem.Spec PyProof.Rows L2

/-! ### several values frozen -/
def unD : En → Option (List PyData)
  | [] => some []
  | .d x :: as => (unD as).map (x :: ·)
  | _ => none
def frzs : List RD → En → Option (List PyData × En)
  | [], e => some ([], e)
  | r :: rs, e => match frzR r e with
    | none => none
    | some (d, e1) => match frzs rs e1 with
      | none => none
      | some (ds, e2) => some (d :: ds, e2)
section
variable {b : Bx} {F F0 F1 F' H H1 H' Hs : Hp} {σ σ0 σ' : St} {env env0 env1 env' : En} {Q : VK} {D : Ends}
theorem frzs_bind : ∀ (rs : List RD) {env env' : En} {ds : List PyData}, frzs rs env = some (ds, env') → bindA (rs.map fun _ => Mo.d) rs [] env = some (ds.map Sl.d, env')
  | [], env, env', ds, h => by cases h; rfl
  | r :: rs, env, env', ds, h => by
    have h : (match frzR r env with
      | none => none
      | some (d, e1) => match frzs rs e1 with
        | none => none
        | some (ds, e2) => some (d :: ds, e2)) = some (ds, env') := h
    show (if movedR r [] = true then none else match frzR r env with
      | some (d, e1) => match bindA (rs.map fun _ => Mo.d) rs [] e1 with
        | some (as, e2) => some (Sl.d d :: as, e2)
        | none => none
      | none => none) = _
    have hm : movedR r [] = false := by cases r <;> rfl
    rw [hm, if_neg Bool.false_ne_true]
    cases q : frzR r env with
    | none => rw [q] at h; cases h
    | some z =>
      obtain ⟨d, e1⟩ := z
      rw [q] at h
      have h : (match frzs rs e1 with
        | none => none
        | some (ds, e2) => some (d :: ds, e2)) = some (ds, env') := h
      cases q2 : frzs rs e1 with
      | none => rw [q2] at h; cases h
      | some z =>
        obtain ⟨ds2, e2⟩ := z
        rw [q2] at h
        cases h
        show (match bindA (rs.map fun _ => Mo.d) rs [] e1 with
        | some (as, e2) => some (Sl.d d :: as, e2)
        | none => none) = _
        rw [frzs_bind rs q2]
        rfl
theorem args_reps {mv : List Nat} {vs : List V} {rs : List RD} : ∀ {as : En}, Args b Hs F H σ env mv vs rs as → ∀ {ds : List PyData}, as = ds.map Sl.d → Reps b.K F vs ds := fun {as} A => by
  induction A with
  | nil => intro ds h; cases ds <;> first | exact .nil | cases h
  | @cons mv v r s vs rs as a n t ih =>
    intro ds h
    cases ds with
    | nil => cases h
    | cons d ds =>
      cases h
      exact .cons a (ih rfl)
theorem frzs_ok {vs : List V} {rs : List RD} {ds : List PyData} (I : IV b F H σ env) (g : Gr σ0 env0 F0 Hs σ env F H) (er : Ers b Hs F H σ env vs rs) (h : frzs rs env = some (ds, env')) :
    ∃ F', IV b F' H σ env' ∧ Gr σ0 env0 F0 Hs σ env' F' H ∧ Reps b.K F' vs ds ∧ Ex F F' := by
  obtain ⟨F', I', g', x, A, _, _⟩ := bind_ok _ rs I g er (fun i hi => by cases hi) (frzs_bind rs h)
  exact ⟨F', I', g', args_reps A rfl, x⟩
end

/-! ### displays -/
def fLst (fs : List (M RD)) : M RD := fun e => bnd (fArgs fs e) fun rs e1 => match frzs rs e1 with
  | some (ds, e2) => if ds.length ≤ lim then some (.ok (.own (.lst ds)) e2) else none
  | none => none
def fTup (fs : List (M RD)) : M RD := fun e => bnd (fArgs fs e) fun rs e1 => match frzs rs e1 with
  | some (ds, e2) => if ds.length ≤ lim then some (.ok (.val (.tuple ds)) e2) else none
  | none => none
section
variable {X : Cx} {b : Bx} {k : Nat} {pos pos' : Pos} {e e1 e2 : Expr} {es : List Expr} {f f1 f2 : M RD} {fs : List (M RD)}
theorem aV0 {F H : Hp} {σ : St} {env : En} {kk : List RD → En → Option (Ou RD)} {Q : VK} {R : List V → Hp → Prop} (I : IV b F H σ env) (ok : OkV b F H σ env (bnd (fArgs fs env) kk) Q)
    (hk : ∀ rs env1 vs F1 H1, IV b F1 H1 σ env1 → Gr σ env F H σ env1 F1 H1 → Ers b H F1 H1 σ env1 vs rs → OkV b F H σ env (kk rs env1) Q → R vs H1) : tA b fs σ H R := by
  refine ⟨F, env, I, ?_⟩
  revert ok
  cases fArgs fs env with
  | none => exact fun z => z
  | some o =>
    cases o with
    | ok r e => exact fun ok vs F1 H1 I1 g er => hk r e vs F1 H1 I1 g er ok
    | ex c e => exact fun ok => ok
theorem pv_lst (h : PAv X b fs es) : PV X b (fLst fs) (.List es pos) := PE.imp (pe_lst h) fun σ H Q h => by
  obtain ⟨F, env, I, ok⟩ := h
  refine aV0 I ok fun rs env1 vs F1 H1 I1 g1 er ok0 => ?_
  cases q : frzs rs env1 with
  | none => rw [q] at ok0; exact ok0.elim
  | some z =>
    obtain ⟨ds, e2⟩ := z
    rw [q] at ok0
    have ok0 : OkV b F H σ env (if ds.length ≤ lim then some (.ok (.own (.lst ds)) e2) else none) Q := ok0
    by_cases hl : ds.length ≤ lim
    · rw [if_pos hl] at ok0
      obtain ⟨F2, I2, g2, rp, _⟩ := frzs_ok I1 g1 er q
      refine ⟨by rw [rp.length]; exact lim_le hl, fun p hp => ?_⟩
      exact ok0 _ F2 _ (I2.allocH hp) (g2.trans (Gr.newH hp)) ⟨p, rfl, I2.ext.none hp, ⟨vs, upd_same, rp⟩, I2.h0 p hp, g1.d p hp, I2.notMm hp⟩
    · rw [if_neg hl] at ok0; exact ok0.elim
def tTupX (t : TA) : TE := fun σ H Q => t σ H fun xs H1 => xs.length ≤ sizeLine ∧ ∀ p od, od.dict = none → H1 p = none → Q (.ref p) (upd H1 p (tupHO od xs))
theorem pe_tupX {x1 : Nat} {t : TA} (h : PA X es t) : PE X (.Tuple es x1 pos) (tTupX t) := by
  refine ⟨fun pins s σ H Q I hq => ?_⟩
  refine wpAny_Tuple_spliced (thn (h.run pos pins s σ H _ I hq) fun us s1 ⟨xs, H1, I1, r, z, q⟩ => ⟨by rw [← r.length]; exact z, ?_⟩)
  exact ⟨.ref s1.heap.objs.size, _, inv_tup I1 (fun b u e => Heap.get?_push_of_some _ e) r z (Heap.get?_push_size _ rfl), rfl, q _ _ rfl (I1.hok.fresh (Nat.le_refl _))⟩
theorem pv_tup {j : Nat} (h : PAv X b fs es) : PV X b (fTup fs) (.Tuple es j pos) := PE.imp (pe_tupX h) fun σ H Q h => by
  obtain ⟨F, env, I, ok⟩ := h
  refine aV0 I ok fun rs env1 vs F1 H1 I1 g1 er ok0 => ?_
  cases q : frzs rs env1 with
  | none => rw [q] at ok0; exact ok0.elim
  | some z =>
    obtain ⟨ds, e2⟩ := z
    rw [q] at ok0
    have ok0 : OkV b F H σ env (if ds.length ≤ lim then some (.ok (.val (.tuple ds)) e2) else none) Q := ok0
    by_cases hl : ds.length ≤ lim
    · rw [if_pos hl] at ok0
      obtain ⟨F2, I2, g2, rp, _⟩ := frzs_ok I1 g1 er q
      refine ⟨by rw [rp.length]; exact lim_le hl, fun p od nd hp => ?_⟩
      exact ok0 _ _ _ (I2.allocF hp) (g2.trans (Gr.newF I2 hp)) (.tup upd_same nd (rp.mono (Ex.new (I2.ext.none hp))))
    · rw [if_neg hl] at ok0; exact ok0.elim
/-- {} : of ints and texts, or of tuples of such -/
def fDnw (t : Bool) : M RD := fun e => some (.ok (.own (.dct t [])) e)
theorem pv_dnK : PV X b (fDnw false) (.Dict [] [] pos) := PE.imp pe_dnewK fun σ H Q h => by
  obtain ⟨F, env, I, ok⟩ := h
  intro p hp
  exact ok _ F _ (I.allocH hp) (Gr.newH hp) ⟨p, rfl, I.ext.none hp, ⟨[], upd_same, .nil⟩, I.h0 p hp, hp, I.notMm hp⟩
theorem pv_dnT : PV X b (fDnw true) (.Dict [] [] pos) := PE.imp pe_dnewT fun σ H Q h => by
  obtain ⟨F, env, I, ok⟩ := h
  intro p hp
  exact ok _ F _ (I.allocH hp) (Gr.newH hp) ⟨p, rfl, I.ext.none hp, ⟨[], upd_same, .nil⟩, I.h0 p hp, hp, I.notMm hp⟩

/-! ### an object of a slot is changed -/
/-- what a change does to an object, with what it hands back -/
abbrev Ch := Ob → List PyData → Option (PyData × Ob)
/-- r, done at p, is c -/
def ChD (K : PySem.W.Frag) (r : V → List V → Hp → VK → Prop) (c : Ch) : Prop :=
  ∀ (F H : Hp) (p : Addr) (vs : List V) (o o' : Ob) (ds : List PyData) (d : PyData) (Q : VK), Ex F H → F p = none → RepOb K F H p o → Reps K F vs ds → c o ds = some (d, o') →
    (∀ w ho', mob ho' = true → RepOb K F (upd H p ho') p o' → Rep K F w d → Q w (upd H p ho')) → r (.ref p) vs H Q
/-- the object's type -/
def obT : Ob → Bool
  | .lst _ => true
  | .dct _ _ => false
/-- is it a list (dict) that stands in the slot -/
def isOb (l : Bool) (i : Nat) (e : En) : Bool := match e[i]? with
  | some (.m _ o) => obT o == l
  | _ => false
def fMth (l : Bool) (i : Nat) (c : Ch) (fs : List (M RD)) : M RD := fun e => if isOb l i e = true then bnd (fArgs fs e) fun rs e1 => match frzs rs e1 with
  | none => none
  | some (ds, e2) => match e2[i]? with
    | some (.m w o) => match c o ds with
      | some (d, o') => some (.ok (.val d) (e2.set i (.m w o')))
      | none => none
    | _ => none
  else none
/-- what a value's type is -/
def tyS (T : String) (x : V) (H : Hp) : Prop := match x with
  | .str _ => T = "str"
  | .ref p => (T = "list" ∧ ∃ xs, H p = some (.lst xs)) ∨ (T = "tuple" ∧ ∃ od xs, H p = some (.frz od (.tup xs)) ∧ od.dict = none) ∨ (T = "dict" ∧ IsD H p)
  | _ => False
theorem tyS_is {pins : List (Addr × Obj)} {σ : St} {H : Hp} {s : Shared} {T : String} {x : V} {v : Value} (I : Inv X pins σ H s) (r : RelV x v) (ty : tyS T x H) :
    s.TypeIs v T ∧ ∀ a, v = .ref a → ∃ ob, s.heap.get? a = some ob ∧ ob.dict = none := by
  cases x with
  | str z =>
    obtain ⟨t, rfl⟩ := r
    cases (show T = "str" from ty)
    exact ⟨typeIs_str s z t, fun _ e => nomatch e⟩
  | ref p =>
    cases r
    rcases ty with ⟨rfl, xs, hq⟩ | ⟨rfl, od, xs, hq, hn⟩ | ⟨rfl, hk⟩
    · obtain ⟨its, _, pl, _⟩ := I.list (sql hq)
      refine ⟨pl.isList.typeIs, fun a e => ?_⟩
      cases e
      obtain ⟨o, n, e, c, hd, _⟩ := pl
      exact ⟨o, e, hd⟩
    · obtain ⟨e1, z, us, r, o, ho, hc, hx⟩ := I.hok p _ hq
      refine ⟨⟨o, ho, hc⟩, fun a e => ?_⟩
      cases e
      exact ⟨_, e1, hn⟩
    · obtain ⟨h1, h2, _⟩ := isD_at I hk
      exact ⟨h1, h2⟩
  | _ => exact False.elim ty
def tBMS (T : String) (r : V → List V → Hp → VK → Prop) (to : TE) (t : TA) : TE := fun σ H Q => to σ H fun x H1 => tyS T x H1 ∧ t σ H1 fun xs H2 => r x xs H2 Q
def tBMS0 (T : String) (r : V → List V → Hp → VK → Prop) (to : TE) : TE := fun σ H Q => to σ H fun x H1 => tyS T x H1 ∧ r x [] H1 Q
theorem pe_bmS0 {o : Expr} {to : TE} {name : Str} {apos cpos : Pos} {T id : String} {r : V → List V → Hp → VK → Prop} (pa : PlainAttrs T) (slot : Slot T name id) (hty : typeOf (.builtin id) = pure (.type "method_descriptor")) (hm : MtR X id r) (ho : PE X o to)
    (hbase : attributeBase o name X.env (eval o X.env) = eval o X.env := by rfl) (hline : (apos.endLine == cpos.line) = true := by rfl) : PE X (.Call (.Attribute o name apos) [] [] cpos) (tBMS0 T r to) := by
  refine ⟨fun pins s σ H Q I h => ?_⟩
  refine wpAny_Call_method0_late hbase hline (thn (ho.run pins s σ H _ I h) fun v s1 ⟨x, H1, I1, r1, ty, q1⟩ => ?_)
  obtain ⟨h1, h2⟩ := tyS_is I1 r1 ty
  exact ⟨T, id, pa, slot, hty, h1, h2, Calls.callWith_builtin rfl (PySem.evalArgs_none (hm pins s1 σ H1 x [] v [] Q I1 r1 .nil q1))⟩
theorem pe_bmS {o e : Expr} {es : List Expr} {to : TE} {t : TA} {name : Str} {apos cpos : Pos} {T id : String} {r : V → List V → Hp → VK → Prop} (pa : PlainAttrs T) (slot : Slot T name id) (hty : typeOf (.builtin id) = pure (.type "method_descriptor")) (hm : MtR X id r) (ho : PE X o to) (ha : PA X (e :: es) t)
    (hbase : attributeBase o name X.env (eval o X.env) = eval o X.env := by rfl)
    (hfew : ((backTo cpos (starEach (e :: es) X.env)).all (fun x => !x.1) && (backToKw cpos (keywordEach [] X.env)).all (fun x => x.1.isSome)
      && decide ((e :: es).length + ([] : List Keyword).length + (if ([] : List Keyword).isEmpty then 0 else 1) < 30)) = true := by rfl)
    (hline : (apos.endLine == cpos.line) = true := by rfl) (hs : starEach (e :: es) X.env = (false, eval e X.env) :: starEach es X.env := by rfl) (hplain : (backTo cpos (starEach es X.env)).any (·.1) = false := by rfl) :
    PE X (.Call (.Attribute o name apos) (e :: es) [] cpos) (tBMS T r to t) := by
  refine ⟨fun pins s σ H Q I h => ?_⟩
  refine wpAny_Call_method_late hbase hfew hline rfl (thn (ho.run pins s σ H _ I h) fun v s1 ⟨x, H1, I1, r1, ty, q1⟩ => ?_)
  obtain ⟨h1, h2⟩ := tyS_is I1 r1 ty
  refine ⟨T, id, pa, slot, hty, h1, h2, ?_⟩
  have hA := ha.run cpos pins s1 σ H1 _ I1 q1
  rw [hs] at hA ⊢
  refine Calls.callWith_builtin (by show (false || (backTo cpos (starEach es X.env)).any (·.1)) = false; rw [hplain] <;> rfl) (Calls.evalArgs_plain ?_)
  exact thn hA fun us s2 ⟨vs, H2, I2, r2, q2⟩ => hm pins s2 σ H2 x vs v us Q I2 r1 r2 q2
theorem chg_end {r : V → List V → Hp → VK → Prop} {c : Ch} {i : Nat} (hd : ChD X.K r c) (hk : b.K = X.K) {F H F1 H1 : Hp} {σ : St} {env env1 : En} {vs : List V} {rs : List RD} {ds : List PyData} {e2 : En} {w : Bool} {o o' : Ob} {d : PyData} {p : Addr} {Q : VK}
    (I1 : IV b F1 H1 σ env1) (g1 : Gr σ env F H σ env1 F1 H1) (er : Ers b H F1 H1 σ env1 vs rs) (q : frzs rs env1 = some (ds, e2)) (q2 : e2[i]? = some (.m w o)) (q3 : c o ds = some (d, o')) (hs : σ[i]? = some (some (.ref p)))
    (ok : OkV b F H σ env (some (.ok (.val d) (e2.set i (.m w o')))) Q) : r (.ref p) vs H1 Q := by
  obtain ⟨F2, I2, g2, rp, _⟩ := frzs_ok I1 g1 er q
  obtain ⟨u, h1, p', h2, h3, h4, h5⟩ := I2.sl i _ q2
  rw [hs] at h1
  cases h1
  cases h2
  rw [hk] at h4 rp
  refine hd F2 H1 p vs o o' ds d Q I2.ext h3 h4 rp q3 fun v ho' m r2 r3 => ?_
  rw [← hk] at r2 r3
  exact ok v F2 _ (I2.mut q2 hs m r2) (g2.trans (Gr.mut I2 q2 hs)) r3
/-- the object of the slot, its type -/
theorem isOb_ty {l : Bool} {i : Nat} {F H : Hp} {σ : St} {env : En} {T : String} (I : IV b F H σ env) (h : isOb l i env = true) (hT : T = if l = true then "list" else "dict") : ∃ p, σ[i]? = some (some (.ref p)) ∧ tyS T (.ref p) H := by
  unfold isOb at h
  split at h
  · rename_i w o hx
    obtain ⟨u, h1, p, h2, h3, h4, h5⟩ := I.sl i _ hx
    subst h2
    refine ⟨p, h1, ?_⟩
    cases o with
    | lst xs =>
      have e : l = true := (eq_of_beq h).symm
      subst e hT
      obtain ⟨vs, h6, _⟩ := h4
      exact .inl ⟨rfl, vs, h6⟩
    | dct t kvs =>
      have e : l = false := (eq_of_beq h).symm
      subst e hT
      refine .inr (.inr ⟨rfl, ?_⟩)
      cases t with
      | false => obtain ⟨ks, h6, _⟩ := h4; exact .inl ⟨ks, .inl h6⟩
      | true => obtain ⟨ks, h6, _⟩ := h4; exact .inr ⟨ks, .inl h6⟩
  · cases h
/-- a method of the object of slot i -/
theorem pv_mth (i : Nat) (l : Bool) {T id : String} {name x : Str} {px apos : Pos} {r : V → List V → Hp → VK → Prop} {c : Ch} (pa : PlainAttrs T) (slot : Slot T name id) (hty : typeOf (.builtin id) = pure (.type "method_descriptor")) (hm : MtR X id r) (hd : ChD X.K r c)
    (g : Gx X b k) (ha : PAv X b fs (e :: es)) (hT : T = (if l = true then "list" else "dict") := by rfl)
    (hN : X.N[i]? = some x := by rfl) (hv : Vis X.env.scope x := by first | exact Or.inl rfl | exact Or.inr (Or.inl rfl) | exact Or.inr (Or.inr rfl)) (hdb : (x == ("__debug__" : Str)) = false := by decide) (hcd : (x == ("__classdict__" : Str)) = false := by decide)
    (hbase : attributeBase (.Name x px) name X.env (eval (.Name x px) X.env) = eval (.Name x px) X.env := by rfl)
    (hfew : ((backTo pos (starEach (e :: es) X.env)).all (fun x => !x.1) && (backToKw pos (keywordEach [] X.env)).all (fun x => x.1.isSome)
      && decide ((e :: es).length + ([] : List Keyword).length + (if ([] : List Keyword).isEmpty then 0 else 1) < 30)) = true := by rfl)
    (hline : (apos.endLine == pos.line) = true := by rfl) (hs : starEach (e :: es) X.env = (false, eval e X.env) :: starEach es X.env := by rfl) (hplain : (backTo pos (starEach es X.env)).any (·.1) = false := by rfl) :
    PV X b (fMth l i c fs) (.Call (.Attribute (.Name x px) name apos) (e :: es) [] pos) :=
  PE.imp (pe_bmS pa slot hty hm (pe_var hN hv hdb hcd) ha hbase hfew hline hs hplain) fun σ H Q h => by
    obtain ⟨F, env, I, ok⟩ := h
    unfold fMth at ok
    by_cases hb : isOb l i env = true
    · rw [if_pos hb] at ok
      obtain ⟨p, hs, ty⟩ := isOb_ty I hb hT
      refine ⟨.ref p, hs, ty, ?_⟩
      refine aV0 I ok fun rs env1 vs F1 H1 I1 g1 er ok0 => ?_
      cases q : frzs rs env1 with
      | none => rw [q] at ok0; exact ok0.elim
      | some z =>
        obtain ⟨ds, e2⟩ := z
        rw [q] at ok0
        have ok0 : OkV b F H σ env (match e2[i]? with
          | some (.m w o) => match c o ds with
            | some (d, o') => some (.ok (.val d) (e2.set i (.m w o')))
            | none => none
          | _ => none) Q := ok0
        cases q2 : e2[i]? with
        | none => rw [q2] at ok0; exact ok0.elim
        | some s =>
          rw [q2] at ok0
          cases s with
          | m w o =>
            have ok0 : OkV b F H σ env (match c o ds with
              | some (d, o') => some (.ok (.val d) (e2.set i (.m w o')))
              | none => none) Q := ok0
            cases q3 : c o ds with
            | none => rw [q3] at ok0; exact ok0.elim
            | some z =>
              obtain ⟨d, o'⟩ := z
              rw [q3] at ok0
              exact chg_end hd g.kk I1 g1 er q q2 q3 hs ok0
          | _ => exact ok0.elim
    · rw [if_neg hb] at ok; exact ok.elim
theorem pv_mth0 (i : Nat) (l : Bool) {T id : String} {name x : Str} {px apos : Pos} {r : V → List V → Hp → VK → Prop} {c : Ch} (pa : PlainAttrs T) (slot : Slot T name id) (hty : typeOf (.builtin id) = pure (.type "method_descriptor")) (hm : MtR X id r) (hd : ChD X.K r c)
    (g : Gx X b k) (hT : T = (if l = true then "list" else "dict") := by rfl)
    (hN : X.N[i]? = some x := by rfl) (hv : Vis X.env.scope x := by first | exact Or.inl rfl | exact Or.inr (Or.inl rfl) | exact Or.inr (Or.inr rfl)) (hdb : (x == ("__debug__" : Str)) = false := by decide) (hcd : (x == ("__classdict__" : Str)) = false := by decide)
    (hbase : attributeBase (.Name x px) name X.env (eval (.Name x px) X.env) = eval (.Name x px) X.env := by rfl)
    (hline : (apos.endLine == pos.line) = true := by rfl) :
    PV X b (fMth l i c []) (.Call (.Attribute (.Name x px) name apos) [] [] pos) :=
  PE.imp (pe_bmS0 pa slot hty hm (pe_var hN hv hdb hcd) hbase hline) fun σ H Q h => by
    obtain ⟨F, env, I, ok⟩ := h
    unfold fMth at ok
    by_cases hb : isOb l i env = true
    · rw [if_pos hb] at ok
      obtain ⟨p, hs, ty⟩ := isOb_ty I hb hT
      refine ⟨.ref p, hs, ty, ?_⟩
      have ok0 : OkV b F H σ env (match env[i]? with
          | some (.m w o) => match c o [] with
            | some (d, o') => some (.ok (.val d) (env.set i (.m w o')))
            | none => none
          | _ => none) Q := ok
      cases q2 : env[i]? with
      | none => rw [q2] at ok0; exact ok0.elim
      | some s =>
        rw [q2] at ok0
        cases s with
        | m w o =>
          have ok0 : OkV b F H σ env (match c o [] with
            | some (d, o') => some (.ok (.val d) (env.set i (.m w o')))
            | none => none) Q := ok0
          cases q3 : c o [] with
          | none => rw [q3] at ok0; exact ok0.elim
          | some z =>
            obtain ⟨d, o'⟩ := z
            rw [q3] at ok0
            exact chg_end (rs := []) (ds := []) hd g.kk I (Gr.refl _ _ _ _) .nil rfl q2 q3 hs ok0
        | _ => exact ok0.elim
    · rw [if_neg hb] at ok; exact ok.elim
end
end Pv
namespace PySem
open Sem (wp)
open AutoSeq1 (wpAny_loadPart')
theorem meets_enumerate_newT (l : Addr) (items : Array Value) (n : Nat) (dct : Option Addr) (sl : Array (Option Value)) :
    Meets (Builtin.«enumerate.__new__» ⟨[.type "enumerate", .ref l], []⟩) (fun _ R s => s.heap.get? l = some { cls := .type "tuple", dict := dct, data := .seq items n, slots := sl } ∧
      R (.ok (.ret (.ref (s.heap.push { cls := .type "tuple_iterator", data := .fields #[.ref l, .int 0 0] }).objs.size)))
        { s with heap := (s.heap.push { cls := .type "tuple_iterator", data := .fields #[.ref l, .int 0 0] }).push { cls := .type "enumerate", data := .fields #[.none, .bool false, .ref s.heap.objs.size, rawInt 0, .none, .none] } }) :=
  .of_wp fun prog w A R s h => by
    obtain ⟨hp, g, d, tk, os⟩ := s; obtain ⟨hl, h⟩ := h
    have hsub := sub_enumerate
    have hL : Heap.IsTuple (Shared.heap ⟨hp, g, d, tk, os⟩) l items := ⟨_, hl, rfl, n, rfl⟩
    wp_walk using wpAny_loadPart' hl
    refine wpAny_stack_any fun st => wpAny_pure ?_
    split
    · rename_i c _ _ _ _ _
      cases (c == Value.type "enumerate")
      · wp_walk using wpAny_loadPart' hl, wpAny_pyIter_tuple hL
        exact ⟨_, rfl, h⟩
      · wp_walk using wpAny_loadPart' hl, wpAny_pyIter_tuple hL
        exact ⟨_, rfl, h⟩
    · wp_walk using wpAny_loadPart' hl, wpAny_pyIter_tuple hL
      exact ⟨_, rfl, h⟩
section
variable {prog : Program} {w : World} {A : Around} {E : Value → Shared → Prop} {s : Shared}
theorem call_enumerate_tuple {l : Addr} {items : Array Value} {Q : Value → Shared → Prop} (hL : s.heap.IsTuple l items)
    (h : ∀ h', IsEnum h' (s.heap.objs.size + 1) s.heap.objs.size 0 .none → h'.IsTupleIter s.heap.objs.size l 0 → h'.objs.size = s.heap.objs.size + 2 →
      (∀ b o, s.heap.get? b = some o → h'.get? b = some o) → Q (.ref (s.heap.objs.size + 1)) { s with heap := h' }) :
    wpAny (model prog w) A (call (.type "enumerate") [.ref l]) Q E s := by
  obtain ⟨⟨c, dct, dt, sl⟩, hl, hc, n, hd⟩ := hL
  replace hc : c = .type "tuple" := hc
  replace hd : dt = .seq items n := hd
  subst hc hd
  refine callType_new F.called_enumerate (by decide) (F.typeCall_enumerate_1 _) (F.newCall_enumerate_1 _) (fun obj => F.args_object_init_2 obj _) F.entry_enumerate_new
    (meets_enumerate_newT l items n dct sl) ⟨hl, ?_⟩
  have hz : (s.heap.push { cls := .type "tuple_iterator", data := .fields #[.ref l, .int 0 0] }).objs.size = s.heap.objs.size + 1 := Heap.size_push ..
  show _ ∧ _
  rw [hz]
  have he : IsEnum ((s.heap.push { cls := .type "tuple_iterator", data := .fields #[.ref l, .int 0 0] }).push
      { cls := .type "enumerate", data := .fields #[.none, .bool false, .ref s.heap.objs.size, rawInt 0, .none, .none] }) (s.heap.objs.size + 1) s.heap.objs.size 0 .none := by
    have := Heap.get?_push_size (s.heap.push { cls := .type "tuple_iterator", data := .fields #[.ref l, .int 0 0] })
      (o := { cls := .type "enumerate", data := .fields #[.none, .bool false, .ref s.heap.objs.size, rawInt 0, .none, .none] }) rfl
    rw [hz] at this; exact this
  refine ⟨⟨_, he, rfl⟩, h _ he ⟨_, Heap.get?_push_of_some _ (Heap.get?_push_size _ rfl), rfl, rfl⟩ (by rw [Heap.size_push, hz]) fun b o x => Heap.get?_push_of_some _ (Heap.get?_push_of_some _ x)⟩
end
end PySem
namespace Pv
open PySem PySem.Spec PyProof.Rows L2
def IteT (K : PySem.W.Frag) (a : Addr) : It :=
  ⟨fun i H => ∃ (xs : List V) (x : V), SqT K H a xs ∧ xs[i]? = some x, fun i H v H' => ∃ T x, v = .ref T ∧ H T = none ∧ H' = upd H T (.tup [.int (i : Nat), x]) ∧ ∀ xs, SqT K H a xs → xs[i]? = some x, fun i H => ∃ xs : List V, SqT K H a xs ∧ xs.length ≤ i⟩
theorem turn_enumT {P : Program} {w : World} {K : PySem.W.Frag} {elts : List Expr} {kk : Nat} {tpos : Pos} (a e it : Addr) (hae : a ≠ it) (hae2 : a ≠ e) :
    Turn P w K (.Tuple elts kk tpos) (IteT K a) [e, it] e (fun i h => (∃ old, IsEnum h e it ((i : Nat) : Int) old) ∧ h.IsTupleIter it a i ∧ e ≠ it) where
  mem := by simp
  obj := fun i h st b hb => by
    obtain ⟨⟨old, he⟩, ⟨o, ho, hc, hd⟩, _⟩ := st
    have e' : b = e ∨ b = it := by simpa using hb
    rcases e' with z | z
    · rw [z]; exact ⟨_, he, fun v q => nomatch q⟩
    · rw [z]; exact ⟨o, ho, fun v q => by rw [hd] at q; cases q⟩
  keep := fun i h h' st k => let ⟨⟨old, he⟩, hi, hne⟩ := st; ⟨⟨old, k e (by simp) _ he⟩, hi.at fun o q => k it (by simp) o q, hne⟩
  item := by
    intro X hP hw hK hc i pins s σ H E I hf st hg
    subst hP hw hK
    obtain ⟨⟨old, he⟩, hit, hne⟩ := st
    obtain ⟨xs, x, hq, hx⟩ := hg
    obtain ⟨its, rv, p, hz⟩ := I.tuple hq
    obtain ⟨u, hu, ru⟩ := rv.get hx
    have hel : e < s.heap.objs.size := Heap.lt_size he
    have hil : it < s.heap.objs.size := by obtain ⟨_, q, _⟩ := hit; exact Heap.lt_size q
    have hlt : i < its.toArray.size := by
      obtain ⟨hl, _⟩ := List.getElem?_eq_some_iff.mp hu
      simpa using hl
    have hDr := Draws.tuple (prog := X.prog) (w := X.w) (A := X.A.in1) (show X.A.in1.handled = none from I.ok.hd hc) it a hae its.toArray
    have hni : e ∉ [it, a] := by
      simp only [List.mem_cons, List.not_mem_nil, or_false, not_or]
      exact ⟨hne, fun z => hae2 z.symm⟩
    refine wpAny_pyNext_enum_itemD hDr he ⟨hit, p⟩ hlt hne hni fun x' h' tk hx' ho hit' hT hsz hk => ?_
    have ex : x' = u := by
      have z : its.toArray[i]? = some x' := hx'
      rw [show its.toArray[i]? = some u by simpa using hu] at z
      exact (Option.some.inj z).symm
    subst ex
    refine ⟨_, rfl, wpAny_letOwnedTupleGo_enum (s := { s with heap := h', toks := tk + 1 }) ho fun h'' he' sb => ?_⟩
    have hT2 : h''.get? s.heap.objs.size = some { cls := .type "tuple", data := .seq #[.int i tk, x'] } := (sb.2 _ (Nat.ne_of_gt hel)).trans hT
    have new : ObjOk X.prog X.w (upd H s.heap.objs.size (.tup [.int (i : Nat), x])) h'' s.heap.objs.size (.tup [.int (i : Nat), x]) :=
      ⟨by show 2 ≤ sizeLine; decide, [.int i tk, x'], .cons ⟨_, rfl⟩ (.cons ru .nil), ⟨_, hT2, rfl, _, rfl⟩⟩
    have I1 : Inv X pins σ (upd H s.heap.objs.size (.tup [.int (i : Nat), x])) { s with heap := h'', toks := tk + 1 } :=
      I.turnedNew (ch := [e, it]) (fun b ob hb q => (sb.2 b (fun z => hb (by simp [z]))).trans (hk b ob (fun z => hb (by simp [z])) (fun z => hb (by simp [z])) q)) hf (Nat.le_refl _) new
    refine ⟨.ref s.heap.objs.size, _, I1, rfl, ⟨_, x, rfl, I.hok.fresh (Nat.le_refl _), rfl, fun ys hy => by rw [I.tuple_inj hy hq]; exact hx⟩, ⟨⟨x', ?_⟩, hit'.1.at fun o q => (sb.2 it (Ne.symm hne)).trans q, hne⟩, fun b hb => ?_⟩
    · have e1 : ((i + 1 : Nat) : Int) = (i : Int) + 1 := by omega
      rw [e1]; exact he'
    · have hb' : b < s.heap.objs.size := by
        have e' : b = e ∨ b = it := by simpa using hb
        rcases e' with z | z
        · rw [z]; exact hel
        · rw [z]; exact hil
      rw [upd_ne (Nat.ne_of_lt hb')]
      exact (hf b hb).1
  done := by
    intro X hP hw hK hc i pins s σ H E I hf st hg
    subst hP hw hK
    obtain ⟨⟨old, he⟩, hit, hne⟩ := st
    obtain ⟨xs, hq, hx⟩ := hg
    obtain ⟨its, rv, p, hz⟩ := I.tuple hq
    obtain ⟨f0, f1, f2, f3, f4, f5⟩ := hf it (by simp)
    have hl := rv.length
    have hT : s.TypeIs (.ref e) "enumerate" := ⟨_, he, rfl⟩
    unfold pyNext
    refine wpAny_bind (wpAny_attempt (wpAny_callSpecial?_slot (name := Str.ofString "__next__") hT F.slot_enumerate_next
      (wpAny_call_entry F.slot_enumerate_next hT F.entry_enumerate_next ?_ (F.args_enumerate_next_1 _))))
    show wpAny _ _ (field (.ref e) 2 >>= _) _ _ _
    refine wpAny_bind (wpAny_field he rfl (x := .ref it) rfl ?_)
    refine wpAny_bind (wpAny_nextOf_tuple_end (show X.A.in1.handled = none from I.ok.hd hc) hit p (by simp; omega) fun h' x he' hx' => ?_)
    obtain ⟨o, ho, hcl⟩ := hx'
    refine wpAny_bind (wpAny_isInstance (T := "StopIteration") (b := true) ⟨o, ho, hcl⟩ isSubtype_stop ?_)
    exact wpAny_pure ⟨rfl, I.turned (t' := s.toks) (fun b o hb q => he' b o hb q) f0 f1 f3 f4 f5⟩
  self := fun A i s Q E st h => let ⟨⟨_, he⟩, _⟩ := st; wpAny_pyIter_enum he h
def iEnumT (K : PySem.W.Frag) (ta : TA) : TI := fun σ H R => ta σ H fun vs H1 => ∃ a xs, vs = [.ref a] ∧ SqT K H1 a xs ∧ R (IteT K a) H1
theorem pi_enumT {X : Cx} {e : Expr} {ta : TA} {p pos tpos : Pos} {elts : List Expr} {kk : Nat} (hg : Gl X "enumerate") (hm : X.mg "enumerate" = none) (ha : PA X [e] ta) (hs : starEach [e] X.env = [(false, eval e X.env)] := by rfl) :
    PI X (.Tuple elts kk tpos) (.Call (.Name "enumerate" p) [e] [] pos) (iEnumT X.K ta) := by
  refine ⟨fun pins s σ H R I h => ?_⟩
  refine Call_ (ld_blt I hg hm boot_enumerate (PyProof.Rows.callWith_type1 (thn (ha.run pos pins s σ H _ I h) fun us s1 ⟨vs, H1, I1, r1, q1⟩ => ?_) hs rfl))
  obtain ⟨a, xs, ex, hq, q⟩ := q1
  subst ex
  cases r1 with
  | cons r rr =>
    cases rr
    cases r
    obtain ⟨its, rv, p', hz⟩ := I1.tuple hq
    have hal : a < s1.heap.objs.size := p'.lt
    refine call_enumerate_tuple p' fun h' he hit hsz hk => wpAny_pyIter_enum he ?_
    have I2 : Inv X pins σ H1 { s1 with heap := h' } := I1.kept (t' := s1.toks) hk
    refine ⟨s1.heap.objs.size + 1, [s1.heap.objs.size + 1, s1.heap.objs.size], _, _, H1, rfl, I2, turn_enumT a (s1.heap.objs.size + 1) s1.heap.objs.size (Nat.ne_of_lt hal) (Nat.ne_of_lt (Nat.lt_succ_of_lt hal)), ⟨⟨.none, he⟩, hit, Nat.succ_ne_self _⟩, fun b hb => ?_, q⟩
    have e' : b = s1.heap.objs.size + 1 ∨ b = s1.heap.objs.size := by simpa using hb
    have hle : s1.heap.objs.size ≤ b := by
      rcases e' with z | z
      · rw [z]; exact Nat.le_add_right _ _
      · rw [z]; exact Nat.le_refl _
    exact I1.fpOk hle (I1.hok.fresh hle)

/-! ### ranges, pairs -/
section
variable {X : Cx} {b : Bx} {k : Nat} {pos p tpos : Pos} {tg e e2 : Expr} {elts : List Expr} {kk : Nat} {f f2 : M RD} {fs : List (M RD)}
theorem aI0 {F H : Hp} {σ : St} {env : En} {kk : List RD → En → Option (Ou (List PyData))} {R : List V → Hp → Prop} {RI : It → Hp → Prop} (I : IV b F H σ env) (ok : OkI b F H σ env (bnd (fArgs fs env) kk) RI)
    (hk : ∀ rs env1 vs F1 H1, IV b F1 H1 σ env1 → Gr σ env F H σ env1 F1 H1 → Ers b H F1 H1 σ env1 vs rs → OkI b F H σ env (kk rs env1) RI → R vs H1) : tA b fs σ H R := by
  refine ⟨F, env, I, ?_⟩
  revert ok
  cases fArgs fs env with
  | none => exact fun z => z
  | some o =>
    cases o with
    | ok r e => exact fun ok vs F1 H1 I1 g er => hk r e vs F1 H1 I1 g er ok
    | ex c e => exact fun ok => ok
/-- what an iteration's arguments come to -/
def fItA (sel : List PyData → Option (List PyData)) (fs : List (M RD)) : M (List PyData) := fun e => bnd (fArgs fs e) fun rs e1 => match frzs rs e1 with
  | some (ds, e2) => match sel ds with
    | some xs => some (.ok xs e2)
    | none => none
  | none => none
/-- the core of such an iteration -/
theorem itA_core {sel : List PyData → Option (List PyData)} {F H : Hp} {σ : St} {env : En} {RI : It → Hp → Prop} (I : IV b F H σ env) (ok : OkI b F H σ env (fItA sel fs env) RI) {R : List V → Hp → Prop}
    (hk : ∀ vs ds xs F1 H1, Ex F1 H1 → Reps b.K F1 vs ds → sel ds = some xs → (∀ J, WD b.K J xs F1 [] → RI J H1) → R vs H1) : tA b fs σ H R := by
  refine aI0 I ok fun rs env1 vs F1 H1 I1 g1 er ok0 => ?_
  cases q : frzs rs env1 with
  | none => rw [q] at ok0; exact ok0.elim
  | some z =>
    obtain ⟨ds, e2⟩ := z
    rw [q] at ok0
    obtain ⟨F2, I2, g2, rp, _⟩ := frzs_ok I1 g1 er q
    have ok0 : OkI b F H σ env (match sel ds with
      | some xs => some (.ok xs e2)
      | none => none) RI := ok0
    cases q2 : sel ds with
    | none => rw [q2] at ok0; exact ok0.elim
    | some xs =>
      rw [q2] at ok0
      exact hk vs ds xs F2 H1 I2.ext rp q2 fun J w => ok0 J [] F2 H1 I2 g2 w fun _ h => by cases h
def rg1 : List PyData → Option (List PyData)
  | [.int j] => if -1000000000 ≤ j ∧ j < 1000000000 then some (rngD 0 j.toNat) else none
  | _ => none
def rg2 : List PyData → Option (List PyData)
  | [.int i, .int j] => if -1000000000 ≤ i ∧ i < 1000000000 ∧ -1000000000 ≤ j ∧ j < 1000000000 then some (rngD i (j - i).toNat) else none
  | _ => none
theorem pi_rg1 (g : Gx X b k) (hm : X.mg "range" = none) (ha : PAv X b fs [e]) (hg : Gl X "range" := by rfl) (hs : starEach [e] X.env = [(false, eval e X.env)] := by rfl) : PIv X b (fItA rg1 fs) tg (.Call (.Name "range" p) [e] [] pos) :=
  PI.imp (pi_range1 hg hm ha hs) fun σ H R h => by
    obtain ⟨F, env, I, ok⟩ := h
    refine itA_core I ok fun vs ds xs F1 H1 ex r hsel fin => ?_
    unfold rg1 at hsel
    split at hsel
    · split at hsel
      · rename_i hl
        cases hsel
        cases r with
        | cons a t =>
          cases t
          cases a
          exact ⟨_, rfl, by omega, by omega, fin _ wd_rng⟩
      · cases hsel
    · cases hsel
theorem pi_rg2 (g : Gx X b k) (hm : X.mg "range" = none) (ha : PAv X b fs [e, e2]) (hg : Gl X "range" := by rfl) (hs : starEach [e, e2] X.env = [(false, eval e X.env), (false, eval e2 X.env)] := by rfl) (hs2 : starEach [e2] X.env = [(false, eval e2 X.env)] := by rfl) :
    PIv X b (fItA rg2 fs) tg (.Call (.Name "range" p) [e, e2] [] pos) :=
  PI.imp (pi_range2 hg hm ha hs hs2) fun σ H R h => by
    obtain ⟨F, env, I, ok⟩ := h
    refine itA_core I ok fun vs ds xs F1 H1 ex r hsel fin => ?_
    unfold rg2 at hsel
    split at hsel
    · split at hsel
      · rename_i hl
        cases hsel
        cases r with
        | cons a t =>
          cases t with
          | cons a2 t =>
            cases t
            cases a
            cases a2
            exact ⟨_, _, rfl, by omega, fin _ wd_rng⟩
      · cases hsel
    · cases hsel
/-- pairs as a walk makes them -/
def pairD (x y : PyData) : PyData := .dict [(.none, .list [x, y])]
def enumD (xs : List PyData) : List PyData := xs.mapIdx fun i x => pairD (.int (i : Nat)) x
def enL : List PyData → Option (List PyData)
  | [.list xs] => some (enumD xs)
  | _ => none
def enT : List PyData → Option (List PyData)
  | [.tuple xs] => some (enumD xs)
  | _ => none
theorem wd_pair {K : PySem.W.Frag} {F H : Hp} {T : Addr} {x y : V} {d c : PyData} (ex : Ex F H) (hT : H T = none) (r1 : Rep K F x d) (r2 : Rep K F y c) : Rep K (upd F T (.tup [x, y])) (.ref T) (pairD d c) :=
  .raw upd_same (.cons (r1.mono (Ex.new (ex.none hT))) (.cons (r2.mono (Ex.new (ex.none hT))) .nil))
theorem wd_enL {K : PySem.W.Frag} {F0 : Hp} {a : Addr} {vs : List V} {xs : List PyData} (h : F0 a = some (.lst vs)) (r : Reps K F0 vs xs) : WD K (Ite K a) (enumD xs) F0 [] where
  goes := fun F H i x1 x2 _ hi => ⟨vs, vs[i]'(by rw [r.length]; simpa [enumD] using hi), sql (x2.l (x1.l h)), List.getElem?_eq_getElem _⟩
  stops := fun F H x1 x2 _ => ⟨vs, sql (x2.l (x1.l h)), by rw [r.length]; simp [enumD]⟩
  yld := fun F H i v H' x1 x2 _ hi y => by
    obtain ⟨T, x, rfl, hT, rfl, y⟩ := y
    obtain ⟨d, h1, h2⟩ := r.get' (y vs (sql (x2.l (x1.l h))))
    exact ⟨upd F T (.tup [.int (i : Nat), x]), pairD (.int (i : Nat)) d, by simp [enumD, h1], .f1 _ hT, wd_pair x2 hT (.int _) (h2.mono x1)⟩
theorem wd_enT {K : PySem.W.Frag} {F0 : Hp} {a : Addr} {vs : List V} {xs : List PyData} {od : Obj} (h : F0 a = some (tupHO od vs)) (r : Reps K F0 vs xs) : WD K (IteT K a) (enumD xs) F0 [] where
  goes := fun F H i x1 x2 _ hi => ⟨vs, vs[i]'(by rw [r.length]; simpa [enumD] using hi), sqh (x2.h (x1.h h)), List.getElem?_eq_getElem _⟩
  stops := fun F H x1 x2 _ => ⟨vs, sqh (x2.h (x1.h h)), by rw [r.length]; simp [enumD]⟩
  yld := fun F H i v H' x1 x2 _ hi y => by
    obtain ⟨T, x, rfl, hT, rfl, y⟩ := y
    obtain ⟨d, h1, h2⟩ := r.get' (y vs (sqh (x2.h (x1.h h))))
    exact ⟨upd F T (.tup [.int (i : Nat), x]), pairD (.int (i : Nat)) d, by simp [enumD, h1], .f1 _ hT, wd_pair x2 hT (.int _) (h2.mono x1)⟩
theorem pi_enL (g : Gx X b k) (hm : X.mg "enumerate" = none) (ha : PAv X b fs [e]) (hg : Gl X "enumerate" := by rfl) (hs : starEach [e] X.env = [(false, eval e X.env)] := by rfl) : PIv X b (fItA enL fs) (.Tuple elts kk tpos) (.Call (.Name "enumerate" p) [e] [] pos) :=
  PI.imp (pi_enum hg hm ha hs) fun σ H R h => by
    obtain ⟨F, env, I, ok⟩ := h
    refine itA_core I ok fun vs ds xs F1 H1 ex r hsel fin => ?_
    unfold enL at hsel
    split at hsel
    · cases hsel
      cases r with
      | cons a t =>
        cases t
        cases a with
        | lst h r =>
          have w := wd_enL h r
          rw [g.kk] at w fin
          exact ⟨_, _, rfl, sql (ex.l h), fin _ w⟩
    · cases hsel
theorem pi_enT (g : Gx X b k) (hm : X.mg "enumerate" = none) (ha : PAv X b fs [e]) (hg : Gl X "enumerate" := by rfl) (hs : starEach [e] X.env = [(false, eval e X.env)] := by rfl) : PIv X b (fItA enT fs) (.Tuple elts kk tpos) (.Call (.Name "enumerate" p) [e] [] pos) :=
  PI.imp (pi_enumT hg hm ha hs) fun σ H R h => by
    obtain ⟨F, env, I, ok⟩ := h
    refine itA_core I ok fun vs ds xs F1 H1 ex r hsel fin => ?_
    unfold enT at hsel
    split at hsel
    · cases hsel
      cases r with
      | cons a t =>
        cases t
        cases a with
        | tup h _ r =>
          have w := wd_enT h r
          rw [g.kk] at w fin
          exact ⟨_, _, rfl, sqh (ex.h h), fin _ w⟩
    · cases hsel
def zipD (xs ys : List PyData) : List PyData := (xs.zip ys).map fun p => pairD p.1 p.2
def zpA : List PyData → Option (List PyData)
  | [.list xs, .list ys] => some (zipD xs ys)
  | [.tuple xs, .tuple ys] => some (zipD xs ys)
  | _ => none
theorem zipD_get {xs ys : List PyData} {i : Nat} {d d' : PyData} (h1 : xs[i]? = some d) (h2 : ys[i]? = some d') : (zipD xs ys)[i]? = some (pairD d d') := by
  unfold zipD
  rw [List.getElem?_map, (List.getElem?_zip_eq_some (z := (d, d'))).mpr ⟨h1, h2⟩]
  rfl
theorem wd_zL {K : PySem.W.Frag} {F0 : Hp} {a c : Addr} {vs us : List V} {xs ys : List PyData} (h : F0 a = some (.lst vs)) (r : Reps K F0 vs xs) (h' : F0 c = some (.lst us)) (r' : Reps K F0 us ys) : WD K (Itz K a c) (zipD xs ys) F0 [] where
  goes := fun F H i x1 x2 _ hi => by
    have hi' : i < vs.length ∧ i < us.length := by
      rw [r.length, r'.length]
      exact Nat.lt_min.mp (by simpa [zipD] using hi)
    exact ⟨vs, us, vs[i]'hi'.1, us[i]'hi'.2, sql (x2.l (x1.l h)), sql (x2.l (x1.l h')), List.getElem?_eq_getElem _, List.getElem?_eq_getElem _⟩
  stops := fun F H x1 x2 _ => ⟨vs, us, sql (x2.l (x1.l h)), sql (x2.l (x1.l h')), by rw [r.length, r'.length]; simp [zipD]; omega⟩
  yld := fun F H i v H' x1 x2 _ hi y => by
    obtain ⟨T, x, z, rfl, hT, rfl, y, y'⟩ := y
    obtain ⟨d, h1, h2⟩ := r.get' (y vs (sql (x2.l (x1.l h))))
    obtain ⟨d', h1', h2'⟩ := r'.get' (y' us (sql (x2.l (x1.l h'))))
    exact ⟨upd F T (.tup [x, z]), pairD d d', zipD_get h1 h1', .f1 _ hT, wd_pair x2 hT (h2.mono x1) (h2'.mono x1)⟩
theorem wd_zT {K : PySem.W.Frag} {F0 : Hp} {a c : Addr} {vs us : List V} {xs ys : List PyData} {od od' : Obj} (h : F0 a = some (tupHO od vs)) (r : Reps K F0 vs xs) (h' : F0 c = some (tupHO od' us)) (r' : Reps K F0 us ys) : WD K (RZ.ItzT K a c) (zipD xs ys) F0 [] where
  goes := fun F H i x1 x2 _ hi => by
    have hi' : i < vs.length ∧ i < us.length := by
      rw [r.length, r'.length]
      exact Nat.lt_min.mp (by simpa [zipD] using hi)
    exact ⟨vs, us, vs[i]'hi'.1, us[i]'hi'.2, sqh (x2.h (x1.h h)), sqh (x2.h (x1.h h')), List.getElem?_eq_getElem _, List.getElem?_eq_getElem _⟩
  stops := fun F H x1 x2 _ => ⟨vs, us, sqh (x2.h (x1.h h)), sqh (x2.h (x1.h h')), by rw [r.length, r'.length]; simp [zipD]; omega⟩
  yld := fun F H i v H' x1 x2 _ hi y => by
    obtain ⟨T, x, z, rfl, hT, rfl, y, y'⟩ := y
    obtain ⟨d, h1, h2⟩ := r.get' (y vs (sqh (x2.h (x1.h h))))
    obtain ⟨d', h1', h2'⟩ := r'.get' (y' us (sqh (x2.h (x1.h h'))))
    exact ⟨upd F T (.tup [x, z]), pairD d d', zipD_get h1 h1', .f1 _ hT, wd_pair x2 hT (h2.mono x1) (h2'.mono x1)⟩
theorem pi_zp (g : Gx X b k) (hm : X.mg "zip" = none) (ha : PAv X b fs [e, e2]) (hg : Gl X "zip" := by rfl) (hs : starEach [e, e2] X.env = (false, eval e X.env) :: starEach [e2] X.env := by rfl) (hpl : (backTo pos (starEach [e2] X.env)).any (·.1) = false := by rfl) :
    PIv X b (fItA zpA fs) (.Tuple elts kk tpos) (.Call (.Name "zip" p) [e, e2] [] pos) :=
  PI.imp (RZ.pi_zipA hg hm ha hs hpl) fun σ H R h => by
    obtain ⟨F, env, I, ok⟩ := h
    refine itA_core I ok fun vs ds xs F1 H1 ex r hsel fin => ?_
    unfold zpA at hsel
    split at hsel
    · cases hsel
      cases r with
      | cons a t =>
        cases t with
        | cons a2 t =>
          cases t
          cases a with
          | lst h r =>
            cases a2 with
            | lst h' r' =>
              have w := wd_zL h r h' r'
              rw [g.kk] at w fin
              exact ⟨_, _, _, _, rfl, .inl ⟨sql (ex.l h), sql (ex.l h'), fin _ w⟩⟩
    · cases hsel
      cases r with
      | cons a t =>
        cases t with
        | cons a2 t =>
          cases t
          cases a with
          | tup h _ r =>
            cases a2 with
            | tup h' _ r' =>
              have w := wd_zT h r h' r'
              rw [g.kk] at w fin
              exact ⟨_, _, _, _, rfl, .inr ⟨sqh (ex.h h), sqh (ex.h h'), fin _ w⟩⟩
    · cases hsel
end
end Pv
namespace Pv
open PySem PySem.Spec PyProof.Rows L2

/-! ### x[i] = v -/
/-- an item is put at a known key -/
def putO (o : Ob) (y d : PyData) : Option Ob := match o, y with
  | .lst xs, .int i => (ixN xs.length i).map fun j => .lst (xs.set j d)
  | .dct false kvs, y => if (asK y).isSome = true ∧ kvs.length < lim then some (.dct false (dPut kvs y d)) else none
  | .dct true kvs, .tuple ys => if (asKs ys).isSome = true ∧ allD ys = true ∧ kvs.length < lim then some (.dct true (dPut kvs (.tuple ys) d)) else none
  | _, _ => none
def fPut (i : Nat) (fk fv : M RD) : MS := fun e => bndS (fv e) fun rv e0 => match frzR rv e0 with
  | none => none
  | some (d, e1) => match e1[i]? with
    | some (.m _ _) => bndS (fk e1) fun rk e2 => match rslv e2 rk with
      | none => none
      | some y => match e2[i]? with
        | some (.m w o) => match putO o y d with
          | some o' => some (.nx (e2.set i (.m w o')))
          | none => none
        | _ => none
    | _ => none
/-- .. the key a tuple that is written there -/
def fPutT (i : Nat) (fks : List (M RD)) (fv : M RD) : MS := fun e => bndS (fv e) fun rv e0 => match frzR rv e0 with
  | none => none
  | some (d, e1) => match e1[i]? with
    | some (.m _ _) => match fArgs fks e1 with
      | some (.ok rs e2) => match frzs rs e2 with
        | none => none
        | some (ds, e3) => match e3[i]? with
          | some (.m w (.dct true kvs)) => if (asKs ds).isSome = true ∧ kvs.length < lim ∧ ds.length ≤ lim then some (.nx (e3.set i (.m w (.dct true (dPut kvs (.tuple ds) d))))) else none
          | _ => none
      | some (.ex c e2) => some (.ex c e2)
      | none => none
    | _ => none
section
variable {X : Cx} {b : Bx} {k : Nat} {pos pos' tpos : Pos} {e e1 e2 : Expr} {es : List Expr} {f fk fv : M RD} {fks fs : List (M RD)}
theorem ps_list {o : Expr} {to ti tv : TE} {value idx : Expr} (ho : PE X o to) (hi : PE X idx ti) (hv : PE X value tv) (hs : swapsWith value (some (.Subscript o idx pos')) pos.line X.env = pure false) :
    PS X (.Assign [.Subscript o idx pos'] value pos) (fun D σ H => tv σ H fun v H1 => to σ H1 fun x H2 => ti σ H2 fun y H3 => rSetL x y v H3 fun H4 => D.nx σ H4) := by
  refine ⟨fun pins s σ H D I h => ?_⟩
  refine wpAny_Assign_Subscript (thn (hv.run pins s σ H _ I h) fun r s1 ⟨v, H1, I1, rv, q1⟩ => thn (ho.run pins s1 σ H1 _ I1 q1) fun u s2 ⟨x, H2, I2, rx, q2⟩ => thn (hi.run pins s2 σ H2 _ I2 q2) fun iv s3 ⟨y, H3, I3, ry, q3⟩ => ?_) hs
  exact wpAny_mono (set_list pins s3 σ H3 x y v u iv r _ I3 rx ry rv q3) (fun _ s4 ⟨H4, I4, q4⟩ => ⟨σ, H4, I4, q4⟩) fun _ _ z => z
theorem slot_m {i : Nat} {F H : Hp} {σ : St} {env : En} {w : Bool} {o : Ob} (I : IV b F H σ env) (q : env[i]? = some (.m w o)) : ∃ p, σ[i]? = some (some (.ref p)) ∧ F p = none ∧ RepOb b.K F H p o := by
  obtain ⟨u, h1, p, h2, h3, h4, _⟩ := I.sl i _ q
  subst h2
  exact ⟨p, h1, h3, h4⟩
/-- the core: R is what is done with container, key, value -/
theorem put_core {i : Nat} {D : Ends} {σ : St} {F H : Hp} {env : En} {R : V → V → V → Hp → (Hp → Prop) → Prop} (I : IV b F H σ env) (ok : OkS b F H σ env (fPut i fk fv env) D)
    (hR : ∀ (F3 H3 : Hp) (p : Addr) (v y : V) (o o' : Ob) (d yd : PyData), Ex F3 H3 → F3 p = none → RepOb b.K F3 H3 p o → Rep b.K F3 v d → Rv b.K F3 H3 y yd → putO o yd d = some o' → ∀ Q : Hp → Prop, (∀ ho', mob ho' = true → RepOb b.K F3 (upd H3 p ho') p o' → Q (upd H3 p ho')) → R (.ref p) y v H3 Q) :
    tV b fv σ H fun v H1 => tVar i σ H1 fun x H2 => tV b fk σ H2 fun y H3 => R x y v H3 fun H4 => D.nx σ H4 := by
  refine vS0 I ok fun rv env0 v F1 H1 I1 g1 er1 ok1 => ?_
  cases q2 : frzR rv env0 with
  | none => rw [q2] at ok1; exact ok1.elim
  | some z =>
    obtain ⟨d, env1⟩ := z
    rw [q2] at ok1
    have ok1 : OkS b F H σ env (match env1[i]? with
      | some (.m _ _) => bndS (fk env1) fun rk e2 => match rslv e2 rk with
        | none => none
        | some y => match e2[i]? with
          | some (.m w o) => match putO o y d with
            | some o' => some (.nx (e2.set i (.m w o')))
            | none => none
          | _ => none
      | _ => none) D := ok1
    obtain ⟨F2, I2, g2, rp, _, _⟩ := frz_ok I1 g1 er1 q2
    cases q3 : env1[i]? with
    | none => rw [q3] at ok1; exact ok1.elim
    | some s =>
      rw [q3] at ok1
      cases s with
      | m w o =>
        obtain ⟨p, hsl, _, _⟩ := slot_m I2 q3
        refine ⟨.ref p, hsl, ?_⟩
        have ok2 : OkS b F H σ env (bndS (fk env1) fun rk e2 => match rslv e2 rk with
          | none => none
          | some y => match e2[i]? with
            | some (.m w o) => match putO o y d with
              | some o' => some (.nx (e2.set i (.m w o')))
              | none => none
            | _ => none) D := ok1
        refine vS0 I2 (OkS.re ok2 g2) fun rk env2 y F3 H3 I3 g3 er2 ok3 => ?_
        cases q1 : rslv env2 rk with
        | none => rw [q1] at ok3; exact ok3.elim
        | some yd =>
          rw [q1] at ok3
          have ok3 : OkS b F2 H1 σ env1 (match env2[i]? with
            | some (.m w o) => match putO o yd d with
              | some o' => some (.nx (env2.set i (.m w o')))
              | none => none
            | _ => none) D := ok3
          cases q4 : env2[i]? with
          | none => rw [q4] at ok3; exact ok3.elim
          | some s =>
            rw [q4] at ok3
            cases s with
            | m w o =>
              have ok3 : OkS b F2 H1 σ env1 (match putO o yd d with
                | some o' => some (.nx (env2.set i (.m w o')))
                | none => none) D := ok3
              cases q5 : putO o yd d with
              | none => rw [q5] at ok3; exact ok3.elim
              | some o' =>
                rw [q5] at ok3
                obtain ⟨p', hsl', h3, h4⟩ := slot_m I3 q4
                rw [hsl] at hsl'
                cases hsl'
                exact hR F3 H3 p v y o o' d yd I3.ext h3 h4 (rp.mono g3.f) (Er.rv I3 er2 q1) q5 _ fun ho' m r => ok3 σ F3 _ (I3.mut q4 hsl m r) (g3.trans (Gr.mut I3 q4 hsl))
            | _ => exact ok3.elim
      | _ => exact ok1.elim
theorem pf_put (i : Nat) {x : Str} {px : Pos} (g : Gx X b k) (hk : PV X b fk e1) (hv : PV X b fv e2) (hs : swapsWith e2 (some (.Subscript (.Name x px) e1 pos')) pos.line X.env = pure false := by rfl)
    (hN : X.N[i]? = some x := by rfl) (hvs : Vis X.env.scope x := by first | exact Or.inl rfl | exact Or.inr (Or.inl rfl) | exact Or.inr (Or.inr rfl)) (hdb : (x == ("__debug__" : Str)) = false := by decide) (hcd : (x == ("__classdict__" : Str)) = false := by decide) :
    PF X b (fPut i fk fv) (.Assign [.Subscript (.Name x px) e1 pos'] e2 pos) := by
  have hu : X.A.units + 1 < cLine := by have := g.room.un; omega
  have P : PS X (.Assign [.Subscript (.Name x px) e1 pos'] e2 pos) (fun D σ H => tV b fv σ H fun v H1 => tVar i σ H1 fun x H2 => tV b fk σ H2 fun y H3 => (fun x y v H (Q : Hp → Prop) => rSetL x y v H Q ∨ ∃ a H4, x = .ref a ∧ DPut H a y v H4 ∧ Q H4) x y v H3 fun H4 => D.nx σ H4) := by
    refine ⟨fun pins s σ H D I h => ?_⟩
    refine wpAny_Assign_Subscript (thn (hv.run pins s σ H _ I h) fun r s1 ⟨v, H1, I1, rv, q1⟩ => thn ((pe_var (pos := px) hN hvs hdb hcd).run pins s1 σ H1 _ I1 q1) fun u s2 ⟨x, H2, I2, rx, q2⟩ => thn (hk.run pins s2 σ H2 _ I2 q2) fun iv s3 ⟨y, H3, I3, ry, q3⟩ => ?_) hs
    rcases q3 with q3 | ⟨a, H4, ex, gg, q3⟩
    · exact wpAny_mono (set_list pins s3 σ H3 x y v u iv r _ I3 rx ry rv q3) (fun _ s4 ⟨H4, I4, q4⟩ => ⟨σ, H4, I4, q4⟩) fun _ _ z => z
    · subst ex
      obtain rfl : u = Value.ref a := rx
      exact d_setItem hu I3 gg ry rv fun s4 I4 => ⟨σ, H4, I4, q3⟩
  refine PS.imp P fun D σ H h => ?_
  obtain ⟨F, env, I, ok⟩ := h
  refine put_core (R := fun x y v H Q => rSetL x y v H Q ∨ ∃ a H4, x = .ref a ∧ DPut H a y v H4 ∧ Q H4) I ok fun F3 H3 p v y o o' d yd ex hp ro rv ry hput Q hQ => ?_
  unfold putO at hput
  split at hput
  · rename_i xs j
    obtain ⟨n, h1, rfl⟩ := Option.map_eq_some_iff.mp hput
    obtain ⟨vs, h2, r2⟩ := ro
    exact .inl ⟨p, vs, j, n, rfl, ry.int, h2, by rw [r2.length]; exact h1, hQ _ rfl ⟨_, upd_same, r2.set n rv⟩⟩
  · rename_i kvs
    split at hput
    · rename_i hc
      cases hput
      obtain ⟨ks, h2, r2⟩ := ro
      obtain ⟨kk, hkk⟩ := Option.isSome_iff_exists.mp hc.1
      have e := asK_eq hkk
      subst e
      have eu : y = kV kk := by
        cases kk with
        | inl i => exact ry.int
        | inr x => exact ry.str
      refine .inr ⟨p, _, rfl, .inl ⟨ks, kk, h2, eu, by rw [r2.length]; exact lim_lt hc.2, rfl⟩, hQ _ rfl ⟨_, upd_same, repK_put rv kk r2⟩⟩
    · cases hput
  · rename_i kvs ys
    split at hput
    · rename_i hc
      cases hput
      obtain ⟨ks, h2, r2⟩ := ro
      obtain ⟨kk, hkk⟩ := Option.isSome_iff_exists.mp hc.1
      have e := asKs_eq hkk
      subst e
      obtain ⟨c, vs, od, rfl, hb, rs, _⟩ := ry.tup
      rw [reps_kD rs] at hb
      have hH := ex.h hb
      unfold tupHO at hH
      rw [if_pos (by rw [← allD_key]; exact hc.2.1)] at hH
      refine .inr ⟨p, _, rfl, .inr ⟨ks, kk, c, h2, rfl, hH, by rw [r2.length]; exact lim_lt hc.2.2, rfl⟩, hQ _ rfl ⟨_, upd_same, repT_put rv kk r2⟩⟩
    · cases hput
  · cases hput
theorem pf_putT (i : Nat) {x : Str} {px : Pos} {x1 : Nat} {pt : Pos} (g : Gx X b k) (hk : PAv X b fks es) (hv : PV X b fv e2) (hs : swapsWith e2 (some (.Subscript (.Name x px) (.Tuple es x1 pt) pos')) pos.line X.env = pure false := by rfl)
    (hN : X.N[i]? = some x := by rfl) (hvs : Vis X.env.scope x := by first | exact Or.inl rfl | exact Or.inr (Or.inl rfl) | exact Or.inr (Or.inr rfl)) (hdb : (x == ("__debug__" : Str)) = false := by decide) (hcd : (x == ("__classdict__" : Str)) = false := by decide) :
    PF X b (fPutT i fks fv) (.Assign [.Subscript (.Name x px) (.Tuple es x1 pt) pos'] e2 pos) := by
  have hu : X.A.units + 1 < cLine := by have := g.room.un; omega
  refine PS.imp (ps_dput (pos := pos) (pos' := pos') hu (pe_var (pos := px) hN hvs hdb hcd) (pe_tup (x1 := x1) (pos := pt) hk) hv hs) fun D σ H h => ?_
  obtain ⟨F, env, I, ok⟩ := h
  refine vS0 I ok fun rv env0 v F1 H1 I1 g1 er1 ok1 => ?_
  cases q2 : frzR rv env0 with
  | none => rw [q2] at ok1; exact ok1.elim
  | some z =>
    obtain ⟨d, env1⟩ := z
    rw [q2] at ok1
    have ok1 : OkS b F H σ env (match env1[i]? with
      | some (.m _ _) => match fArgs fks env1 with
        | some (.ok rs e2) => match frzs rs e2 with
          | none => none
          | some (ds, e3) => match e3[i]? with
            | some (.m w (.dct true kvs)) => if (asKs ds).isSome = true ∧ kvs.length < lim ∧ ds.length ≤ lim then some (.nx (e3.set i (.m w (.dct true (dPut kvs (.tuple ds) d))))) else none
            | _ => none
        | some (.ex c e2) => some (.ex c e2)
        | none => none
      | _ => none) D := ok1
    obtain ⟨F2, I2, g2, rp, _, _⟩ := frz_ok I1 g1 er1 q2
    cases q3 : env1[i]? with
    | none => rw [q3] at ok1; exact ok1.elim
    | some s =>
      rw [q3] at ok1
      cases s with
      | m w o =>
        obtain ⟨p, hsl, _, _⟩ := slot_m I2 q3
        refine ⟨.ref p, hsl, ?_⟩
        have ok1 : OkS b F H σ env (match fArgs fks env1 with
          | some (.ok rs e2) => match frzs rs e2 with
            | none => none
            | some (ds, e3) => match e3[i]? with
              | some (.m w (.dct true kvs)) => if (asKs ds).isSome = true ∧ kvs.length < lim ∧ ds.length ≤ lim then some (.nx (e3.set i (.m w (.dct true (dPut kvs (.tuple ds) d))))) else none
              | _ => none
          | some (.ex c e2) => some (.ex c e2)
          | none => none) D := ok1
        refine ⟨F2, env1, I2, ?_⟩
        cases q4 : fArgs fks env1 with
        | none => rw [q4] at ok1; exact ok1.elim
        | some oo =>
          rw [q4] at ok1
          cases oo with
          | ex c e2 => exact fun F' H' I' g' => ok1 σ F' H' I' (g2.trans g')
          | ok rs env2 =>
            intro vs F3 H3 I3 g3 er3
            have ok1 : OkS b F H σ env (match frzs rs env2 with
              | none => none
              | some (ds, e3) => match e3[i]? with
                | some (.m w (.dct true kvs)) => if (asKs ds).isSome = true ∧ kvs.length < lim ∧ ds.length ≤ lim then some (.nx (e3.set i (.m w (.dct true (dPut kvs (.tuple ds) d))))) else none
                | _ => none) D := ok1
            cases q5 : frzs rs env2 with
            | none => rw [q5] at ok1; exact ok1.elim
            | some z =>
              obtain ⟨ds, env3⟩ := z
              rw [q5] at ok1
              have ok1 : OkS b F H σ env (match env3[i]? with
                | some (.m w (.dct true kvs)) => if (asKs ds).isSome = true ∧ kvs.length < lim ∧ ds.length ≤ lim then some (.nx (env3.set i (.m w (.dct true (dPut kvs (.tuple ds) d))))) else none
                | _ => none) D := ok1
              obtain ⟨F4, I4, g4, rps, x4⟩ := frzs_ok I3 g3 er3 q5
              cases q6 : env3[i]? with
              | none => rw [q6] at ok1; exact ok1.elim
              | some s =>
                rw [q6] at ok1
                cases s with
                | m w o =>
                  cases o with
                  | dct t kvs =>
                    cases t with
                    | true =>
                      have ok1 : OkS b F H σ env (if (asKs ds).isSome = true ∧ kvs.length < lim ∧ ds.length ≤ lim then some (.nx (env3.set i (.m w (.dct true (dPut kvs (.tuple ds) d))))) else none) D := ok1
                      by_cases hc : (asKs ds).isSome = true ∧ kvs.length < lim ∧ ds.length ≤ lim
                      · rw [if_pos hc] at ok1
                        refine ⟨by rw [rps.length]; exact lim_le hc.2.2, fun c hcn => ?_⟩
                        obtain ⟨p', hsl', h3, ks, h4, r4⟩ := slot_m I4 q6
                        rw [hsl] at hsl'
                        cases hsl'
                        obtain ⟨kk, hkk⟩ := Option.isSome_iff_exists.mp hc.1
                        have e := asKs_eq hkk
                        subst e
                        have evs := reps_kD rps
                        subst evs
                        have hpc : p ≠ c := ne_of_none h4 hcn
                        have I5 := I4.allocH (o := .tup (kk.map kV)) hcn
                        have h4' : upd H3 c (.tup (kk.map kV)) p = some (.dT ks) := by rw [upd_ne hpc]; exact h4
                        refine ⟨p, _, rfl, .inr ⟨ks, kk, c, h4', rfl, upd_same, by rw [r4.length]; exact lim_lt hc.2.1, rfl⟩, ?_⟩
                        have rv4 : Rep b.K F4 v d := rp.mono (g3.f.trans x4)
                        exact ok1 σ F4 _ (I5.mut q6 hsl rfl ⟨_, upd_same, repT_put rv4 kk r4⟩) (((g2.trans g4).trans (Gr.newH hcn)).trans (Gr.mut I5 q6 hsl))
                      · rw [if_neg hc] at ok1; exact ok1.elim
                    | false => exact ok1.elim
                  | lst xs => exact ok1.elim
                | _ => exact ok1.elim
      | _ => exact ok1.elim
end
end Pv
namespace Pv
open PySem PySem.Spec PyProof.Rows L2

section
variable {X : Cx} {K : PySem.W.Frag} {F H : Hp} {v u : V} {k : Nat}
/-! ### methods that change -/
def chApp : Ch := fun o ds => match o, ds with
  | .lst xs, [d] => if xs.length < lim then some (.none, .lst (xs ++ [d])) else none
  | _, _ => none
theorem chd_app : ChD K rAppend chApp := fun F H p vs o o' ds d Q ex hp ro rs hc fin => by
  unfold chApp at hc
  split at hc
  · split at hc
    · rename_i hl
      cases hc
      obtain ⟨ws, h1, r1⟩ := ro
      cases rs with
      | cons a t =>
        cases t
        exact ⟨p, ws, _, rfl, rfl, h1, by rw [r1.length]; exact lim_lt hl, fin _ _ rfl ⟨_, upd_same, r1.snoc a⟩ .non⟩
    · cases hc
  · cases hc
def chPop : Ch := fun o ds => match o, ds with
  | .lst xs, [] => match xs.getLast? with
    | some d => some (d, .lst xs.dropLast)
    | none => none
  | _, _ => none
theorem chd_pop : ChD K rPop chPop := fun F H p vs o o' ds d Q ex hp ro rs hc fin => by
  unfold chPop at hc
  split at hc
  · rename_i xs
    split at hc
    · rename_i d' hl
      cases hc
      obtain ⟨ws, h1, r1⟩ := ro
      cases rs
      rw [List.getLast?_eq_getElem?] at hl
      obtain ⟨w, h2, h3⟩ := r1.get hl
      exact ⟨p, ws, w, rfl, rfl, h1, by rw [r1.length]; exact h2, fin _ _ rfl ⟨_, upd_same, r1.dropLast⟩ h3⟩
    · cases hc
  · cases hc
def chPopA : Ch := fun o ds => match o, ds with
  | .lst xs, [.int i] => if -1000000000 ≤ i ∧ i < 1000000000 then match seqIndex? i xs.length with
    | some j => match xs[j]? with
      | some d => some (d, .lst (xs.eraseIdx j))
      | none => none
    | none => none
    else none
  | _, _ => none
theorem chd_popA : ChD K rPopAt chPopA := fun F H p vs o o' ds d Q ex hp ro rs hc fin => by
  unfold chPopA at hc
  split at hc
  · split at hc
    · rename_i xs i hb
      split at hc
      · rename_i j hj
        split at hc
        · rename_i d' hd
          cases hc
          obtain ⟨ws, h1, r1⟩ := ro
          cases rs with
          | cons a t =>
            cases t
            cases a
            obtain ⟨w, h2, h3⟩ := r1.get hd
            exact ⟨p, ws, i, j, w, rfl, rfl, h1, by omega, by omega, by rw [r1.length]; exact hj, h2, fin _ _ rfl ⟨_, upd_same, r1.eraseIdx j⟩ h3⟩
        · cases hc
      · cases hc
    · cases hc
  · cases hc

/-! ### built-ins -/
def lenD : List PyData → Option RD
  | [.dict [(.bool true, .list xs)]] => some (.val (.int xs.length))
  | [.str s] => if s.length ≤ lim then some (.val (.int s.length)) else none
  | [.list xs] => some (.val (.int xs.length))
  | [.tuple xs] => some (.val (.int xs.length))
  | [.dict kvs] => if isRaw kvs = true then none else some (.val (.int kvs.length))
  | _ => none
abbrev rLenK : List V → Hp → VK → Prop := fun xs H Q => ∃ a n, xs = [.ref a] ∧ ((∃ kvs, Rd H a (.dK kvs) ∧ n = kvs.length) ∨ ∃ kvs, Rd H a (.dT kvs) ∧ n = kvs.length) ∧ Q (.int (n : Nat)) H
abbrev rLen (K : PySem.W.Frag) : List V → Hp → VK → Prop := fun xs H Q => (∃ x n, xs = [x] ∧ LenV K x H n ∧ Q (.int n) H) ∨ rLenK xs H Q
theorem len_dT {Q : Value → Shared → Prop} {A : Around} {E : Value → Shared → Prop} {pins : List (Addr × Obj)} {σ : St} {s : Shared} {a : Addr} {kvs : List (List Key × V)} (I : Inv X pins σ H s) (e : Rd H a (.dT kvs)) (h : ∀ t s', Inv X pins σ H s' → Q (.int kvs.length t) s') : wpAny (model X.prog X.w) A (call (.builtin "len") [.ref a]) Q E s := by
  obtain ⟨z, hd, xs, rel, dd⟩ := dt_rd I.hok e
  obtain ⟨o, es, ep, ho, hx, hdat, hes, _⟩ := dd
  have hl : kvs.length = es.size := by
    rw [Paired.length rel, ← List.length_map (f := entryOfKey (tupleKind (mixKind X.prog X.w))) (as := xs), ← hes, Array.length_toList]
  have hT : s.TypeIs (.ref a) "dict" := ⟨o, ho, hx.1⟩
  refine Calls.call_function_entry PySem.kind_len PySem.plain_len PySem.entry_len (PySem.args_len1 _) ?_
  unfold Builtin.«len»
  refine wpAny_bind (m := oneArg "len" _) (wpAny_pure ?_)
  refine wpAny_bind (m := callSpecial? (.ref a) (Str.ofString "__len__")) (wpAny_callSpecial?_slot (name := Str.ofString "__len__") hT F.slot_dict_len
    (PySem.call_len_raw hd ⟨o, ho, hx, hdat⟩ ?_))
  show wpAny _ _ _ _ _ { s with toks := s.toks + 1 }
  have hs := sizeLine_eq
  refine wpAny_bind (wpAny_holding (wpAny_pure ?_))
  refine wpAny_bind (wpAny_letGo ?_)
  show wpAny _ _ (if ((es.size : Nat) : Int) < 0 then _ else _) _ _ _
  rw [if_neg (by omega)]
  show wpAny _ _ (if ((es.size : Nat) : Int) ≥ 2 ^ 63 then _ else _) _ _ _
  rw [if_neg (by omega)]
  refine wpAny_bind (wpAny_mkInt (wpAny_pure ⟨_, rfl, ?_⟩))
  rw [← hl]
  exact h _ _ (I.tok _)
theorem call_lenK : CallR X (.builtin "len") rLenK := by
  intro pins s σ H xs us Q I r h
  obtain ⟨a, n, rfl, h, q⟩ := h
  obtain ⟨u, rfl, rx⟩ := vals1 r
  cases rx
  rcases h with ⟨kvs, h, rfl⟩ | ⟨kvs, h, rfl⟩
  · exact d_len I h fun t s' I' => ⟨.int _, H, I', ⟨t, rfl⟩, q⟩
  · exact len_dT I h fun t s' I' => ⟨.int _, H, I', ⟨t, rfl⟩, q⟩
theorem call_lenD : CallR X (.builtin "len") (rLen X.K) := CallR.or call_len call_lenK
theorem cald_len : CalD K (rLen K) lenD := fun F H vs ds res Q ex rv e wd => by
  unfold lenD at e
  split at e
  · cases e
    cases rv with
    | cons a t =>
      cases t
      obtain ⟨p, ws, rfl, h1, r1⟩ := a.scr ex
      refine .inl ⟨_, _, rfl, .inl ⟨ws, h1, rfl⟩, ?_⟩
      rw [r1.length]
      exact wd_val wd (.int _)
  · split at e
    · rename_i hl
      cases e
      cases rv with
      | cons a t =>
        cases t
        rw [a.str]
        exact .inl ⟨_, _, rfl, ⟨lim_le hl, rfl⟩, wd_val wd (.int _)⟩
    · cases e
  · cases e
    cases rv with
    | cons a t =>
      cases t
      obtain ⟨p, ws, rfl, h1, r1⟩ := a.lst ex
      refine .inl ⟨_, _, rfl, .inl ⟨ws, sql h1, rfl⟩, ?_⟩
      rw [r1.length]
      exact wd_val wd (.int _)
  · cases e
    cases rv with
    | cons a t =>
      cases t
      obtain ⟨p, ws, od, rfl, h1, r1, _⟩ := a.tup
      refine .inl ⟨_, _, rfl, .inr ⟨ws, sqh (ex.h h1), rfl⟩, ?_⟩
      rw [r1.length]
      exact wd_val wd (.int _)
  · split at e
    · cases e
    · rename_i kvs nr
      cases e
      cases rv with
      | cons a t =>
        cases t
        obtain ⟨p, rfl, h⟩ := a.dct ex (by simpa using nr)
        rcases h with ⟨ks, h1, h2⟩ | ⟨ks, h1, h2⟩
        · refine .inr ⟨p, _, rfl, .inl ⟨ks, h1, rfl⟩, ?_⟩
          rw [h2.length]
          exact wd_val wd (.int _)
        · refine .inr ⟨p, _, rfl, .inr ⟨ks, h1, rfl⟩, ?_⟩
          rw [h2.length]
          exact wd_val wd (.int _)
  · cases e
/-- whole numbers as data -/
def asIs : List PyData → Option (List Int)
  | [] => some []
  | .int i :: ds => (asIs ds).map (i :: ·)
  | _ => none
theorem asIs_eq : ∀ {ds : List PyData} {ns : List Int}, asIs ds = some ns → ds = ns.map .int
  | [], ns, h => by cases h; rfl
  | d :: ds, ns, h => by
    cases d with
    | int i =>
      obtain ⟨ms, h1, rfl⟩ := Option.map_eq_some_iff.mp (show (asIs ds).map (i :: ·) = some ns from h)
      rw [asIs_eq h1]
      rfl
    | _ => cases h
theorem asIs_map : ∀ ns : List Int, asIs (ns.map .int) = some ns
  | [] => rfl
  | n :: ns => by
    show (asIs (ns.map .int)).map (n :: ·) = _
    rw [asIs_map ns]
    rfl
theorem reps_ints : ∀ {ns : List Int} {vs : List V}, Reps K F vs (ns.map .int) → vs = ns.map .int
  | [], _, r => by cases r; rfl
  | n :: ns, _, r => by
    cases r with
    | cons a t => cases a; rw [reps_ints t]; rfl
def sumD : List PyData → Option RD
  | [.list xs] => (asIs xs).map fun ns => .val (.int ns.sum)
  | _ => none
theorem cald_sum : CalD K (rSum K) sumD := fun F H vs ds res Q ex rv e wd => by
  unfold sumD at e
  split at e
  · obtain ⟨ns, h1, rfl⟩ := Option.map_eq_some_iff.mp e
    have := asIs_eq h1
    subst this
    cases rv with
    | cons a t =>
      cases t
      obtain ⟨p, ws, rfl, h2, r2⟩ := a.lst ex
      rw [reps_ints r2] at h2
      exact ⟨p, ns, rfl, sql h2, wd_val wd (.int _)⟩
  · cases e
/-- the greatest, the least -/
def maxI : List Int → Option Int
  | [] => none
  | n :: ns => some (ns.foldl max n)
def minI : List Int → Option Int
  | [] => none
  | n :: ns => some (ns.foldl min n)
theorem foldl_max : ∀ (ns : List Int) (n : Int), (∀ y ∈ n :: ns, y ≤ ns.foldl max n) ∧ ns.foldl max n ∈ n :: ns
  | [], n => ⟨fun y h => by simp at h; simp [h], by simp⟩
  | m :: ns, n => by
    obtain ⟨h1, h2⟩ := foldl_max ns (max n m)
    rw [List.foldl_cons]
    refine ⟨fun y hy => ?_, ?_⟩
    · have := h1 _ List.mem_cons_self
      rcases List.mem_cons.mp hy with z | z
      · omega
      · rcases List.mem_cons.mp z with z | z
        · omega
        · exact h1 y (List.mem_cons_of_mem _ z)
    · rcases List.mem_cons.mp h2 with z | z
      · rw [z]
        rcases Int.le_total n m with q | q
        · rw [Int.max_eq_right q]; simp
        · rw [Int.max_eq_left q]; simp
      · exact List.mem_cons_of_mem _ (List.mem_cons_of_mem _ z)
theorem foldl_min : ∀ (ns : List Int) (n : Int), (∀ y ∈ n :: ns, ns.foldl min n ≤ y) ∧ ns.foldl min n ∈ n :: ns
  | [], n => ⟨fun y h => by simp at h; simp [h], by simp⟩
  | m :: ns, n => by
    obtain ⟨h1, h2⟩ := foldl_min ns (min n m)
    rw [List.foldl_cons]
    refine ⟨fun y hy => ?_, ?_⟩
    · have := h1 _ List.mem_cons_self
      rcases List.mem_cons.mp hy with z | z
      · omega
      · rcases List.mem_cons.mp z with z | z
        · omega
        · exact h1 y (List.mem_cons_of_mem _ z)
    · rcases List.mem_cons.mp h2 with z | z
      · rw [z]
        rcases Int.le_total n m with q | q
        · rw [Int.min_eq_left q]; simp
        · rw [Int.min_eq_right q]; simp
      · exact List.mem_cons_of_mem _ (List.mem_cons_of_mem _ z)
def maxD1 : List PyData → Option RD
  | [.int i, .int j] => some (.val (.int (if j > i then j else i)))
  | [.list xs] => match asIs xs with
    | some ns => (maxI ns).map fun m => .val (.int m)
    | none => none
  | _ => none
def minD1 : List PyData → Option RD
  | [.int i, .int j] => some (.val (.int (if j < i then j else i)))
  | [.list xs] => match asIs xs with
    | some ns => (minI ns).map fun m => .val (.int m)
    | none => none
  | _ => none
abbrev rMax1 (K : PySem.W.Frag) : List V → Hp → VK → Prop := fun xs H Q => (∃ i j, xs = [.int i, .int j] ∧ Q (.int (if j > i then j else i)) H) ∨ rMax K xs H Q
abbrev rMin1 (K : PySem.W.Frag) : List V → Hp → VK → Prop := fun xs H Q => (∃ i j, xs = [.int i, .int j] ∧ Q (.int (if j < i then j else i)) H) ∨ rMin K xs H Q
theorem call_maxD (hc : X.calm = true) : CallR X (.builtin "max") (rMax1 X.K) := CallR.or (call_max2 hc) (cr_max hc)
theorem call_minD (hc : X.calm = true) : CallR X (.builtin "min") (rMin1 X.K) := CallR.or (call_min2 hc) (cr_min hc)
theorem cald_max : CalD K (rMax1 K) maxD1 := fun F H vs ds res Q ex rv e wd => by
  unfold maxD1 at e
  split at e
  · cases e
    cases rv with
    | cons a t =>
      cases t with
      | cons a2 t =>
        cases t
        rw [a.int, a2.int]
        exact .inl ⟨_, _, rfl, wd_val wd (.int _)⟩
  · split at e
    · rename_i ns h1
      obtain ⟨m, h2, rfl⟩ := Option.map_eq_some_iff.mp e
      have := asIs_eq h1
      subst this
      cases rv with
      | cons a t =>
        cases t
        obtain ⟨p, ws, rfl, h3, r2⟩ := a.lst ex
        rw [reps_ints r2] at h3
        cases ns with
        | nil => cases h2
        | cons n ns =>
          cases h2
          refine .inr ⟨p, n :: ns, rfl, sql h3, by simp, fun m hm hle => ?_⟩
          obtain ⟨f1, f2⟩ := foldl_max ns n
          have e1 := f1 m hm
          have e2 := hle _ f2
          have e3 : m = ns.foldl max n := by omega
          rw [e3]
          exact wd_val wd (.int _)
    · cases e
  · cases e
theorem cald_min : CalD K (rMin1 K) minD1 := fun F H vs ds res Q ex rv e wd => by
  unfold minD1 at e
  split at e
  · cases e
    cases rv with
    | cons a t =>
      cases t with
      | cons a2 t =>
        cases t
        rw [a.int, a2.int]
        exact .inl ⟨_, _, rfl, wd_val wd (.int _)⟩
  · split at e
    · rename_i ns h1
      obtain ⟨m, h2, rfl⟩ := Option.map_eq_some_iff.mp e
      have := asIs_eq h1
      subst this
      cases rv with
      | cons a t =>
        cases t
        obtain ⟨p, ws, rfl, h3, r2⟩ := a.lst ex
        rw [reps_ints r2] at h3
        cases ns with
        | nil => cases h2
        | cons n ns =>
          cases h2
          refine .inr ⟨p, n :: ns, rfl, sql h3, by simp, fun m hm hle => ?_⟩
          obtain ⟨f1, f2⟩ := foldl_min ns n
          have e1 := f1 m hm
          have e2 := hle _ f2
          have e3 : m = ns.foldl min n := by omega
          rw [e3]
          exact wd_val wd (.int _)
    · cases e
  · cases e
/-- list(..), tuple(..) -/
def listD : List PyData → Option RD
  | [.list xs] => some (.own (.lst xs))
  | [.tuple xs] => some (.own (.lst xs))
  | _ => none
theorem cald_list : CalD K (fun xs H Q => ∃ p ys, xs = [.ref p] ∧ (SqL K H p ys ∨ SqT K H p ys) ∧ ∀ l, H l = none → Q (.ref l) (upd H l (.lst ys))) listD := fun F H vs ds res Q ex rv e wd => by
  unfold listD at e
  split at e
  · cases e
    cases rv with
    | cons a t =>
      cases t
      obtain ⟨p, ws, rfl, h3, r2⟩ := a.lst ex
      exact ⟨p, ws, rfl, .inl (sql h3), wd_list' ex wd r2⟩
  · cases e
    cases rv with
    | cons a t =>
      cases t
      obtain ⟨p, ws, od, rfl, h3, r2, _⟩ := a.tup
      exact ⟨p, ws, rfl, .inr (sqh (ex.h h3)), wd_list' ex wd r2⟩
  · cases e
def tupleD : List PyData → Option RD
  | [.list xs] => some (.val (.tuple xs))
  | [.tuple xs] => some (.val (.tuple xs))
  | _ => none
abbrev rTupX (K : PySem.W.Frag) : List V → Hp → VK → Prop := fun xs H Q => ∃ p ys, xs = [.ref p] ∧ ((SqL K H p ys ∧ ∀ l od, od.dict = none → H l = none → Q (.ref l) (upd H l (tupHO od ys))) ∨ (SqT K H p ys ∧ Q (.ref p) H))
theorem call_tupleX : CallR X (.type "tuple") (rTupX X.K) := by
  intro pins s σ H xs us Q I r h
  obtain ⟨p, ys, rfl, h⟩ := h
  obtain ⟨u, rfl, rx⟩ := vals1 r
  cases rx
  rcases h with ⟨hq, q⟩ | ⟨hq, q⟩
  · obtain ⟨its, r', pl, hz⟩ := I.list hq
    have hlen := r'.length
    refine call_tuple_list pl.isList (fun h' kp => ?_) (by simp only [List.size_toArray] <;> omega)
    have I1 : Inv X pins σ H { s with heap := h' } := I.kept (t' := s.toks) kp
    exact ⟨.ref h'.objs.size, _, inv_tup (s := { s with heap := h' }) (h' := h'.push { cls := .type "tuple", data := .seq its.toArray }) I1 (fun b o e => Heap.get?_push_of_some _ e) r' hz (Heap.get?_push_size _ rfl), rfl, q _ _ rfl (I1.hok.fresh (Nat.le_refl _))⟩
  · obtain ⟨its, r', pl, hz⟩ := I.tuple hq
    exact call_tuple_same pl ⟨.ref p, H, I, rfl, q⟩
theorem cald_tuple : CalD K (rTupX K) tupleD := fun F H vs ds res Q ex rv e wd => by
  unfold tupleD at e
  split at e
  · cases e
    cases rv with
    | cons a t =>
      cases t
      obtain ⟨p, ws, rfl, h3, r2⟩ := a.lst ex
      exact ⟨p, ws, rfl, .inl ⟨sql h3, wd_tup' ex wd r2⟩⟩
  · cases e
    cases rv with
    | cons a t =>
      cases t
      obtain ⟨p, ws, od, rfl, h3, r2, nd⟩ := a.tup
      exact ⟨p, ws, rfl, .inr ⟨sqh (ex.h h3), wd_val wd (.tup h3 nd r2)⟩⟩
  · cases e
/-- int(..) -/
def intD : List PyData → Option RD
  | [.int i] => some (.val (.int i))
  | [.bool c] => some (.val (.int (if c then 1 else 0)))
  | _ => none
theorem cald_int : CalD K (fun xs H Q => (∃ i, xs = [.int i] ∧ Q (.int i) H) ∨ ∃ k, xs = [.bl k] ∧ Q (.int (if k then 1 else 0)) H) intD := fun F H vs ds res Q ex rv e wd => by
  unfold intD at e
  split at e
  · cases e
    cases rv with
    | cons a t =>
      cases t
      rw [a.int]
      exact .inl ⟨_, rfl, wd_val wd (.int _)⟩
  · cases e
    cases rv with
    | cons a t =>
      cases t
      rw [a.bl]
      exact .inr ⟨_, rfl, wd_val wd (.int _)⟩
  · cases e
/-- all(..), any(..) of a list of truths -/
def asBs : List PyData → Option (List Bool)
  | [] => some []
  | .bool i :: ds => (asBs ds).map (i :: ·)
  | _ => none
theorem asBs_eq : ∀ {ds : List PyData} {ns : List Bool}, asBs ds = some ns → ds = ns.map .bool
  | [], ns, h => by cases h; rfl
  | d :: ds, ns, h => by
    cases d with
    | bool i =>
      obtain ⟨ms, h1, rfl⟩ := Option.map_eq_some_iff.mp (show (asBs ds).map (i :: ·) = some ns from h)
      rw [asBs_eq h1]
      rfl
    | _ => cases h
theorem asBs_map : ∀ ns : List Bool, asBs (ns.map .bool) = some ns
  | [] => rfl
  | n :: ns => by
    show (asBs (ns.map .bool)).map (n :: ·) = _
    rw [asBs_map ns]
    rfl
theorem reps_bls : ∀ {ns : List Bool} {vs : List V}, Reps K F vs (ns.map .bool) → vs = ns.map .bl
  | [], _, r => by cases r; rfl
  | n :: ns, _, r => by
    cases r with
    | cons a t => cases a; rw [reps_bls t]; rfl
def allD1 : List PyData → Option RD
  | [.list xs] => (asBs xs).map fun bs => .val (.bool (bs.all id))
  | _ => none
def anyD1 : List PyData → Option RD
  | [.list xs] => (asBs xs).map fun bs => .val (.bool (bs.any id))
  | _ => none
end
end Pv
namespace Pv
open PySem PySem.Spec PyProof.Rows L2

/-! ### dicts with tuple keys: made of pairs, copied, sorted; lists sorted -/
def mergeT (kvs more : List (List Key × V)) : List (List Key × V) := more.foldl (fun acc kv => putK acc kv.1 kv.2) kvs
theorem length_mergeT : ∀ (more kvs : List (List Key × V)), (mergeT kvs more).length ≤ kvs.length + more.length
  | [], kvs => Nat.le_refl _
  | p :: more, kvs => by
    have h1 := length_mergeT more (putK kvs p.1 p.2)
    have h2 := length_putK kvs p.1 p.2
    show (mergeT (putK kvs p.1 p.2) more).length ≤ _
    rw [List.length_cons]
    omega
theorem KT.mergeAll {H : Hp} : ∀ {more : List (List Key × V)} {ps : List (List Key × Addr × Value)} {kvs : List (List Key × V)} {xs : List (List Key × Addr × Value)}, KT H more ps → KT H kvs xs → KT H (mergeT kvs more) (storedAllH xs ps)
  | _, _, _, _, .nil, r => r
  | p :: more, q :: ps, kvs, xs, .cons h t, r => by
    show KT H (mergeT (putK kvs p.1 p.2) more) (storedAllH (storedH xs q.1 q.2.1 q.2.2) ps)
    obtain ⟨h1, h2, h3⟩ := h
    rw [← h1]
    exact KT.mergeAll t (L2.KT.put r p.1 h2 h3)
section
variable {X : Cx} {K : PySem.W.Frag} {F H : Hp} {k : Nat}
theorem pairs_ofT {pins : List (Addr × Obj)} {σ : St} {s : Shared} (I : Inv X pins σ H s) : ∀ {ps : List (Addr × Addr)} {kvs : List (List Key × V)}, Paired (fun p kv => SqT X.K H p.1 [.ref p.2, kv.2] ∧ H p.2 = some (.tup (kv.1.map kV))) ps kvs →
    ∃ prs : List (List Key × Addr × Value), KT H kvs prs ∧ prs.length = ps.length ∧ ∀ (j : Nat) (q : List Key × Addr × Value), prs[j]? = some q → ∃ T, ps[j]? = some (T, q.2.1) ∧ s.heap.IsTuple T #[.ref q.2.1, q.2.2]
  | [], [], .nil => ⟨[], .nil, rfl, fun j q e => by simp at e⟩
  | p :: ps, kv :: kvs, .cons h t => by
    obtain ⟨prs, h1, h2, h3⟩ := pairs_ofT I t
    obtain ⟨hs, hk⟩ := h
    obtain ⟨its, rv, pt, _⟩ := I.tuple hs
    cases rv with
    | cons ra rt =>
      rename_i ua ut
      cases rt with
      | cons rb rt =>
        rename_i ub ut
        cases rt
        cases ra
        refine ⟨(kv.1, p.2, ub) :: prs, .cons ⟨rfl, hk, rb⟩ h1, by rw [List.length_cons, List.length_cons, h2], fun j q e => ?_⟩
        cases j with
        | zero =>
          simp at e
          subst e
          exact ⟨p.1, rfl, pt⟩
        | succ j =>
          obtain ⟨T, e1, e2⟩ := h3 j q (by simpa using e)
          exact ⟨T, by simpa using e1, e2⟩
abbrev rDictT (K : PySem.W.Frag) : List V → Hp → VK → Prop := fun xs H Q => ∃ (a : Addr) (ps : List (Addr × Addr)) (kvs : List (List Key × V)), xs = [.ref a] ∧ H a = some (.lst (ps.map fun p => V.ref p.1)) ∧
  Paired (fun p kv => SqT K H p.1 [.ref p.2, kv.2] ∧ H p.2 = some (.tup (kv.1.map kV))) ps kvs ∧ ∀ p, H p = none → Q (.ref p) (upd H p (.dT (mergeT [] kvs)))
theorem refs_at2 : ∀ {ps : List (Addr × Addr)} {us : List Value}, Vals (ps.map fun p => V.ref p.1) us → us = ps.map fun p => Value.ref p.1
  | [], us, r => by
    rw [List.map_nil] at r
    cases r
    rfl
  | p :: ps, us, r => by
    rw [List.map_cons] at r
    cases r with
    | cons h t =>
      cases h
      rw [List.map_cons, ← refs_at2 t]
theorem call_dictT (hcalm : X.calm = true) (hr : Room k X.A) : CallR X (.type "dict") (rDictT X.K) := by
  intro pins s σ H xs us Q I r q
  obtain ⟨a, ps, kvs, ex, hq, hp, q⟩ := q
  subst ex
  obtain ⟨u, eu, rx⟩ := vals1 r
  subst eu
  cases rx
  obtain ⟨hz, its, n, rv, ho⟩ := I.hok a _ hq
  have ei := refs_at2 rv
  subst ei
  rw [List.length_map] at hz
  obtain ⟨prs, rel, hl, hpr⟩ := pairs_ofT I hp
  let vps : List (Value × Value) := prs.map fun q => (.ref q.2.1, q.2.2)
  let Ts : Nat → Addr := fun j => (ps[j]?.getD (0, 0)).1
  have hvl : vps.length = prs.length := List.length_map ..
  have hk0 : ∀ x ∈ prs, (tupleKind (mixKind X.prog X.w)).is s.heap x.1 x.2.1 := by
    have gen : ∀ {kvs : List (List Key × V)} {prs : List (List Key × Addr × Value)}, KT H kvs prs → ∀ x ∈ prs, H x.2.1 = some (.tup (x.1.map kV)) := fun r => by
      induction r with
      | nil => intro x hx; cases hx
      | cons h t ih =>
        intro x hx
        rcases List.mem_cons.mp hx with z | z
        · subst z
          rw [← h.1]
          exact h.2.1
        · exact ih x z
    exact fun x hx => key_of I.hok (gen rel x hx)
  have P := PairArg.list (prog := X.prog) (w := X.w) a (ps.map fun p => Value.ref p.1).toArray Ts vps
  have ok : PlainSeq "list" s.heap a (ps.map fun p => Value.ref p.1).toArray ∧ PairItems s.heap (ps.map fun p => Value.ref p.1).toArray Ts vps := by
    refine ⟨⟨_, n, ho, rfl, rfl, rfl⟩, by simp [vps, hl], fun j kk v e => ?_⟩
    have e' : prs[j]?.map (fun q => ((Value.ref q.2.1, q.2.2) : Value × Value)) = some (kk, v) := by rw [← List.getElem?_map]; exact e
    obtain ⟨q', h1, h2⟩ := Option.map_eq_some_iff.mp e'
    cases h2
    obtain ⟨T, h3, h4⟩ := hpr j q' h1
    have hT : Ts j = T := by show (ps[j]?.getD (0, 0)).1 = T; rw [h3]; rfl
    rw [hT]
    exact ⟨by simp [h3], .inl h4⟩
  refine call_dict_pairsH (knd := tupleKind (mixKind X.prog X.w)) (ps := prs) P (I.ok.hd hcalm) (by have h1 := hr.un; show X.A.units + 1 + 1 < cLine; omega) ok ⟨hvl.symm, fun i key v e => ?_⟩ (fun h' hk x hx => ?_) (by rw [hvl, hl]; exact hz) fun h' tk hd' hk => ?_
  · have e' : prs[i]?.map (fun q => ((Value.ref q.2.1, q.2.2) : Value × Value)) = some (key, v) := by rw [← List.getElem?_map]; exact e
    obtain ⟨q', h1, h2⟩ := Option.map_eq_some_iff.mp e'
    cases h2
    exact ⟨q'.1, q'.2.1, h1, rfl⟩
  · obtain ⟨o, items, m, g1, g2⟩ := hk0 x hx
    exact ⟨o, items, m, hk _ _ (Nat.ne_of_lt (Heap.lt_size g1)) (by simp) g1, g2⟩
  · have hm : (s.heap.objs.size == sysModules) = false := beq_eq_false_iff_ne.mpr (Nat.ne_of_gt I.big)
    have hlen : (mergeT [] kvs).length ≤ sizeLine := by
      refine Nat.le_trans (length_mergeT kvs []) ?_
      rw [List.length_nil, Nat.zero_add, Paired.length rel, hl]
      exact hz
    have hp0 : H s.heap.objs.size = none := I.hok.fresh (Nat.le_refl _)
    obtain ⟨o', es, ep, g1, g2, g3, g4, _, g5⟩ := hd'
    refine ⟨.ref s.heap.objs.size, _, I.laid (t' := tk) (o := .dT (mergeT [] kvs)) (fun b u e => hk b u (by simp) e) (Nat.le_refl _) ⟨hlen, hm, storedAllH [] prs, ?_, o', es, ep, g1, g2, g3, g4, g5⟩, rfl, q _ hp0⟩
    exact (KT.mergeAll rel .nil).keeps fun b ys e => by rw [upd_ne (ne_of_none e hp0)]; exact e
/-- the pairs as data -/
def asPr : List PyData → Option (List (List Key × PyData))
  | [] => some []
  | .tuple [.tuple ks, d] :: xs => if allD ks = true then match asKs ks, asPr xs with
    | some k, some r => some ((k, d) :: r)
    | _, _ => none
    else none
  | _ => none
def putAll (kvs : List (PyData × PyData)) : List (List Key × PyData) → List (PyData × PyData)
  | [] => kvs
  | p :: ps => putAll (dPut kvs (.tuple (p.1.map kD)) p.2) ps
def dictT : List PyData → Option RD
  | [.list xs] => match asPr xs with
    | some ps => if xs.length ≤ lim then some (.own (.dct true (putAll [] ps))) else none
    | none => none
  | _ => none
theorem pr_of (ex : Ex F H) : ∀ {xs : List PyData} {ps : List (List Key × PyData)} {vs : List V}, asPr xs = some ps → Reps K F vs xs →
    ∃ (as : List (Addr × Addr)) (kvs : List (List Key × V)), vs = as.map (fun p => V.ref p.1) ∧ Paired (fun p kv => SqT K H p.1 [.ref p.2, kv.2] ∧ H p.2 = some (.tup (kv.1.map kV))) as kvs ∧ Paired (fun (p : List Key × PyData) (kv : List Key × V) => p.1 = kv.1 ∧ Rep K F kv.2 p.2) ps kvs
  | [], ps, vs, h, r => by
    cases h
    cases r
    exact ⟨[], [], rfl, .nil, .nil⟩
  | x :: xs, ps, vs, h, r => by
    unfold asPr at h
    split at h
    · rename_i heq
      cases heq
    · rename_i ks d xs' heq
      cases heq
      split at h
      · rename_i hall
        split at h
        · rename_i kk rr hk hr
          cases h
          cases r with
          | cons a t =>
            obtain ⟨as, kvs, h1, h2, h3⟩ := pr_of ex hr t
            cases a with
            | @tup p vs2 _ od hp _ rp =>
              cases rp with
              | @cons va va2 _ _ a1 rp =>
                cases rp with
                | @cons vb vb2 _ _ a2 rp =>
                  cases rp
                  have e := asKs_eq hk
                  subst e
                  cases a1 with
                  | @tup q vs3 _ od2 hq _ rq =>
                    have e3 := reps_kD rq
                    subst e3
                    have hH := ex.h hq
                    unfold tupHO at hH
                    rw [if_pos (by rw [← allD_key]; exact hall)] at hH
                    exact ⟨(p, q) :: as, (kk, vb) :: kvs, by rw [h1]; rfl, .cons ⟨sqh (ex.h hp), hH⟩ h2, .cons ⟨rfl, a2⟩ h3⟩
        · cases h
      · cases h
    · cases h
theorem putAll_rep : ∀ {ps : List (List Key × PyData)} {kvs : List (List Key × V)} {ks : List (List Key × V)} {ds : List (PyData × PyData)}, Paired (fun (p : List Key × PyData) (kv : List Key × V) => p.1 = kv.1 ∧ Rep K F kv.2 p.2) ps kvs → RepT K F ks ds → RepT K F (mergeT ks kvs) (putAll ds ps)
  | _, _, _, _, .nil, r => r
  | p :: ps, kv :: kvs, ks, ds, .cons h t, r => by
    show RepT K F (mergeT (putK ks kv.1 kv.2) kvs) (putAll (dPut ds (.tuple (p.1.map kD)) p.2) ps)
    obtain ⟨h1, h2⟩ := h
    rw [h1]
    exact putAll_rep t (repT_put h2 kv.1 r)
theorem cald_dictT : CalD K (rDictT K) dictT := fun F H vs ds res Q ex rv e wd => by
  unfold dictT at e
  split at e
  · split at e
    · rename_i ps hps
      split at e
      · rename_i hl
        cases e
        cases rv with
        | cons a t =>
          cases t
          obtain ⟨p, ws, rfl, h1, r1⟩ := a.lst ex
          obtain ⟨as, kvs, h2, h3, h4⟩ := pr_of ex hps r1
          subst h2
          refine ⟨p, as, kvs, rfl, h1, h3, fun q hq => ?_⟩
          exact wd _ F _ (.h1 _ hq) ⟨q, rfl, ex.none hq, ⟨_, upd_same, putAll_rep h4 .nil⟩, hq⟩
      · cases e
    · cases e
  · cases e
end
end Pv
namespace Pv
open PySem PySem.Spec PyProof.Rows L2 PySem.W

section
variable {X : Cx} {K : PySem.W.Frag} {F H : Hp} {k : Nat}
/-! ### sorted(list) -/
def sortD (ds : List PyData) : List PyData := ds.mergeSort (dataLe false id)
/-- any two can be compared -/
def alikes (ds : List PyData) : Bool := ds.all fun d => ds.all fun e => alike d e
/-- no None, all tuples with items or none a tuple -/
def tupE : PyData → Bool
  | .tuple (_ :: _) => true
  | _ => false
def plnE : PyData → Bool
  | .tuple _ => false
  | .none => false
  | _ => true
def sortOk (ds : List PyData) : Bool := alikes ds && (ds.all tupE || ds.all plnE) && ds.all okD && decide (ds.length ≤ lim)
theorem alikes_all {ds : List PyData} (h : alikes ds = true) : PySem.W.AllAlike ds := fun d hd e he => List.all_eq_true.mp (List.all_eq_true.mp h d hd) e he
theorem sortable_of {ds : List PyData} (h : (ds.all tupE || ds.all plnE) = true) : PySem.W.Sortable ds := by
  rw [Bool.or_eq_true] at h
  rcases h with h | h
  · refine .inl fun d hd => ?_
    have := List.all_eq_true.mp h d hd
    cases d with
    | tuple xs => cases xs with
      | nil => cases this
      | cons x r => exact ⟨x, r, rfl⟩
    | _ => cases this
  · refine .inr fun d hd => ?_
    have := List.all_eq_true.mp h d hd
    cases d with
    | tuple xs => cases this
    | none => cases this
    | _ => exact ⟨(fun z => nomatch z), (fun _ z => nomatch z)⟩
theorem sortOk_parts {ds : List PyData} (h : sortOk ds = true) : PySem.W.AllAlike ds ∧ PySem.W.Sortable ds ∧ (∀ d ∈ ds, okD d = true) ∧ ds.length ≤ lim := by
  unfold sortOk at h
  rw [Bool.and_eq_true, Bool.and_eq_true, Bool.and_eq_true] at h
  exact ⟨alikes_all h.1.1.1, sortable_of h.1.1.2, List.all_eq_true.mp h.1.2, by simpa using h.2⟩
def sortedD1 : List PyData → Option RD
  | [.list ds] => if sortOk ds = true then some (.own (.lst (sortD ds))) else none
  | _ => none
abbrev rSortD (K : PySem.W.Frag) : List V → Hp → VK → Prop := fun xs H Q => ∃ (F : Hp) (a : Addr) (ws : List V) (ds : List PyData), Ex F H ∧ xs = [.ref a] ∧ H a = some (.lst ws) ∧ Reps K F ws ds ∧ sortOk ds = true ∧ ∀ p us, H p = none → Reps K F us (sortD ds) → Q (.ref p) (upd H p (.lst us))
theorem each_of {R : Value → PyData → Prop} : ∀ {ws : List V} {us : List Value} {ds : List PyData}, Vals ws us → Reps K F ws ds → (∀ w u d, d ∈ ds → RelV w u → Rep K F w d → R u d) → EachIs R us ds
  | _, _, _, .nil, .nil, _ => .nil
  | _, _, _, .cons r1 t1, .cons r2 t2, h => .cons (h _ _ _ List.mem_cons_self r1 r2) (each_of t1 t2 fun w u d hd => h w u d (List.mem_cons_of_mem _ hd))
theorem each_back : ∀ {us : List Value} {ds : List PyData}, EachIs (fun u d => ∃ w, RelV w u ∧ Rep K F w d) us ds → ∃ ws, Vals ws us ∧ Reps K F ws ds
  | _, _, .nil => ⟨[], .nil, .nil⟩
  | _, _, .cons h t => by
    obtain ⟨w, h1, h2⟩ := h
    obtain ⟨ws, h3, h4⟩ := each_back t
    exact ⟨w :: ws, .cons h1 h3, .cons h2 h4⟩
theorem call_sortD (hr : Room k X.A) : CallR X (.builtin "sorted") (rSortD X.K) := by
  intro pins s σ H xs us Q I r q
  obtain ⟨F, a, ws, ds, ex, rfl, hq, rp, ok, q⟩ := q
  obtain ⟨u, eu, rx⟩ := vals1 r
  subst eu
  cases rx
  obtain ⟨o1, o2, o3, o4⟩ := sortOk_parts ok
  obtain ⟨hz, its, n, rv, ho⟩ := I.hok a _ hq
  have hl : s.heap.IsList a its.toArray := ⟨_, ho, rfl, n, rfl⟩
  have e1 : EachIs (fun u d => ∃ w, RelV w u ∧ Rep X.K F w d) its ds := each_of rv rp fun w u d _ h1 h2 => ⟨w, h1, h2⟩
  have e2 : EachIs (fun u d => ∃ as, Reads s.heap u (id d) as) its ds := each_of rv rp fun w u d hd h1 h2 => Dp.reads I d w u ((h2.mono ex).dp (by rw [← noD_plain]; exact okD_pl (o3 d hd))) h1
  refine sorted_data (enc := id) hl e1 e2 (by rw [List.map_id]; exact o1) (by rw [List.map_id]; exact o2) (lim_le o4) (fun d hd => ?_) fun out h1 h2 => ?_
  · have := okD_dep (o3 d hd)
    have := hr.un
    show X.A.units + 2 + d.depth < cLine
    omega
  · obtain ⟨us, h3, h4⟩ := each_back h2
    obtain ⟨ep, he'⟩ := PyProof.Rows.sortedAll_at s.heap its out.toArray
    refine ⟨.ref _, _, I.laid (t' := s.toks) (o := .lst us) (fun _ _ => PyProof.Rows.sortedAll_old) (Nat.le_succ _) ⟨?_, out, ep, h3, he'⟩, rfl, q _ us (I.hok.fresh (Nat.le_succ _)) h4⟩
    rw [h3.length, h1]
    exact lim_le o4
theorem cald_sort : CalD K (rSortD K) sortedD1 := fun F H vs ds res Q ex rv e wd => by
  unfold sortedD1 at e
  split at e
  · split at e
    · rename_i ds ok
      cases e
      cases rv with
      | cons a t =>
        cases t
        obtain ⟨p, ws, rfl, h3, r2⟩ := a.lst ex
        exact ⟨F, p, ws, ds, ex, rfl, h3, r2, ok, fun q us hq ru => wd _ F _ (.h1 _ hq) (nw_list ex hq ru)⟩
    · cases e
  · cases e

/-! ### sorted(d), d with tuple keys of whole numbers -/
theorem readsAll_keys {h : Heap} : ∀ {kk : List Key} {us : List Value}, Vals (kk.map kV) us → ReadsAll h us (kk.map kD) []
  | [], _, r => by cases r; exact .nil
  | k :: kk, _, r => by
    cases r with
    | cons a t =>
      have ih := readsAll_keys (h := h) t
      cases k with
      | inl i =>
        obtain ⟨t, rfl⟩ := a
        exact .cons (as := []) (.int i t) ih
      | inr x =>
        obtain ⟨t, rfl⟩ := a
        exact .cons (as := []) (.str x t) ih
theorem reads_keyN {pins : List (Addr × Obj)} {σ : St} {s : Shared} {b : Addr} {kk : List Key} {a : Addr} (I : Inv X pins σ H s) (h : H b = some (.tup (kk.map kV))) : ∃ as, Reads s.heap (.ref b) (.tuple (kk.map kD)) as ∧ a ∉ as := by
  obtain ⟨_, its, r, o, h1, h2, n, h3⟩ := I.hok b _ h
  exact ⟨[], .tuple h1 h2 h3 (readsAll_keys r), by simp⟩
/-- the keys of the dict at a, sorted: their own tuples -/
abbrev rSortT : List V → Hp → VK → Prop := fun xs H Q => ∃ (a : Addr) (kvs : List (List Key × V)), xs = [.ref a] ∧ Rd H a (.dT kvs) ∧ sortOk (kvs.map fun kv => PyData.tuple (kv.1.map kD)) = true ∧
  ∀ p (bs : List Addr), H p = none → (∀ (i : Nat) (b : Addr), bs[i]? = some b → ∃ kk : List Key, (sortD (kvs.map fun kv => PyData.tuple (kv.1.map kD)))[i]? = some (PyData.tuple (kk.map kD)) ∧ H b = some (.tup (kk.map kV))) → bs.length = kvs.length → Q (.ref p) (upd H p (.lst (bs.map V.ref)))
/-- a value that is a key's own tuple -/
def KeyIs (H : Hp) (v : Value) (d : PyData) : Prop := ∃ (b : Addr) (kk : List Key), v = .ref b ∧ d = .tuple (kk.map kD) ∧ H b = some (.tup (kk.map kV))
theorem keys_each {kvs : List (List Key × V)} {xs : List (List Key × Addr × Value)} (r : KT H kvs xs) : EachIs (KeyIs H) (xs.map fun x => Value.ref x.2.1) (kvs.map fun kv => PyData.tuple (kv.1.map kD)) := by
  induction r with
  | nil => exact .nil
  | cons h t ih => exact .cons ⟨_, _, rfl, rfl, h.2.1⟩ ih
theorem each_keys : ∀ {us : List Value} {ds : List PyData}, EachIs (KeyIs H) us ds → ∃ bs : List Addr, us = bs.map Value.ref ∧ bs.length = ds.length ∧ ∀ (i : Nat) (b : Addr), bs[i]? = some b → ∃ kk : List Key, ds[i]? = some (PyData.tuple (kk.map kD)) ∧ H b = some (.tup (kk.map kV))
  | _, _, .nil => ⟨[], rfl, rfl, fun i b h => by simp at h⟩
  | _, _, .cons h t => by
    obtain ⟨b, kk, rfl, rfl, h3⟩ := h
    obtain ⟨bs, h4, h5, h6⟩ := each_keys t
    refine ⟨b :: bs, by rw [h4]; rfl, by rw [List.length_cons, List.length_cons, h5], fun i c hc => ?_⟩
    cases i with
    | zero =>
      simp at hc
      subst hc
      exact ⟨kk, rfl, h3⟩
    | succ i =>
      obtain ⟨k2, e1, e2⟩ := h6 i c (by simpa using hc)
      exact ⟨k2, by simpa using e1, e2⟩
theorem call_sortT (hcalm : X.calm = true) (hr : Room k X.A) : CallR X (.builtin "sorted") rSortT := by
  intro pins s σ H xs us Q I r q
  obtain ⟨a, kvs, rfl, hd, ok, q⟩ := q
  obtain ⟨u, eu, rx⟩ := vals1 r
  subst eu
  cases rx
  obtain ⟨o1, o2, o3, o4⟩ := sortOk_parts ok
  obtain ⟨z, hs, ks, pr, o, es, ep, ho, hx, hdt, he, hn⟩ := (show ObjOk X.prog X.w H s.heap a (.dT kvs) from hd.ok I.hok)
  have l1 : es.size = ks.length := size_of_entries he
  have l2 : kvs.length = ks.length := Paired.length pr
  refine Calls.call_function_entry PyProof.Rows.kind_sorted PyProof.Rows.plain_sorted PyProof.Rows.entry_sorted (PyProof.Rows.args_sorted1 _) ?_
  unfold Builtin.«sorted»
  refine wpAny_bind (m := checkCount "sorted" 1 1 _) (wpAny_pure ?_)
  refine wpAny_bind (PySem.W.kdu_collect (A := X.A.in1) (kdl_raw hs hx hdt) (I.ok.hd hcalm) ho (by rw [l1, ← l2]; exact z) fun h' tk acc hk it => ?_)
  have ea : acc.toList = ks.map fun x => Value.ref x.2.1 := by
    have hl : acc.toList.length = ks.length := by rw [Array.length_toList, it.1]; exact l1
    apply List.ext_getElem?
    intro j
    rw [List.getElem?_map]
    cases hj : acc.toList[j]? with
    | none =>
      have h1 := List.getElem?_eq_none_iff.mp hj
      rw [List.getElem?_eq_none (by omega)]
      all_goals rfl
    | some v =>
      obtain ⟨en, hen, hv⟩ := it.2 j v (by rw [← Array.getElem?_toList]; exact hj)
      have qe := entry_at he j
      rw [hen] at qe
      cases hb : ks[j]? with
      | none =>
        rw [hb] at qe
        exact nomatch (show some en = none from qe)
      | some b =>
        rw [hb] at qe
        have e2 : en = entryOfKey (tupleKind (mixKind X.prog X.w)) b := Option.some.inj qe
        rw [hv, e2]
        all_goals rfl
  have I1 : Inv X pins σ H { s with heap := h', toks := tk } := I.kept hk
  have hal : acc.toList.length = kvs.length := by rw [ea, List.length_map, l2]
  refine wpAny_bind (wpAny_newList ?_ (by rw [hal]; exact z))
  have hoL : (h'.push (seqObj "list" acc.toList.toArray 0)).get? h'.objs.size = some (seqObj "list" acc.toList.toArray 0) := Heap.get?_push_size _ rfl
  show wpAny _ _ _ _ _ { s with heap := h'.push (seqObj "list" acc.toList.toArray 0), toks := tk }
  have hfr : H h'.objs.size = none := I1.hok.fresh (Nat.le_refl _)
  have e1 : EachIs (KeyIs H) acc.toList (kvs.map fun kv => PyData.tuple (kv.1.map kD)) := by rw [ea]; exact keys_each pr
  have I2 : Inv X pins σ H { s with heap := h'.push (seqObj "list" acc.toList.toArray 0), toks := tk } := I1.kept (t' := tk) fun b o e => Heap.get?_push_of_some _ e
  have e2 : EachIs (fun v d => ∃ as, Reads (h'.push (seqObj "list" acc.toList.toArray 0)) v (id d) as ∧ h'.objs.size ∉ as) acc.toList (kvs.map fun kv => PyData.tuple (kv.1.map kD)) := e1.mono fun v d ⟨b, kk, h1, h2, h3⟩ => by
    subst h1 h2
    exact reads_keyN I2 h3
  refine wpAny_bind (wpAny_holding (list_sort_data (enc := id) (s := { s with heap := h'.push (seqObj "list" acc.toList.toArray 0), toks := tk }) hoL e1 e2 (by rw [List.map_id]; exact o1) (by rw [List.map_id]; exact o2) (lim_le o4) (fun d hd => ?_) fun out h1 h2 => ?_))
  · have := okD_dep (o3 d hd)
    have := hr.un
    show X.A.units + 1 + 1 + d.depth < cLine
    omega
  · obtain ⟨bs, g1, g2, g3⟩ := each_keys h2
    obtain ⟨e', he'⟩ := PyProof.Rows.sortedHeap_at (vs := acc.toList) (out := out.toArray) hoL
    have gl : bs.length = kvs.length := by rw [g2, List.length_mergeSort, List.length_map]
    refine wpAny_pure ⟨_, rfl, .ref h'.objs.size, upd H h'.objs.size (.lst (bs.map V.ref)), I1.laid (t' := tk) (fun b u e => ?_) (Nat.le_refl _)
      (show ObjOk X.prog X.w _ _ _ (.lst (bs.map V.ref)) from ⟨by rw [List.length_map, gl]; exact z, out, e', by rw [g1]; exact vals_refs _, he'⟩), rfl, q _ bs hfr g3 gl⟩
    have hb : b < h'.objs.size := Heap.lt_size e
    rw [PyProof.Rows.sortedHeap_old (Nat.ne_of_lt hb) (by rw [size_push']; exact Nat.lt_succ_of_lt hb)]
    exact Heap.get?_push_of_some _ e
theorem repT_keys : ∀ {ks : List (List Key × V)} {kvs : List (PyData × PyData)}, RepT K F ks kvs → kvs.map (·.1) = ks.map fun kv => PyData.tuple (kv.1.map kD)
  | _, _, .nil => rfl
  | _, _, .cons r t => by rw [List.map_cons, List.map_cons, repT_keys t]
/-- key tuples of whole numbers come to be known -/
theorem learn_keys : ∀ (bs : List Addr) {F1 : Hp} (ds : List PyData), Ex F1 H → Al F H F1 H → bs.length = ds.length → ds.all (fun d => match d with
    | .tuple xs => allD xs
    | _ => false) = true → (∀ (i : Nat) (b : Addr), bs[i]? = some b → ∃ kk : List Key, ds[i]? = some (PyData.tuple (kk.map kD)) ∧ H b = some (.tup (kk.map kV))) → ∃ F2, Al F H F2 H ∧ Ex F2 H ∧ Ex F1 F2 ∧ Reps K F2 (bs.map V.ref) ds
  | [], F1, [], ex, al, _, _, _ => ⟨F1, al, ex, Ex.refl _, .nil⟩
  | [], _, _ :: _, _, _, h, _, _ => by cases h
  | _ :: _, _, [], _, _, h, _, _ => by cases h
  | b :: bs, F1, d :: ds, ex, al, hl, hall, h => by
    rw [List.all_cons, Bool.and_eq_true] at hall
    obtain ⟨kk, h1, h2⟩ := h 0 b rfl
    have e : d = .tuple (kk.map kD) := Option.some.inj h1
    subst e
    have hi : allI (kk.map kV) = true := by rw [← allD_key]; exact hall.1
    have step : ∃ F3, Al F H F3 H ∧ Ex F3 H ∧ Ex F1 F3 ∧ F3 b = some (.tup (kk.map kV)) := by
      cases q : F1 b with
      | none => exact ⟨upd F1 b (.tup (kk.map kV)), .k al q h2 rfl, ex.put h2, Ex.new q, upd_same⟩
      | some o =>
        have z := ex b o q
        have y : o = .tup (kk.map kV) := by
          unfold StO at z
          split at z
          · rcases z with z | ⟨_, z⟩ <;> rw [h2] at z <;> cases z
          · rcases z with z | ⟨_, z⟩ <;> rw [h2] at z <;> cases z
          · rcases z with z | ⟨_, z⟩ <;> rw [h2] at z <;> cases z
          · rcases z with z | ⟨_, z⟩ <;> rw [h2] at z <;> cases z
          · rw [h2] at z; cases z
          · rw [h2] at z; cases z; rfl
          · rw [h2] at z; cases z; rfl
        subst y
        exact ⟨F1, al, ex, Ex.refl _, q⟩
    obtain ⟨F3, a3, x3, y3, q3⟩ := step
    obtain ⟨F2, a2, x2, y2, r2⟩ := learn_keys bs ds x3 a3 (by simpa using hl) hall.2 fun i c hc => h (i + 1) c (by simpa using hc)
    refine ⟨F2, a2, x2, y3.trans y2, .cons ?_ r2⟩
    exact .tup (od := { cls := .none, data := .plain }) (by unfold tupHO; rw [if_pos hi]; exact y2.t q3) rfl (reps_keys kk)
def intKeys (kvs : List (PyData × PyData)) : Bool := kvs.all fun kv => match kv.1 with
  | .tuple xs => allD xs
  | _ => false
def sortedT1 : List PyData → Option RD
  | [.dict kvs] => if kvs ≠ [] ∧ intKeys kvs = true ∧ sortOk (kvs.map (·.1)) = true then some (.own (.lst (sortD (kvs.map (·.1))))) else none
  | _ => none
theorem cald_sortT : CalD K rSortT sortedT1 := fun F H vs ds res Q ex rv e wd => by
  unfold sortedT1 at e
  split at e
  · split at e
    · rename_i kvs hc
      cases e
      obtain ⟨h0, hk, ok⟩ := hc
      cases rv with
      | cons a t =>
        cases t
        have nr : isRaw kvs = false := by
          cases kvs with
          | nil => rfl
          | cons p ps =>
            unfold intKeys at hk
            rw [List.all_cons, Bool.and_eq_true] at hk
            obtain ⟨p1, p2⟩ := p
            cases p1 <;> first | rfl | (cases hk.1)
        obtain ⟨p, rfl, h⟩ := a.dct ex nr
        rcases h with ⟨ks, h1, h2⟩ | ⟨ks, h1, h2⟩
        · exfalso
          cases h2 with
          | nil => exact h0 rfl
          | @cons k1 w ks d kvs r t =>
            unfold intKeys at hk
            rw [List.all_cons, Bool.and_eq_true] at hk
            cases k1 <;> (cases hk.1)
        · have ek := repT_keys h2
          refine ⟨p, ks, rfl, h1, by rw [← ek]; exact ok, fun q bs hq hb hl => ?_⟩
          rw [← ek] at hb
          have hperm : (sortD (kvs.map (·.1))).Perm (kvs.map (·.1)) := List.mergeSort_perm _ _
          obtain ⟨F2, a2, x2, _, r2⟩ := learn_keys (K := K) bs (F1 := F) (sortD (kvs.map (·.1))) ex .refl (by rw [hperm.length_eq, List.length_map, hl, h2.length]) (by
            rw [List.all_eq_true]
            intro d hd
            have hd' := hperm.mem_iff.mp hd
            obtain ⟨kv, g1, g2⟩ := List.mem_map.mp hd'
            subst g2
            exact List.all_eq_true.mp hk kv g1) hb
          exact wd _ F2 _ (.h _ a2 hq) (nw_list x2 hq r2)
    · cases e
  · cases e
/-- one of two readings of a call -/
theorem CalD.or {r r' : List V → Hp → VK → Prop} {f g : List PyData → Option RD} (h : CalD K r f) (h' : CalD K r' g) : CalD K (fun xs H Q => r xs H Q ∨ r' xs H Q) (fun ds => match f ds with
    | some z => some z
    | none => g ds) := fun F H vs ds res Q ex rv e wd => by
  have e : (match f ds with
    | some z => some z
    | none => g ds) = some res := e
  cases q : f ds with
  | some z =>
    rw [q] at e
    exact .inl (h F H vs ds res Q ex rv (q.trans e) wd)
  | none =>
    rw [q] at e
    exact .inr (h' F H vs ds res Q ex rv e wd)

/-! ### dict(d), d with tuple keys of whole numbers -/
/-- the hash of such a key -/
def hashK (w : World) (kk : List Key) : Int := reduceHash (Builtin.Tuple.tupleHashOf (kk.map (keyH w)))
abbrev rCopyT (w : World) : List V → Hp → VK → Prop := fun xs H Q => ∃ (a : Addr) (kvs : List (List Key × V)), xs = [.ref a] ∧ Rd H a (.dT kvs) ∧ (kvs.map fun kv => hashK w kv.1).Nodup ∧ ∀ p, H p = none → Q (.ref p) (upd H p (.dT kvs))
theorem call_copyT (hr : Room k X.A) : CallR X (.type "dict") (rCopyT X.w) := by
  intro pins s σ H xs us Q I r q
  obtain ⟨a, kvs, rfl, hd, hn, q⟩ := q
  obtain ⟨u, eu, rx⟩ := vals1 r
  subst eu
  cases rx
  obtain ⟨hz, hs, xs, rel, dd⟩ := dt_rd I.hok hd
  have hT : Shared.TypeIs { s with heap := s.heap.push { cls := .type "dict", data := .dict #[] } } (.ref s.heap.objs.size) "dict" := ⟨_, Heap.get?_push_size _ rfl, rfl⟩
  have hu := hr.un
  have hp0 : H s.heap.objs.size = none := I.hok.fresh (Nat.le_refl _)
  have hdo : s.heap.objs.size ≠ a := by
    obtain ⟨_, _, _, hg, _⟩ := dd
    exact fun e => absurd (Heap.lt_size hg) (by rw [e]; exact Nat.lt_irrefl _)
  have hkey : ∀ {kvs : List (List Key × V)} {xs : List (List Key × Addr × Value)}, KT H kvs xs → (∀ x ∈ xs, H x.2.1 = some (.tup (x.1.map kV))) ∧ xs.map (fun x => hashK X.w x.1) = kvs.map fun kv => hashK X.w kv.1 := fun r => by
    induction r with
    | nil => exact ⟨(fun x hx => by cases hx), rfl⟩
    | cons h t ih =>
      refine ⟨fun x hx => ?_, ?_⟩
      · rcases List.mem_cons.mp hx with z | z
        · subst z
          rw [← h.1]
          exact h.2.1
        · exact ih.1 x z
      · rw [List.map_cons, List.map_cons, ih.2, h.1]
  obtain ⟨hk1, hk2⟩ := hkey rel
  have hl : xs.length = kvs.length := (Paired.length rel).symm
  have hnew : (s.heap.push { cls := .type "dict", data := .dict #[] }).DictOfH (tupleKind (mixKind X.prog X.w)) s.heap.objs.size [] := Heap.DictOfH.new s.heap
  have I1 : Inv X pins σ H { s with heap := s.heap.push { cls := .type "dict", data := .dict #[] } } := I.kept (t' := s.toks) fun b o e => Heap.get?_push_of_some _ e
  obtain ⟨_, _, xs', rel', dd'⟩ := dt_rd I1.hok hd
  obtain ⟨hk1', hk2'⟩ := hkey rel'
  have hl' : xs'.length = kvs.length := (Paired.length rel').symm
  have hnd : (xs'.map (·.1)).Nodup := dd'.nodup
  refine callType_codes (Q₁ := fun obj s₁ => obj = .ref s.heap.objs.size ∧ s₁ = { s with heap := s.heap.push { cls := .type "dict", data := .dict #[] } }) F.kt_called_dict (F.kt_typeCall_dict_1 _) F.entry_dict_init (kt_code_dict_new _ ⟨rfl, rfl⟩) ?_
  rintro obj s₁ ⟨rfl, rfl⟩
  refine ⟨hT, F.args_dict_init_2 _ _, ?_⟩
  unfold Builtin.«dict.__init__»
  refine wpAny_bind ?_
  unfold Builtin.Dict.selfAndRest
  refine wpAny_bind (wpAny_notOrdered_dict hT ?_)
  show wpAny _ _ (pure (s.heap.objs.size, [Value.ref a])) _ _ _
  refine wpAny_pure ?_
  refine updateFrom_dictH (A := X.A.in1) (knd := tupleKind (mixKind X.prog X.w)) .none (by show X.A.units + 1 + 1 < cLine; omega) hdo hs hnew dd' (.inr ⟨fun x hx => ?_, ?_⟩) (by simp only [List.length_nil, Nat.zero_add]; rw [hl']; exact hz) fun h' hd' _ hs' => ?_
  · obtain ⟨o, items, n, g1, g2, _⟩ := key_of I1.hok (hk1' x hx)
    exact ⟨o, g1, g2⟩
  · have e : (xs'.map fun x => (tupleKind (mixKind X.prog X.w)).hash x.1) = xs'.map fun x => hashK X.w x.1 := rfl
    rw [e, hk2']
    exact hn
  · rw [storedAllH_nil_of_nodup xs' hnd] at hd'
    have hm : (s.heap.objs.size == sysModules) = false := beq_eq_false_iff_ne.mpr (Nat.ne_of_gt I.big)
    obtain ⟨o', es, ep, g1, g2, g3, g4, _, g5⟩ := hd'
    refine ⟨rfl, .ref s.heap.objs.size, _, I.laid (t' := s.toks) (o := .dT kvs) (fun b u e => ?_) (Nat.le_refl _) ⟨hz, hm, xs', ?_, o', es, ep, g1, g2, g3, g4, g5⟩, rfl, q _ hp0⟩
    · exact (hs'.2 b (Nat.ne_of_lt (Heap.lt_size e))).trans (Heap.get?_push_of_some _ e)
    · exact rel'.keeps fun b ys e => by rw [upd_ne (ne_of_none e hp0)]; exact e
/-- the hash of a key of whole numbers -/
def hashD (w : World) : PyData → Int
  | .tuple xs => match asKs xs with
    | some kk => hashK w kk
    | none => 0
  | _ => 0
def hashI (is : List Int) : Int := reduceHash (Builtin.Tuple.tupleHashOf (is.map hashInt))
def hashI' : PyData → Int
  | .tuple xs => match asIs xs with
    | some is => hashI is
    | none => 0
  | _ => 0
def copyT1 : List PyData → Option RD
  | [.dict kvs] => if kvs ≠ [] ∧ intKeys kvs = true ∧ (kvs.map fun kv => hashI' kv.1).Nodup then some (.own (.dct true kvs)) else none
  | _ => none
theorem hash_ints {w : World} : ∀ {kk : List Key} , allI (kk.map kV) = true → ∃ is : List Int, kk = is.map Sum.inl ∧ asIs (kk.map kD) = some is ∧ kk.map (keyH w) = is.map hashInt
  | [], _ => ⟨[], rfl, rfl, rfl⟩
  | .inl i :: kk, h => by
    have h' : allI (kk.map kV) = true := h
    obtain ⟨is, h1, h2, h3⟩ := hash_ints (w := w) h'
    refine ⟨i :: is, by rw [h1]; rfl, ?_, ?_⟩
    · show (asIs (kk.map kD)).map (i :: ·) = _
      rw [h2]
      rfl
    · rw [List.map_cons, List.map_cons, h3]
      rfl
  | .inr x :: kk, h => by cases h
theorem hash_keys {w : World} : ∀ {ks : List (List Key × V)} {kvs : List (PyData × PyData)}, RepT K F ks kvs → intKeys kvs = true → kvs.map (fun kv => hashI' kv.1) = ks.map fun kv => hashK w kv.1
  | _, _, .nil, _ => rfl
  | (k1, w1) :: ks, (_, d) :: kvs, .cons r t, hk => by
    unfold intKeys at hk
    rw [List.all_cons, Bool.and_eq_true] at hk
    rw [List.map_cons, List.map_cons, hash_keys t hk.2]
    congr 1
    obtain ⟨is, e1, e2, e3⟩ := hash_ints (w := w) (kk := k1) (by rw [← allD_key]; exact hk.1)
    show (match asIs (k1.map kD) with
      | some is => hashI is
      | none => 0) = hashK w k1
    rw [e2]
    show reduceHash (Builtin.Tuple.tupleHashOf (is.map hashInt)) = reduceHash (Builtin.Tuple.tupleHashOf (k1.map (keyH w)))
    rw [e3]
theorem cald_copyT {w : World} : CalD K (rCopyT w) copyT1 := fun F H vs ds res Q ex rv e wd => by
  unfold copyT1 at e
  split at e
  · split at e
    · rename_i kvs hc
      cases e
      obtain ⟨h0, hk, hn⟩ := hc
      cases rv with
      | cons a t =>
        cases t
        have nr : isRaw kvs = false := by
          cases kvs with
          | nil => rfl
          | cons p ps =>
            unfold intKeys at hk
            rw [List.all_cons, Bool.and_eq_true] at hk
            obtain ⟨p1, p2⟩ := p
            cases p1 <;> first | rfl | (cases hk.1)
        obtain ⟨p, rfl, h⟩ := a.dct ex nr
        rcases h with ⟨ks, h1, h2⟩ | ⟨ks, h1, h2⟩
        · exfalso
          cases h2 with
          | nil => exact h0 rfl
          | @cons k1 w ks d kvs r t =>
            unfold intKeys at hk
            rw [List.all_cons, Bool.and_eq_true] at hk
            cases k1 <;> (cases hk.1)
        · refine ⟨p, ks, rfl, h1, ?_, fun q hq => wd _ F _ (.h1 _ hq) ⟨q, rfl, ex.none hq, ⟨_, upd_same, h2⟩, hq⟩⟩
          rw [← hash_keys h2 hk]
          exact hn
    · cases e
  · cases e
end
end Pv
namespace Pv
open PySem PySem.Spec PyProof.Rows L2 PySem.W

/-! ### any sequence walked -/
def selA : PyData → Option (List PyData)
  | .list xs => some xs
  | .tuple xs => some xs
  | .str s => some (signs s)
  | _ => none
section
variable {X : Cx} {b : Bx} {k : Nat} {pos p tpos pos' apos p1 px : Pos} {tg e e2 o : Expr} {es elts : List Expr} {kk : Nat} {f f2 : M RD} {fs : List (M RD)} {K : PySem.W.Frag}
theorem PI.or {tg iter : Expr} {t t' : TI} (h : PI X tg iter t) (h' : PI X tg iter t') : PI X tg iter (fun σ H R => t σ H R ∨ t' σ H R) := ⟨fun pins s σ H R I q => q.elim (h.run pins s σ H R I) (h'.run pins s σ H R I)⟩
theorem bnd_sel {F H : Hp} {σ : St} {env : En} {R : It → Hp → Prop} {f : M RD} {sel sel1 sel2 : PyData → Option (List PyData)} (hs : ∀ d xs, sel d = some xs → sel1 d = some xs ∨ sel2 d = some xs) (ok : OkI b F H σ env (fIt sel f env) R) : OkI b F H σ env (fIt sel1 f env) R ∨ OkI b F H σ env (fIt sel2 f env) R := by
  unfold fIt at ok ⊢
  cases q : f env with
  | none => rw [q] at ok; exact ok.elim
  | some oo =>
    rw [q] at ok
    cases oo with
    | ex c e => exact .inl ok
    | ok r e1 =>
      have ok : OkI b F H σ env (match frzR r e1 with
        | some (d, e2) => rok (sel d) e2
        | none => none) R := ok
      show OkI b F H σ env (match frzR r e1 with
        | some (d, e2) => rok (sel1 d) e2
        | none => none) R ∨ OkI b F H σ env (match frzR r e1 with
        | some (d, e2) => rok (sel2 d) e2
        | none => none) R
      cases q2 : frzR r e1 with
      | none => rw [q2] at ok; exact ok.elim
      | some z =>
        obtain ⟨d, e2⟩ := z
        rw [q2] at ok
        have ok : OkI b F H σ env (rok (sel d) e2) R := ok
        show OkI b F H σ env (rok (sel1 d) e2) R ∨ OkI b F H σ env (rok (sel2 d) e2) R
        cases q3 : sel d with
        | none => rw [q3] at ok; exact ok.elim
        | some xs =>
          rw [q3] at ok
          rcases hs d xs q3 with h | h
          · rw [h]; exact .inl ok
          · rw [h]; exact .inr ok
def selLT : PyData → Option (List PyData)
  | .list xs => some xs
  | .tuple xs => some xs
  | _ => none
theorem pi_any (g : Gx X b k) (h : PV X b f e) : PIv X b (fIt selA f) tg e :=
  PI.imp (PI.or (PI.or (pi_lst (tg := tg) g h) (pi_tpl g h)) (pi_txt g h)) fun σ H R q => by
    obtain ⟨F, env, I, ok⟩ := q
    rcases bnd_sel (sel1 := selLT) (sel2 := selS) (fun d xs h => by
      cases d <;> first | exact .inl h | exact .inr h | cases h) ok with ok | ok
    · rcases bnd_sel (sel1 := selL) (sel2 := selT) (fun d xs h => by
        cases d <;> first | exact .inl h | exact .inr h | cases h) ok with ok | ok
      · exact .inl (.inl ⟨F, env, I, ok⟩)
      · exact .inl (.inr ⟨F, env, I, ok⟩)
    · exact .inr ⟨F, env, I, ok⟩
def enA : List PyData → Option (List PyData)
  | [.list xs] => some (enumD xs)
  | [.tuple xs] => some (enumD xs)
  | _ => none
theorem pi_en (g : Gx X b k) (hm : X.mg "enumerate" = none) (ha : PAv X b fs [e]) (hg : Gl X "enumerate" := by rfl) (hs : starEach [e] X.env = [(false, eval e X.env)] := by rfl) : PIv X b (fItA enA fs) (.Tuple elts kk tpos) (.Call (.Name "enumerate" p) [e] [] pos) :=
  PI.imp (PI.or (pi_enL (kk := kk) (tpos := tpos) (elts := elts) g hm ha hg hs) (pi_enT g hm ha hg hs)) fun σ H R q => by
    obtain ⟨F, env, I, ok⟩ := q
    have key : OkI b F H σ env (fItA enL fs env) R ∨ OkI b F H σ env (fItA enT fs env) R := by
      unfold fItA at ok ⊢
      cases q : fArgs fs env with
      | none => rw [q] at ok; exact ok.elim
      | some oo =>
        rw [q] at ok
        cases oo with
        | ex c e => exact .inl ok
        | ok rs e1 =>
          have ok : OkI b F H σ env (match frzs rs e1 with
            | some (ds, e2) => match enA ds with
              | some xs => some (.ok xs e2)
              | none => none
            | none => none) R := ok
          show OkI b F H σ env (match frzs rs e1 with
            | some (ds, e2) => match enL ds with
              | some xs => some (.ok xs e2)
              | none => none
            | none => none) R ∨ OkI b F H σ env (match frzs rs e1 with
            | some (ds, e2) => match enT ds with
              | some xs => some (.ok xs e2)
              | none => none
            | none => none) R
          cases q2 : frzs rs e1 with
          | none => rw [q2] at ok; exact ok.elim
          | some z =>
            obtain ⟨ds, e2⟩ := z
            rw [q2] at ok
            have ok : OkI b F H σ env (match enA ds with
              | some xs => some (.ok xs e2)
              | none => none) R := ok
            show OkI b F H σ env (match enL ds with
              | some xs => some (.ok xs e2)
              | none => none) R ∨ OkI b F H σ env (match enT ds with
              | some xs => some (.ok xs e2)
              | none => none) R
            unfold enA at ok
            split at ok
            · rename_i heq
              split at heq
              · cases heq
                exact .inl ok
              · cases heq
                exact .inr ok
              · cases heq
            · exact ok.elim
    rcases key with ok | ok
    · exact .inl ⟨F, env, I, ok⟩
    · exact .inr ⟨F, env, I, ok⟩

/-! ### methods of data -/
/-- may the methods of T be called of it -/
def mtdOk (T : String) : PyData → Bool
  | .str _ => T == "str"
  | .list _ => T == "list"
  | .tuple ys => T == "tuple" && !allD ys
  | _ => false
theorem allI_reps {K : PySem.W.Frag} {F : Hp} : ∀ {vs : List V} {ds : List PyData}, Reps K F vs ds → allI vs = true → allD ds = true
  | _, _, .nil, _ => rfl
  | v :: vs, d :: ds, .cons r t, h => by
    have h2 : allI [v] = true ∧ allI vs = true := by
      unfold allI at h ⊢
      rw [List.all_cons, Bool.and_eq_true] at h
      exact ⟨by rw [List.all_cons, Bool.and_eq_true]; exact ⟨h.1, rfl⟩, h.2⟩
    have h3 : allD [d] = true := by cases r <;> first | rfl | cases h2.1
    have h4 := allI_reps t h2.2
    unfold allD at h3 h4 ⊢
    rw [List.all_cons, Bool.and_eq_true] at h3 ⊢
    exact ⟨h3.1, h4⟩
theorem mtd_ty {F H : Hp} {v : V} {d : PyData} {T : String} (ex : Ex F H) (r : Rv K F H v d) (h : mtdOk T d = true) : tyS T v H := by
  cases d with
  | str s => rw [r.str]; exact eq_of_beq h
  | list xs =>
    obtain ⟨a, vs, rfl, h1, r1⟩ := r.lst ex
    exact .inl ⟨eq_of_beq h, vs, h1⟩
  | tuple xs =>
    obtain ⟨a, vs, od, rfl, h1, r1, nd⟩ := r.tup
    have h' : (T == "tuple" && !allD xs) = true := h
    rw [Bool.and_eq_true] at h'
    have hH := ex.h h1
    unfold tupHO at hH
    have ni : ¬ allI vs = true := fun z => by
      have := allI_reps r1 z
      rw [this] at h'
      cases h'.2
    rw [if_neg ni] at hH
    exact .inr (.inl ⟨eq_of_beq h'.1, od, vs, hH, nd⟩)
  | _ => cases h
/-- a method of a value does op -/
def MtD (K : PySem.W.Frag) (r : V → List V → Hp → VK → Prop) (op : PyData → List PyData → Option RD) : Prop :=
  ∀ (F H : Hp) (v : V) (vs : List V) (d : PyData) (ds : List PyData) (res : RD) (Q : VK), Ex F H → Rv K F H v d → Rvs K F H vs ds → op d ds = some res → Wd K F H res Q → r v vs H Q
def fMtd (T : String) (op : PyData → List PyData → Option RD) (f : M RD) (fs : List (M RD)) : M RD := fun e => bnd (f e) fun r e1 => match rslv e1 r with
  | none => none
  | some x0 => if mtdOk T x0 = true then bnd (fArgs fs e1) fun rs e2 => match rslv e2 r, rslvs e2 rs with
    | some x, some ds => rok (op x ds) e2
    | _, _ => none
    else none
theorem pv_mtd {T id : String} {name : Str} {r : V → List V → Hp → VK → Prop} {op : PyData → List PyData → Option RD} (pa : PlainAttrs T) (slot : Slot T name id) (hty : typeOf (.builtin id) = pure (.type "method_descriptor")) (hm : MtR X id r) (hd : MtD X.K r op)
    (g : Gx X b k) (ho : PV X b f o) (ha : PAv X b fs (e :: es))
    (hbase : attributeBase o name X.env (eval o X.env) = eval o X.env := by rfl)
    (hfew : ((backTo pos (starEach (e :: es) X.env)).all (fun x => !x.1) && (backToKw pos (keywordEach [] X.env)).all (fun x => x.1.isSome)
      && decide ((e :: es).length + ([] : List Keyword).length + (if ([] : List Keyword).isEmpty then 0 else 1) < 30)) = true := by rfl)
    (hline : (apos.endLine == pos.line) = true := by rfl) (hs : starEach (e :: es) X.env = (false, eval e X.env) :: starEach es X.env := by rfl) (hplain : (backTo pos (starEach es X.env)).any (·.1) = false := by rfl) :
    PV X b (fMtd T op f fs) (.Call (.Attribute o name apos) (e :: es) [] pos) :=
  PE.imp (pe_bmS pa slot hty hm ho ha hbase hfew hline hs hplain) fun σ H Q h => by
    obtain ⟨F, env, I, ok⟩ := h
    refine vV0 I ok fun rv env1 v F1 H1 I1 g1 er ok1 => ?_
    cases q : rslv env1 rv with
    | none => rw [q] at ok1; exact ok1.elim
    | some x0 =>
      rw [q] at ok1
      have ok1 : OkV b F H σ env (if mtdOk T x0 = true then bnd (fArgs fs env1) fun rs e2 => match rslv e2 rv, rslvs e2 rs with
        | some x, some ds => rok (op x ds) e2
        | _, _ => none
        else none) Q := ok1
      by_cases hT : mtdOk T x0 = true
      · rw [if_pos hT] at ok1
        refine ⟨mtd_ty I1.ext (Er.rv I1 er q) hT, ?_⟩
        refine aV0 I1 (OkV.re ok1 g1) fun rs env2 vs F2 H2 I2 g2 er2 ok2 => ?_
        have er' := er.step g2
        cases q2 : rslv env2 rv with
        | none => rw [q2] at ok2; exact ok2.elim
        | some x =>
          rw [q2] at ok2
          cases q3 : rslvs env2 rs with
          | none => rw [q3] at ok2; exact ok2.elim
          | some ds =>
            rw [q3] at ok2
            have ok2 : OkV b F1 H1 σ env1 (rok (op x ds) env2) Q := ok2
            cases q4 : op x ds with
            | none => rw [q4] at ok2; exact ok2.elim
            | some res =>
              rw [q4] at ok2
              have z1 := Er.rv I2 er' q2
              have z2 := Ers.rvs I2 er2 q3
              have w := wd_of I2 (OkV.re ok2 g2)
              rw [g.kk] at z1 z2 w
              exact hd F2 H2 v vs x ds res Q I2.ext z1 z2 q4 w
      · rw [if_neg hT] at ok1; exact ok1.elim
/-- s.strip(signs) -/
def stripD (x : PyData) (ds : List PyData) : Option RD := match x, ds with
  | .str a, [.str c] => if a.length ≤ lim then some (.val (.str (Txt.stripChars a c))) else none
  | _, _ => none
theorem mtd_strip : MtD K (fun x xs H Q => ∃ a b, x = .str a ∧ xs = [.str b] ∧ a.length ≤ sizeLine ∧ Q (.str (Txt.stripChars a b)) H) stripD := fun F H v vs d ds res Q ex rv rs e wd => by
  unfold stripD at e
  split at e
  · split at e
    · rename_i hl
      cases e
      cases rs with
      | cons a t =>
        cases t
        exact ⟨_, _, rv.str, by rw [a.str], lim_le hl, wd_val wd (.str _)⟩
    · cases e
  · cases e
/-- texts as data -/
def asSs : List PyData → Option (List Str)
  | [] => some []
  | .str i :: ds => (asSs ds).map (i :: ·)
  | _ => none
theorem asSs_eq : ∀ {ds : List PyData} {ns : List Str}, asSs ds = some ns → ds = ns.map .str
  | [], ns, h => by cases h; rfl
  | d :: ds, ns, h => by
    cases d with
    | str i =>
      obtain ⟨ms, h1, rfl⟩ := Option.map_eq_some_iff.mp (show (asSs ds).map (i :: ·) = some ns from h)
      rw [asSs_eq h1]
      rfl
    | _ => cases h
theorem asSs_map : ∀ ns : List Str, asSs (ns.map .str) = some ns
  | [] => rfl
  | n :: ns => by
    show (asSs (ns.map .str)).map (n :: ·) = _
    rw [asSs_map ns]
    rfl
theorem reps_strs {F : Hp} : ∀ {ns : List Str} {vs : List V}, Reps K F vs (ns.map .str) → vs = ns.map .str
  | [], _, r => by cases r; rfl
  | n :: ns, _, r => by
    cases r with
    | cons a t => cases a; rw [reps_strs t]; rfl
/-- t.index(x), texts -/
def indexD (x : PyData) (ds : List PyData) : Option RD := match x, ds with
  | .tuple xs, [.str c] => match asSs xs with
    | some ss => if c ∈ ss then some (.val (.int (ss.idxOf c : Nat))) else none
    | none => none
  | _, _ => none
abbrev rTIdx (K : PySem.W.Frag) : V → List V → Hp → VK → Prop := fun x xs H Q => ∃ (a : Addr) (ss : List Str) (c : Str), x = .ref a ∧ xs = [.str c] ∧ SqT K H a (ss.map V.str) ∧ c ∈ ss ∧ Q (.int (ss.idxOf c : Nat)) H
theorem strs_of : ∀ {ss : List Str} {us : List Value}, Vals (ss.map V.str) us → StrsAre us ss
  | [], _, r => by cases r; exact .nil
  | s :: ss, _, r => by
    cases r with
    | cons a t =>
      obtain ⟨t', rfl⟩ := a
      exact .cons s t' (strs_of t)
theorem mt_tIndex : MtR X "tuple.index" (rTIdx X.K) := by
  intro pins s σ H x xs v us Q I rx rxs h
  obtain ⟨a, ss, c, rfl, rfl, hs, hc, q⟩ := h
  cases rx
  obtain ⟨u, rfl, ru⟩ := rxs.one
  obtain ⟨t, rfl⟩ := ru
  obtain ⟨its, rv, pt, hz⟩ := I.tuple hs
  exact PySem.SeqAt.tuple_index_strs pt (strs_of rv) hc ⟨.int _, H, I.tok _, ⟨_, rfl⟩, q⟩
theorem mtd_index : MtD K (rTIdx K) indexD := fun F H v vs d ds res Q ex rv rs e wd => by
  unfold indexD at e
  split at e
  · split at e
    · rename_i ss hss
      split at e
      · rename_i hc
        cases e
        cases rs with
        | cons a t =>
          cases t
          have := asSs_eq hss
          subst this
          obtain ⟨p, ws, od, rfl, h1, r1, _⟩ := rv.tup
          have e2 := reps_strs r1
          subst e2
          exact ⟨p, ss, _, rfl, by rw [a.str], sqh (ex.h h1), hc, wd_val wd (.int _)⟩
      · cases e
    · cases e
  · cases e
/-! ### all, any -/
theorem cald_all : CalD K (rAll K) allD1 := fun F H vs ds res Q ex rv e wd => by
  unfold allD1 at e
  split at e
  · obtain ⟨bs, h1, rfl⟩ := Option.map_eq_some_iff.mp e
    have := asBs_eq h1
    subst this
    cases rv with
    | cons a t =>
      cases t
      obtain ⟨p, ws, rfl, h2, r2⟩ := a.lst ex
      rw [reps_bls r2] at h2
      exact ⟨p, bs, rfl, sql h2, wd_val wd (.bl _)⟩
  · cases e
theorem cald_any : CalD K (rAny K) anyD1 := fun F H vs ds res Q ex rv e wd => by
  unfold anyD1 at e
  split at e
  · obtain ⟨bs, h1, rfl⟩ := Option.map_eq_some_iff.mp e
    have := asBs_eq h1
    subst this
    cases rv with
    | cons a t =>
      cases t
      obtain ⟨p, ws, rfl, h2, r2⟩ := a.lst ex
      rw [reps_bls r2] at h2
      exact ⟨p, bs, rfl, sql h2, wd_val wd (.bl _)⟩
  · cases e
end
end Pv
namespace Pv
open PySem PySem.Spec PyProof.Rows L2 PySem.W

/-! ### isinstance -/
def tyD : PyData → String
  | .none => "NoneType"
  | .bool _ => "bool"
  | .int _ => "int"
  | .str _ => "str"
  | .list _ => "list"
  | .tuple _ => "tuple"
  | .dict ((.none, _) :: _) => "tuple"
  | .dict ((.bool _, _) :: _) => "list"
  | .dict _ => "dict"
/-- is a type one of some others -/
def subT (a b : String) : Bool := a == b || (a == "bool" && b == "int")
def anyT (Ts : List String) (d : PyData) : Bool := Ts.any fun T => subT (tyD d) T
def knownT (T : String) : Bool := T == "bool" || T == "int" || T == "str" || T == "list" || T == "tuple" || T == "dict"
theorem kitB_sub : ∀ a ∈ ["NoneType", "bool", "int", "str", "list", "tuple", "dict"], ∀ b ∈ ["bool", "int", "str", "list", "tuple", "dict"], kitB a b = some (subT a b) := by decide +kernel
theorem tyD_in (d : PyData) : tyD d ∈ ["NoneType", "bool", "int", "str", "list", "tuple", "dict"] := by
  unfold tyD
  split <;> decide
theorem knownT_in {T : String} (h : knownT T = true) : T ∈ ["bool", "int", "str", "list", "tuple", "dict"] := by
  unfold knownT at h
  simp only [Bool.or_eq_true, beq_iff_eq] at h
  rcases h with ((((h | h) | h) | h) | h) | h <;> subst h <;> decide
def fIsi (Ts : List String) (f : M RD) : M RD := fun e => bnd (f e) fun r e1 => match rslv e1 r with
  | some x => some (.ok (.val (.bool (anyT Ts x))) e1)
  | none => none
section
variable {X : Cx} {b : Bx} {k : Nat} {pos p p1 p2 : Pos} {e : Expr} {es : List Expr} {f : M RD} {K : PySem.W.Frag}
/-- the type of a value, dicts that are walked too -/
def TyY (K : PySem.W.Frag) (H : Hp) (v : V) (t : Value) : Prop := TyX K H v t ∨ ∃ (a : Addr) (ob : Obj) (ks : List (List Key × V)), v = .ref a ∧ t = .type "dict" ∧ H a = some (.frz ob (.dT ks))
theorem kit_ofY {pins : List (Addr × Obj)} {σ : St} {H : Hp} {s : Shared} {x : V} {u t : Value} (I : Inv X pins σ H s) (rx : RelV x u) (ty : TyY X.K H x t) : ∃ P : Heap → Prop, PySem.W.KitX X.K u t P ∧ P s.heap ∧ u ≠ .builtin "__main__.__loader__#opaque" := by
  rcases ty with ty | ⟨a, ob, ks, rfl, rfl, h⟩
  · exact kit_of I rx ty
  · cases (show u = Value.ref a from rx)
    obtain ⟨_, _, _, _, _, o, es, ep, h1, h2, _⟩ := (show ObjOk X.prog X.w H s.heap a (.frz ob (.dT ks)) from I.hok a _ h)
    exact ⟨_, PySem.W.kitx_dict, ⟨o, h1, h2.1⟩, fun z => nomatch z⟩
theorem rv_ty {F H : Hp} {v : V} {d : PyData} (ex : Ex F H) (r : Rv K F H v d) : TyY K H v (.type (tyD d)) := by
  have dd : ∀ {a : Addr}, ((∃ ks, Rd H a (.dK ks)) ∨ ∃ ks, Rd H a (.dT ks)) → TyY K H (.ref a) (.type "dict") := by
    rintro a (⟨ks, h | ⟨o, h⟩⟩ | ⟨ks, h | ⟨o, h⟩⟩)
    · exact .inl (.base (.dK h))
    · exact .inl (.fDict h)
    · exact .inl (.base (.dT h))
    · exact .inr ⟨a, o, ks, rfl, rfl, h⟩
  have tt : ∀ {a : Addr} {od : Obj} {vs : List V}, H a = some (tupHO od vs) → TyY K H (.ref a) (.type "tuple") := fun {a od vs} h => by
    unfold tupHO at h
    split at h
    · exact .inl (.base (.tup h))
    · exact .inl (.fTuple h)
  cases d with
  | none => rw [r.non]; exact .inl (.base .non)
  | bool c => rw [r.bl]; exact .inl (.base (.bl c))
  | int i => rw [r.int]; exact .inl (.base (.int i))
  | str s => rw [r.str]; exact .inl (.base (.str s))
  | list xs =>
    obtain ⟨a, vs, rfl, h1, _⟩ := r.lst ex
    exact .inl (.base (.lst h1))
  | tuple xs =>
    obtain ⟨a, vs, od, rfl, h1, _⟩ := r.tup
    exact tt (ex.h h1)
  | dict kvs =>
    by_cases nr : isRaw kvs = true
    · generalize e : PyData.dict kvs = d at r
      cases r with
      | val h =>
        subst e
        cases h with
        | raw h _ => exact .inl (.base (.tup (ex.t h)))
        | scr h _ =>
          rcases ex.sq h with (h | ⟨o, h⟩) | ⟨o, its, n, h1, h2, _⟩
          · exact .inl (.base (.lst h))
          · exact .inl (.base (.frz h))
          · exact .inl (.kList h1 h2)
        | dK h r =>
          cases r with
          | nil => cases nr
          | @cons k1 w ks d ds a t => cases k1 <;> cases nr
        | dT h r =>
          cases r with
          | nil => cases nr
          | cons a t => cases nr
      | @ob p o _ ro =>
        exfalso
        cases o with
        | lst xs => cases e
        | dct t kv =>
          cases e
          cases t with
          | false =>
            obtain ⟨ks, _, r⟩ := ro
            cases r with
            | nil => cases nr
            | @cons k1 w ks d ds a t => cases k1 <;> cases nr
          | true =>
            obtain ⟨ks, _, r⟩ := ro
            cases r with
            | nil => cases nr
            | cons a t => cases nr
    · have nr' : isRaw kvs = false := by simpa using nr
      obtain ⟨a, rfl, h⟩ := r.dct ex nr'
      have e : tyD (.dict kvs) = "dict" := by
        cases kvs with
        | nil => rfl
        | cons q qs =>
          obtain ⟨q1, q2⟩ := q
          cases q1 <;> first | rfl | cases nr'
      rw [e]
      refine dd ?_
      rcases h with ⟨ks, h, _⟩ | ⟨ks, h, _⟩
      · exact .inl ⟨ks, h⟩
      · exact .inr ⟨ks, h⟩
theorem kitAny_any : ∀ (Ts : List String) (a : String), a ∈ ["NoneType", "bool", "int", "str", "list", "tuple", "dict"] → Ts.all knownT = true → PySem.W.kitAny K (.type a) (Ts.map Value.type) = some (Ts.any fun T => subT a T)
  | [], a, _, _ => rfl
  | T :: Ts, a, ha, h => by
    rw [List.all_cons, Bool.and_eq_true] at h
    rw [List.map_cons, List.any_cons]
    have e := kitB_sub a ha T (knownT_in h.1)
    exact kitAny_cons (b := subT a T) (kit_ty e) (fun hb => by rw [hb, Bool.false_or]; exact kitAny_any Ts a ha h.2) fun hb => by rw [hb]; rfl
theorem pe_ty {T : String} {x : Str} (hm : X.mg x = none) (hg : Gl X x) (hv : bootBuiltins x = some (.type T)) (hn : x ≠ "__name__" := by decide) (hd : (x == ("__debug__" : Str)) = false := by decide) : PE X (.Name x p) (tC (.ty T)) := pe_bltn hg hm hv rfl hn hd
/-- isinstance(e, T) -/
theorem call_isiY : CallR X (.builtin "isinstance") (fun xs H Q => ∃ (x : V) (t : Value) (T : String) (b : Bool), xs = [x, .ty T] ∧ TyY X.K H x t ∧ PySem.W.kitOne X.K t (.type T) = some b ∧ Q (.bl b) H) := by
  intro pins s σ H xs us Q I r h
  obtain ⟨x, t, T, b, rfl, ty, e, q⟩ := h
  obtain ⟨u1, u2, rfl, r1, r2⟩ := vals2 r
  cases (show u2 = Value.type T from r2)
  obtain ⟨P, Z, p, hx⟩ := kit_ofY I r1 ty
  exact PySem.W.kia_one Z I.kIn p e hx fun tk => ⟨.bl b, H, I.tok tk, rfl, q⟩
theorem call_isiYT : CallR X (.builtin "isinstance") (fun xs H Q => ∃ (x : V) (tp : Addr) (t : Value) (Ts : List String) (b : Bool), xs = [x, .ref tp] ∧ H tp = some (.tup (Ts.map V.ty)) ∧ TyY X.K H x t ∧ PySem.W.kitAny X.K t (Ts.map Value.type) = some b ∧ Q (.bl b) H) := by
  intro pins s σ H xs us Q I r h
  obtain ⟨x, tp, t, Ts, b, rfl, hT, ty, e, q⟩ := h
  obtain ⟨u1, u2, rfl, r1, r2⟩ := vals2 r
  cases (show u2 = Value.ref tp from r2)
  obtain ⟨P, Z, p, hx⟩ := kit_ofY I r1 ty
  obtain ⟨_, its, rv, o, h1, h2, n, h3⟩ := (show ObjOk X.prog X.w H s.heap tp (.tup (Ts.map V.ty)) from I.hok tp _ hT)
  have ei : ∀ {Ts : List String} {its : List Value}, Vals (Ts.map V.ty) its → its = Ts.map Value.type := fun {Ts} => by
    induction Ts with
    | nil => intro its r; cases r; rfl
    | cons T Ts ih =>
      intro its r
      cases r with
      | cons a t =>
        rw [List.map_cons, ← ih t]
        cases a
        rfl
  have e3 := ei rv
  subst e3
  obtain ⟨oc, od, dt, sl⟩ := o
  simp only at h2 h3
  subst h2 h3
  exact PySem.W.kia_tup Z I.kIn p h1 e hx fun tk => ⟨.bl b, H, I.tok tk, rfl, q⟩
theorem isi_end {Ts : List String} {F H : Hp} {σ : St} {env : En} {Q : VK} {R : V → Hp → Prop} (I : IV b F H σ env) (ok : OkV b F H σ env (fIsi Ts f env) Q)
    (hk : ∀ v H1 F1 x, Ex F1 H1 → Rv b.K F1 H1 v x → (∀ H2, (H2 = H1 ∨ ∃ q o, H1 q = none ∧ H2 = upd H1 q o) → Q (.bl (anyT Ts x)) H2) → R v H1) : tV b f σ H R := by
  refine vV0 I ok fun r env1 v F1 H1 I1 g1 er ok0 => ?_
  cases q : rslv env1 r with
  | none => rw [q] at ok0; exact ok0.elim
  | some x =>
    rw [q] at ok0
    refine hk v H1 F1 x I1.ext (Er.rv I1 er q) fun H2 h2 => ?_
    rcases h2 with rfl | ⟨p, o, hp, rfl⟩
    · exact ok0 _ F1 _ I1 g1 (.bl _)
    · exact ok0 _ F1 _ (I1.allocH hp) (g1.trans (Gr.newH hp)) (.bl _)
theorem pv_isi {T : String} {e2 : Expr} (g : Gx X b k) (h : PV X b f e) (h2 : PE X e2 (tC (.ty T))) (hm : X.mg "isinstance" = none) (hT : knownT T = true := by decide) (hg : Gl X "isinstance" := by rfl)
    (he : starEach [e, e2] X.env = (false, eval e X.env) :: starEach [e2] X.env := by rfl) (he2 : starEach [e2] X.env = (false, eval e2 X.env) :: starEach [] X.env := by rfl) (hpl : (backTo pos (starEach [e2] X.env)).any (·.1) = false := by rfl) : PV X b (fIsi [T] f) (.Call (.Name "isinstance" p) [e, e2] [] pos) :=
  PE.imp (pe_callB call_isiY hg hm (by decide +kernel) (pa_cons h (pa_cons h2 pa_nil he2) he) (by decide) (by decide) he hpl) fun σ H Q hh => by
    obtain ⟨F, env, I, ok⟩ := hh
    refine isi_end I ok fun v H1 F1 x ex rv fin => ?_
    rw [g.kk] at rv
    exact ⟨v, .type (tyD x), T, subT (tyD x) T, rfl, rv_ty ex rv, kit_ty (kitB_sub _ (tyD_in x) T (knownT_in hT)), by have := fin H1 (.inl rfl); simpa [anyT] using this⟩
/-- the names of types, one behind another -/
inductive PTy (X : Cx) : List Expr → List String → Prop
  | nil : PTy X [] []
  | cons {e : Expr} {T : String} {es : List Expr} {Ts : List String} : PE X e (tC (.ty T)) → starEach (e :: es) X.env = (false, eval e X.env) :: starEach es X.env → PTy X es Ts → PTy X (e :: es) (T :: Ts)
theorem PTy.pa : ∀ {es : List Expr} {Ts : List String}, PTy X es Ts → PA X es (fun _ H Q => Q (Ts.map V.ty) H)
  | _, _, .nil => PA.imp pa_nil fun σ H Q h => h
  | _, _, .cons h hs t => PA.imp (pa_cons h t.pa hs) fun σ H Q q => q
theorem pv_isiT {Ts : List String} {x1 : Nat} {pt : Pos} (g : Gx X b k) (h : PV X b f e) (h2 : PTy X es Ts) (hm : X.mg "isinstance" = none) (hT : Ts.all knownT = true := by decide) (hl : Ts.length ≤ 100 := by decide) (hg : Gl X "isinstance" := by rfl)
    (he : starEach [e, .Tuple es x1 pt] X.env = (false, eval e X.env) :: starEach [.Tuple es x1 pt] X.env := by rfl) (he2 : starEach [.Tuple es x1 pt] X.env = (false, eval (.Tuple es x1 pt) X.env) :: starEach [] X.env := by rfl) (hpl : (backTo pos (starEach [.Tuple es x1 pt] X.env)).any (·.1) = false := by rfl) :
    PV X b (fIsi Ts f) (.Call (.Name "isinstance" p) [e, .Tuple es x1 pt] [] pos) :=
  PE.imp (pe_callB call_isiYT hg hm (by decide +kernel) (pa_cons h (pa_cons (pe_tup h2.pa) pa_nil he2) he) (by decide) (by decide) he hpl) fun σ H Q hh => by
    obtain ⟨F, env, I, ok⟩ := hh
    refine isi_end I ok fun v H1 F1 x ex rv fin => ?_
    rw [g.kk] at rv
    refine ⟨by rw [List.length_map]; exact lim_le (Nat.le_trans hl (by decide)), fun q hq => ?_⟩
    have rv' : Rv X.K F1 (upd H1 q (.tup (Ts.map V.ty))) v x := by
      cases rv with
      | val r => exact .val r
      | @ob p' o h1 h2 =>
        obtain ⟨ho, e1, _, _⟩ := RepOb.obj h2
        exact .ob h1 (h2.mono (Ex.refl F1) fun o z => by rw [upd_ne (ne_of_none e1 hq)]; exact z)
    exact ⟨v, q, .type (tyD x), Ts, anyT Ts x, rfl, upd_same, rv_ty (ex.upd (ex.none hq)) rv', kitAny_any Ts _ (tyD_in x) hT, fin _ (.inr ⟨q, _, hq, rfl⟩)⟩
end
end Pv
namespace Pv
open PySem PySem.Spec PyProof.Rows L2 PySem.W

/-! ### d == {} -/
section
variable {X : Cx} {b : Bx} {k j n : Nat} {pos p p1 : Pos} {e : Expr} {es : List Expr} {f : M RD} {fs : List (M RD)} {K : PySem.W.Frag} {F H : Hp}
def DLen (H : Hp) (a : Addr) (n : Nat) : Prop := (∃ ks, Rd H a (.dK ks) ∧ n = ks.length) ∨ ∃ ks, Rd H a (.dT ks) ∧ n = ks.length
theorem dlen_raw {pins : List (Addr × Obj)} {σ : St} {s : Shared} {a : Addr} {n : Nat} (I : Inv X pins σ H s) (h : DLen H a n) : ∃ o es ep, s.heap.get? a = some o ∧ o.ExactDict ∧ o.data = .dict es ep ∧ es.size = n ∧ (a == sysModules) = false := by
  rcases h with ⟨ks, h, rfl⟩ | ⟨ks, h, rfl⟩
  · obtain ⟨_, hd, vs, rel, dd⟩ := dk_rd I.hok h
    obtain ⟨es, ep, ⟨o, h1, h2, h3⟩, h4, _⟩ := dd.raw
    exact ⟨o, es, ep, h1, h2, h3, h4.trans rel.length.symm, hd⟩
  · obtain ⟨_, hd, xs, rel, dd⟩ := dt_rd I.hok h
    obtain ⟨o, es, ep, ho, hx, hdat, hes, _⟩ := dd
    exact ⟨o, es, ep, ho, hx, hdat, by rw [Paired.length rel]; exact size_of_entries hes, hd⟩
theorem samePairsE {prog : Program} {w : World} {A : Around} {E : Value → Shared → Prop} {s : Shared} {nm : String} {a b : Addr} {oa ob : Obj} {es es' : Array DictEntry} {ep ep' : Nat} {Q : Bool → Shared → Prop} (ha : (a == sysModules) = false) (hb : (b == sysModules) = false)
    (hoa : s.heap.get? a = some oa) (hda : oa.data = .dict es ep) (hob : s.heap.get? b = some ob) (hdb : ob.data = .dict es' ep') (h0 : es'.size = 0) (h : Q (es.size == 0) s) :
    wpAny (model prog w) A (Builtin.Dict.samePairs nm a b) Q E s := by
  unfold Builtin.Dict.samePairs Builtin.Dict.showsAll
  rw [if_neg (show ¬ (a == sysModules) = true by rw [ha]; exact Bool.false_ne_true), if_neg (show ¬ (b == sysModules) = true by rw [hb]; exact Bool.false_ne_true)]
  refine wpAny_bind (wpAny_pure (wpAny_bind (wpAny_pure ?_)))
  refine wpAny_bind (wpAny_dictEntries hoa hda ?_)
  dsimp only
  refine wpAny_bind (wpAny_dictEntries hob hdb ?_)
  by_cases hsz : es.size = es'.size
  · have hz : es.size = 0 := hsz.trans h0
    rw [if_neg (by rw [hsz]; simp)]
    refine wpAny_bind (wpAny_dictEpoch hoa hda ?_)
    refine wpAny_bind ?_
    rw [Std.Legacy.Range.forIn_eq_forIn_range']
    simp only [Std.Legacy.Range.size, Nat.sub_zero, Nat.add_sub_cancel, Nat.div_one, hz, List.range'_zero, List.forIn_nil]
    refine wpAny_pure ?_
    rw [hz] at h
    exact wpAny_pure h
  · rw [if_pos (by simpa using hsz)]
    have : (es.size == 0) = false := by rw [h0] at hsz; simpa using hsz
    rw [this] at h
    exact wpAny_bind (wpAny_rule (wpAny_pure h))
def eqED (neg : Bool) (x y : PyData) : Option RD := match x, y with
  | .dict kvs, .dict [] => if isRaw kvs = true then none else some (.val (.bool (neg ^^ kvs.isEmpty)))
  | _, _ => none
abbrev rEqE (neg : Bool) : R2 := fun x y H Q => ∃ a c n, x = .ref a ∧ y = .ref c ∧ DLen H a n ∧ DLen H c 0 ∧ Q (.bl (neg ^^ (n == 0))) H
theorem dlen_of {kvs : List (PyData × PyData)} {v : V} (ex : Ex F H) (r : Rv K F H v (.dict kvs)) (nr : isRaw kvs = false) : ∃ a, v = .ref a ∧ DLen H a kvs.length := by
  obtain ⟨a, rfl, h⟩ := r.dct ex nr
  rcases h with ⟨ks, h1, h2⟩ | ⟨ks, h1, h2⟩
  · exact ⟨a, rfl, .inl ⟨ks, h1, h2.length.symm⟩⟩
  · exact ⟨a, rfl, .inr ⟨ks, h1, h2.length.symm⟩⟩
theorem opd_eqE (neg : Bool) : OpD K (rEqE neg) (eqED neg) := fun F H v u x y res Q ex rv ru e wd => by
  unfold eqED at e
  split at e
  · split at e
    · cases e
    · rename_i kvs nr
      cases e
      obtain ⟨a, rfl, h1⟩ := dlen_of ex rv (by simpa using nr)
      obtain ⟨c, rfl, h2⟩ := dlen_of ex ru rfl
      refine ⟨a, c, _, rfl, rfl, h1, h2, ?_⟩
      have e : (kvs.length == 0) = kvs.isEmpty := by cases kvs <;> rfl
      rw [e]
      exact wd_val wd (.bl _)
  · cases e
theorem op_eqE (hr : Room k X.A) : OpR X (compareOp .Eq) (rEqE false) := by
  intro pins s σ H x y v u Q I rx ry h
  obtain ⟨a, c, n, rfl, rfl, h1, h2, q⟩ := h
  obtain rfl : v = Value.ref a := rx
  obtain rfl : u = Value.ref c := ry
  obtain ⟨oa, es, ep, g1, g2, g3, g4, g5⟩ := dlen_raw I h1
  obtain ⟨oc, es', ep', k1, k2, k3, k4, k5⟩ := dlen_raw I h2
  have hu := hr.un
  have tA : s.TypeIs (.ref a) "dict" := ⟨oa, g1, g2.1⟩
  have tC : s.TypeIs (.ref c) "dict" := ⟨oc, k1, k2.1⟩
  refine wpAny_richCompare_same_room (op := .Eq) tA tC PySem.F.slot_dict_eq (wpAny_call_entry PySem.F.slot_dict_eq tA PySem.F.entry_dict_eq ?_ (PySem.F.args_dict_eq_2 _ _)) (by omega)
  show wpAny _ _ (Builtin.Dict.dictSlotArgs "__eq__" ⟨[.ref a, .ref c], []⟩ >>= _) _ _ s
  refine wpAny_bind ?_
  unfold Builtin.Dict.dictSlotArgs
  refine wpAny_bind (wpAny_notOrdered_dict tA ?_)
  show wpAny _ _ (pure (Value.ref a, Value.ref c)) _ _ s
  refine wpAny_pure ?_
  refine wpAny_bind (wpAny_isInstance (T := "dict") tC PySem.F.sub_dict_dict ?_)
  simp only [Bool.not_true, Bool.false_eq_true, if_false]
  refine wpAny_bind (wpAny_pure (wpAny_bind (wpAny_pure ?_)))
  refine wpAny_bind (samePairsE g5 k5 g1 g3 k1 k3 k4 ?_)
  refine wpAny_pure ⟨_, rfl, ?_, .bl (n == 0), H, I, ?_, by simpa using q⟩
  · exact fun x => nomatch x
  · rw [g4]
    show Value.bool _ = Value.bool _
    cases (n == 0) <;> rfl
theorem op_neE (hr : Room k X.A) : OpR X (compareOp .NotEq) (rEqE true) := by
  intro pins s σ H x y v u Q I rx ry h
  obtain ⟨a, c, n, rfl, rfl, h1, h2, q⟩ := h
  obtain rfl : v = Value.ref a := rx
  obtain rfl : u = Value.ref c := ry
  obtain ⟨oa, es, ep, g1, g2, g3, g4, g5⟩ := dlen_raw I h1
  obtain ⟨oc, es', ep', k1, k2, k3, k4, k5⟩ := dlen_raw I h2
  have hu := hr.un
  have tA : s.TypeIs (.ref a) "dict" := ⟨oa, g1, g2.1⟩
  have tC : s.TypeIs (.ref c) "dict" := ⟨oc, k1, k2.1⟩
  refine wpAny_richCompare_same_room (op := .NotEq) tA tC PySem.F.slot_dict_ne (wpAny_call_entry PySem.F.slot_dict_ne tA PySem.F.entry_dict_ne ?_ (PySem.F.args_dict_ne_2 _ _)) (by omega)
  show wpAny _ _ (Builtin.Dict.dictSlotArgs "__ne__" ⟨[.ref a, .ref c], []⟩ >>= _) _ _ s
  refine wpAny_bind ?_
  unfold Builtin.Dict.dictSlotArgs
  refine wpAny_bind (wpAny_notOrdered_dict tA ?_)
  show wpAny _ _ (pure (Value.ref a, Value.ref c)) _ _ s
  refine wpAny_pure ?_
  refine wpAny_bind (wpAny_isInstance (T := "dict") tC PySem.F.sub_dict_dict ?_)
  simp only [Bool.not_true, Bool.false_eq_true, if_false]
  refine wpAny_bind (wpAny_pure (wpAny_bind (wpAny_pure ?_)))
  refine wpAny_bind (samePairsE g5 k5 g1 g3 k1 k3 k4 ?_)
  refine wpAny_pure ⟨_, rfl, ?_, .bl (!(n == 0)), H, I, ?_, by simpa using q⟩
  · exact fun x => nomatch x
  · rw [g4]
    show Value.bool _ = Value.bool _
    cases (n == 0) <;> rfl
/-- all of == and != -/
def eqA (x y : PyData) : Option RD := match cmpD cY PyData.eqv x y with
  | some z => some z
  | none => eqED false x y
def neA (x y : PyData) : Option RD := match cmpD cY (fun x y => !PyData.eqv x y) x y with
  | some z => some z
  | none => eqED true x y
theorem op_eqA (hr : Room k X.A) : OpR X (compareOp .Eq) (fun x y H Q => rDD X.K cY PyData.eqv x y H Q ∨ rEqE false x y H Q) := OpR.or (op_eqD' hr) (op_eqE hr)
theorem op_neA (hr : Room k X.A) : OpR X (compareOp .NotEq) (fun x y H Q => rDD X.K cY (fun x y => !PyData.eqv x y) x y H Q ∨ rEqE true x y H Q) := OpR.or (op_neD' hr) (op_neE hr)
theorem opd_eqA : OpD K (fun x y H Q => rDD K cY PyData.eqv x y H Q ∨ rEqE false x y H Q) eqA := OpD.or opd_dd (opd_eqE false)
theorem opd_neA : OpD K (fun x y H Q => rDD K cY (fun x y => !PyData.eqv x y) x y H Q ∨ rEqE true x y H Q) neA := OpD.or opd_dd (opd_eqE true)

/-! ### functions as values -/
/-- a def at an address -/
structure DfA (S : Sx) (P : Program) (w : World) (mg : Str → Option Value) (base : Heap) (k : Nat) (a : Addr) (n : Nat) (g : Fn) : Prop where
  ex : ∃ (fd : FuncData) (ps : List Str), FnOk P w S.K mg base (L2.CX P w) k a fd ps (spF S n g) ∧ PySem.W.keepIn S.K (.ref a) = true ∧ Binds S.K fd ps []
def fFnG (a : Addr) : M RD := fun e => some (.ok (.fn a) e)
theorem pv_gfn {x : Str} {a : Addr} (hm : X.mg x = some (.ref a)) (hg : Gl X x := by rfl) (hd : (x == ("__debug__" : Str)) = false := by decide) : PV X b (fFnG a) (.Name x pos) :=
  PE.imp (pe_glob (v := .ref a) hg hm rfl hd) fun σ H Q h => by
    obtain ⟨F, env, I, ok⟩ := h
    exact ok (.ref a) F H I (Gr.refl _ _ _ _) rfl
def fFunL (i : Nat) (T : Addr → Option Fn) (ms : List Mo) (fs : List (M RD)) : M RD := fun e => match e[i]? with
  | some (.f a) => match T a with
    | some g => fFun ms g fs e
    | none => none
  | _ => none
theorem pv_funL (i : Nat) {x : Str} {ms : List Mo} {T : Addr → Option Fn} (D : ∀ a g, T a = some g → DfA b.toSx X.prog X.w X.mg X.base j a n g) (gx : Gx X b k) (ha : PAv X b fs (e :: es)) (hj : j ≤ k := by decide) (hn : n = ms.length := by rfl)
    (hN : X.N[i]? = some x := by rfl) (hv : Vis X.env.scope x := by first | exact Or.inl rfl | exact Or.inr (Or.inl rfl) | exact Or.inr (Or.inr rfl)) (hdb : (x == ("__debug__" : Str)) = false := by decide) (hcd : (x == ("__classdict__" : Str)) = false := by decide)
    (he : starEach (e :: es) X.env = (false, eval e X.env) :: starEach es X.env := by rfl) (hpl : (backTo pos (starEach es X.env)).any (·.1) = false := by rfl) :
    PV X b (fFunL i T ms fs) (.Call (.Name x p1) (e :: es) [] pos) := by
  refine ⟨fun pins s σ H Q I h => ?_⟩
  obtain ⟨F, env, Iv, ok⟩ := h
  unfold fFunL at ok
  cases q : env[i]? with
  | none => rw [q] at ok; exact ok.elim
  | some sl =>
    rw [q] at ok
    cases sl with
    | f a =>
      have ok : OkV b F H σ env (match T a with
        | some g => fFun ms g fs env
        | none => none) Q := ok
      cases q2 : T a with
      | none => rw [q2] at ok; exact ok.elim
      | some g =>
        rw [q2] at ok
        obtain ⟨fd, ps, Fn', hk, hb⟩ := (D a g q2).ex
        rw [gx.kk] at Fn' hk hb
        obtain ⟨v, h1, h2⟩ := Iv.sl i _ q
        have h2 : v = some (.ref a) := h2
        subst h2
        have z : tCallS (spF b.toSx n g) (WE b.W) (tA b fs) σ H Q := fFun_of hn ⟨F, env, Iv, ok⟩
        refine wpAny_Call_Name_kw (thn ((pe_var (pos := p1) hN hv hdb hcd).run pins s σ H (fun v H1 => v = .ref a ∧ H1 = H) I ⟨.ref a, h1, rfl, rfl⟩) fun u s1 ⟨v, H1, I1, r1, q1⟩ => ?_)
        obtain ⟨rfl, rfl⟩ := q1
        cases r1
        have e : b.toSx.K = X.K := gx.kk
        refine PySem.W.callWith_K (h₀ := X.base) I.ok.mod.kin hk (thn (ha.run pos pins s1 σ _ _ I1 z) fun us s2 ⟨vs, H2, I2, r, q⟩ => ⟨I2.kIn, ?_⟩) he hpl
        exact run_fnS Fn' (gx.room.mono hj) hb (passAt gx.tk σ) I2 r q
    | _ => exact ok.elim
end
end Pv
namespace Pv
open PySem PySem.Spec PyProof.Rows L2 PySem.W
section
variable {X : Cx} {b : Bx} {k : Nat} {pos p p1 p2 : Pos} {e e2 : Expr} {f f2 : M RD}
/-- list(range(n)), list(range(i, j)) -/
def fLRg1 (f : M RD) : M RD := fun e => bnd (f e) fun r e1 => match rslv e1 r with
  | some (.int j) => if -1000000 ≤ j ∧ j < 1000000 then some (.ok (.own (.lst (rngD 0 j.toNat))) e1) else none
  | _ => none
def fLRg2 (f f2 : M RD) : M RD := fun e => bnd (f e) fun r e1 => bnd (f2 e1) fun r2 e2 => match rslv e2 r, rslv e2 r2 with
  | some (.int i), some (.int j) => if -1000000 ≤ i ∧ i < 1000000 ∧ -1000000 ≤ j ∧ j < 1000000 then some (.ok (.own (.lst (rngD i (j - i).toNat))) e2) else none
  | _, _ => none
theorem reps_rg {K : PySem.W.Frag} {F : Hp} (a c : Int) : Reps K F (rgV a c) (rngD a (c - a).toNat) := by
  unfold rgV rngD
  generalize List.range (c - a).toNat = l
  induction l with
  | nil => exact .nil
  | cons i l ih => exact .cons (.int _) ih
theorem lst_new {F0 H0 F H : Hp} {σ : St} {env env0 : En} {Q : VK} {vs : List V} {ds : List PyData} (I : IV b F H σ env) (g : Gr σ env0 F0 H0 σ env F H) (r : Reps b.K F vs ds) (ok : OkV b F0 H0 σ env0 (some (.ok (.own (.lst ds)) env)) Q) : ∀ q, H q = none → Q (.ref q) (upd H q (.lst vs)) := fun q hq =>
  ok _ F _ (I.allocH hq) (g.trans (Gr.newH hq)) ⟨q, rfl, I.ext.none hq, ⟨vs, upd_same, r⟩, I.h0 q hq, g.d q hq, I.notMm hq⟩
theorem pv_lrg1 (g : Gx X b k) (h : PV X b f e) (hl : X.mg "list" = none) (hm : X.mg "range" = none) (hgl : Gl X "list" := by rfl) (hg : Gl X "range" := by rfl) (na : starEach [e] X.env = (false, eval e X.env) :: starEach [] X.env := by rfl)
    (na2 : starEach [Expr.Call (.Name "range" p1) [e] [] p2] X.env = (false, eval (.Call (.Name "range" p1) [e] [] p2) X.env) :: starEach [] X.env := by rfl) : PV X b (fLRg1 f) (.Call (.Name "list" p) [.Call (.Name "range" p1) [e] [] p2] [] pos) :=
  PE.imp (pe_listRg g.calm hgl hl (prg_1 hg hm h na) na2) fun σ H Q hh => by
    obtain ⟨F, env, I, ok⟩ := hh
    refine vV0 I ok fun r env1 v F1 H1 I1 g1 er ok1 => ?_
    cases q : rslv env1 r with
    | none => rw [q] at ok1; exact ok1.elim
    | some x =>
      rw [q] at ok1
      cases x with
      | int j =>
        have ok1 : OkV b F H σ env (if -1000000 ≤ j ∧ j < 1000000 then some (.ok (.own (.lst (rngD 0 j.toNat))) env1) else none) Q := ok1
        by_cases hj : -1000000 ≤ j ∧ j < 1000000
        · rw [if_pos hj] at ok1
          refine ⟨j, (Er.rv I1 er q).int, ⟨by omega, by omega, by omega, by omega, by omega⟩, ?_⟩
          exact lst_new I1 g1 (by have := reps_rg (K := b.K) (F := F1) 0 j; rw [Int.sub_zero] at this; exact this) ok1
        · rw [if_neg hj] at ok1; exact ok1.elim
      | _ => exact ok1.elim
theorem pv_lrg2 (g : Gx X b k) (h : PV X b f e) (h2 : PV X b f2 e2) (hl : X.mg "list" = none) (hm : X.mg "range" = none) (hgl : Gl X "list" := by rfl) (hg : Gl X "range" := by rfl) (na : starEach [e, e2] X.env = (false, eval e X.env) :: starEach [e2] X.env := by rfl) (nb : starEach [e2] X.env = (false, eval e2 X.env) :: starEach [] X.env := by rfl)
    (hpl : (backTo p2 (starEach [e2] X.env)).any (·.1) = false := by rfl)
    (na2 : starEach [Expr.Call (.Name "range" p1) [e, e2] [] p2] X.env = (false, eval (.Call (.Name "range" p1) [e, e2] [] p2) X.env) :: starEach [] X.env := by rfl) : PV X b (fLRg2 f f2) (.Call (.Name "list" p) [.Call (.Name "range" p1) [e, e2] [] p2] [] pos) :=
  PE.imp (pe_listRg g.calm hgl hl (by first | exact prg_2 hg hm h h2 na nb hpl | exact prg_2 hg hm h h2 na nb | exact prg_2 hg hm h h2 na) na2) fun σ H Q hh => by
    obtain ⟨F, env, I, ok⟩ := hh
    refine vV I ok fun r env1 v F1 H1 I1 g1 er ok1 => ?_
    refine vV0 I1 ok1 fun r2 env2 v2 F2 H2 I2 g2 er2 ok2 => ?_
    have er' := er.step g2
    cases q : rslv env2 r with
    | none => rw [q] at ok2; exact ok2.elim
    | some x =>
      rw [q] at ok2
      cases q2 : rslv env2 r2 with
      | none => rw [q2] at ok2; cases x <;> exact ok2.elim
      | some y =>
        rw [q2] at ok2
        cases x with
        | int i =>
          cases y with
          | int j =>
            have ok2 : OkV b F1 H1 σ env1 (if -1000000 ≤ i ∧ i < 1000000 ∧ -1000000 ≤ j ∧ j < 1000000 then some (.ok (.own (.lst (rngD i (j - i).toNat))) env2) else none) Q := ok2
            by_cases hj : -1000000 ≤ i ∧ i < 1000000 ∧ -1000000 ≤ j ∧ j < 1000000
            · rw [if_pos hj] at ok2
              refine ⟨i, j, (Er.rv I2 er' q).int, (Er.rv I2 er2 q2).int, ⟨by omega, by omega, by omega, by omega, by omega⟩, ?_⟩
              exact lst_new I2 g2 (reps_rg i j) ok2
            · rw [if_neg hj] at ok2; exact ok2.elim
          | _ => exact ok2.elim
        | _ => exact ok2.elim
end

section
variable {X : Cx} {K : PySem.W.Frag} {k : Nat}
def sortedA (ds : List PyData) : Option RD := match sortedD1 ds with
  | some z => some z
  | none => sortedT1 ds
theorem call_sortedA (hc : X.calm = true) (hr : Room k X.A) : CallR X (.builtin "sorted") (fun xs H Q => rSortD X.K xs H Q ∨ rSortT xs H Q) := CallR.or (call_sortD hr) (call_sortT hc hr)
theorem cald_sorted : CalD K (fun xs H Q => rSortD K xs H Q ∨ rSortT xs H Q) sortedA := CalD.or cald_sort cald_sortT
def dictA (ds : List PyData) : Option RD := match dictT ds with
  | some z => some z
  | none => copyT1 ds
theorem call_dictA (hc : X.calm = true) (hr : Room k X.A) : CallR X (.type "dict") (fun xs H Q => rDictT X.K xs H Q ∨ rCopyT X.w xs H Q) := CallR.or (call_dictT hc hr) (call_copyT hr)
theorem cald_dict {w : World} : CalD K (fun xs H Q => rDictT K xs H Q ∨ rCopyT w xs H Q) dictA := CalD.or cald_dictT cald_copyT
end
end Pv
namespace Pv
open PySem PySem.Spec PyProof.Rows L2 PySem.W

/-! ### the law's own def: nothing is being shown around it -/
/-- as FnOk, where no text of an object is under way -/
structure FnG (P : Program) (w : World) (K : PySem.W.Frag) (mg : Str → Option Value) (base : Heap) (CX : CXT) (k : Nat) (f : Addr) (fd : FuncData) (ps : List Str) (sp : Sp) : Prop where
  len : ∀ vs H Q E, sp vs H Q E → vs.length = ps.length
  run : ∀ (A : Around) (outer : List Env) (s : Shared) (H : Hp) (args : PySem.Args) (us : List Value) (vs : List V) (Q : VK) (E : XK), A.guards = some [] → Room k A → Env0 P w K mg base A outer s H → BindsTo s fd args (ps.zip us) → Vals vs us → sp vs H Q E →
    codeAny (model P w) A (.call (.ref f) args) (CR CX outer P w H s Q E) s
theorem fnG_of {CX : CXT} {P : Program} {w : World} {K : PySem.W.Frag} {mg : Str → Option Value} {base : Heap} {k : Nat} {f : Addr} {x qual : Str} {params : Arguments} {body : List Stmt} {scope : Scope} {fd : FuncData} {N ps : List Str} {sp : Sp} (Fd : FunD K x qual params body scope [] [] f fd) (S : FnScope N ps scope)
    (len : ∀ vs H Q E, sp vs H Q E → vs.length = ps.length)
    (hbody : ∀ (cdv : Value) (A : Around) (outer : List Env) (s : Shared) (H : Hp) (vs : List V) (Q : VK) (E : XK), (A.deeper (envOfC qual scope s.heap.objs.size f cdv)).guards = some [] → Room k (A.deeper (envOfC qual scope s.heap.objs.size f cdv)) → sp vs H Q E →
      ∃ t, PSs (cxOf CX P w K mg base N qual scope f cdv A outer s H E) body t ∧ t { nx := fun _ H' => Q .non H', rt := Q } (start N vs) H) : FnG P w K mg base CX (k + 1) f fd ps sp := by
  obtain ⟨oc, od, dV, kV, doc, pm, an, cdv, ct, osl, rfl, lk, hcd, _, _⟩ := Fd.ex
  refine ⟨len, fun A outer s H args us vs Q E hgd hr e0 hb r hsp => ?_⟩
  have KX : K.In s.heap := e0.mod.kin.keeps fun b o e => (e0.bs b o e).1
  have lim : s.heap.NoLimit := e0.mod.nolimit.keeps fun b o e => (e0.bs b o e).1
  have hkind : ∀ y ∈ ps.zip us, scope.names.lookup y.1 = some .local ∨ (scope.names.lookup y.1 = some .cell ∧ ((cellsFrom (s.heap.objs.size + 1) scope.names []).lookup y.1).isSome = true) := fun ⟨n, v⟩ hy => by
    rcases S.par n (List.of_mem_zip hy).1 with q | q
    · exact .inl q
    · exact .inr ⟨q, PySem.W.cellsFrom_some _ _ _ (.inl q)⟩
  refine codeAny_call_function hr.depth (KX _ _ lk) rfl S.co S.gen rfl (PySem.W.codeRec_of KX hcd) (hb _ _ _ _ ?_)
  refine wpAny_newFunctionEnv_cells S.kind hkind fun env he s1 x => ?_
  subst he
  refine ⟨lim.keeps x.toInCall.keep, codeAny_func ?_⟩
  obtain ⟨t, ht, hq⟩ := hbody cdv A outer s H vs Q E hgd (hr.deeper _) hsp
  have I : Inv (cxOf CX P w K mg base N qual scope f cdv A outer s H E) [] (start N vs) H s1 := inv_start S hr.hd e0 (len _ _ _ _ hsp) r x
  refine wpAny_mono (ht.run [] s1 (start N vs) H _ I hq) (fun fl s' hs => ?_) fun e s' hs => hs
  cases fl with
  | ret u =>
    obtain ⟨v, σ', H', J, rv, q⟩ := hs
    exact ⟨v, H', J.os, J.bare, J.base, J.hok, rv, q⟩
  | next =>
    obtain ⟨σ', H', J, q⟩ := hs
    exact ⟨V.non, H', J.os, J.bare, J.base, J.hok, rfl, q⟩
  | brk =>
    obtain ⟨_, _, _, q⟩ := hs
    exact q.elim
  | cont =>
    obtain ⟨_, _, _, q⟩ := hs
    exact q.elim
/-- the law, called with the script -/
theorem law_run {P : Program} {w : World} {K : PySem.W.Frag} {mg mb : Str → Option Value} {CX : CXT} {k : Nat} {fa a : Addr} {fd : FuncData} {x : Str} {sp : Sp} {s₁ : Shared} {vs : List Value} {ns : List Int}
    (KX : K.In s₁.heap) (hns : s₁.heap.Ns mainGlobals mg) (hb : s₁.heap.Ns builtinsNs mb) (hbb : ∀ x : Str, x ≠ "__name__" → mb x = bootBuiltins x) (hlim : s₁.heap.NoLimit) (hg : s₁.gens = #[])
    (ha : s₁.heap.get? a = some { cls := .type "list", data := .seq vs.toArray }) (hi : IntsAre vs ns) (hl : ns.length ≤ sizeLine) (hr : Room k callerA)
    (F : ∀ base : Heap, K.In base → base.Ns mainGlobals mg → FnG P w K mg base CX k fa fd [x] sp) (hbind : ∀ (s : Shared) (u : Value), BindsTo s fd ⟨[u], []⟩ [(x, u)])
    (hsp : ∀ H : Hp, Only H → SqL K H a (ns.map V.int) → sp [.ref a] H (fun v _ => v = .bl true) fun _ _ _ => False)
    (hCX : ∀ H e s', CX [] H s₁ (fun _ _ _ => False) e s' → False) :
    codeAny (model P w) callerA (.call (.ref fa) ⟨[.ref a], []⟩) (fun r s' => r = .ok (.ret (.bool true)) ∧ OldK s₁.heap s'.heap ∧ s'.os = s₁.os ∧ AllBare s'.gens) s₁ := by
  have rv := vals_ints hi
  have lenV := hi.length
  -- which objects are tracked: the script, unless the module keeps it
  obtain ⟨H, hO, hS, hok, hA, hK⟩ : ∃ H : Hp, Only H ∧ SqL K H a (ns.map V.int) ∧ HOk P w H s₁.heap ∧ (∀ b u, H b = some u → b = a ∧ ∃ o xs, u = .frz o (.lst xs)) ∧ (H a ≠ none → K.lookup a = none) := by
    cases hk : K.lookup a with
    | some o =>
      have e := KX a o hk
      rw [ha] at e
      cases e
      exact ⟨fun _ => none, fun _ => .inl rfl, .inr ⟨_, vs.toArray, _, hk, rfl, rfl, rfl, by rw [List.size_toArray, lenV]; exact hl, by simpa using rv⟩, (fun b u z => by cases z), (fun b u z => by cases z), fun z => absurd rfl z⟩
    | none =>
      let o : Obj := { cls := .type "list", data := .seq vs.toArray }
      have at_a : upd (fun _ => none) a (.frz o (.lst (ns.map V.int))) a = some (.frz o (.lst (ns.map V.int))) := upd_same
      have only : ∀ b u, upd (fun _ => none) a (.frz o (.lst (ns.map V.int))) b = some u → b = a ∧ u = .frz o (.lst (ns.map V.int)) := fun b u z => by
        by_cases e : b = a
        · subst e
          rw [at_a] at z
          exact ⟨rfl, (Option.some.inj z).symm⟩
        · rw [upd_ne e] at z
          cases z
      refine ⟨upd (fun _ => none) a (.frz o (.lst (ns.map V.int))), fun b => ?_, .inl (.inr ⟨o, at_a⟩), fun b u z => ?_, fun b u z => ?_, fun _ => rfl⟩
      · cases q : upd (fun _ => none) a (.frz o (.lst (ns.map V.int))) b with
        | none => exact .inl rfl
        | some u => exact .inr ⟨o, _, by rw [(only b u q).2]⟩
      · obtain ⟨rfl, rfl⟩ := only b u z
        exact ⟨ha, by rw [List.length_map]; exact hl, vs, _, rv, ha⟩
      · obtain ⟨h1, h2⟩ := only b u z
        exact ⟨h1, _, _, h2⟩
  -- the base: all the rest
  have not_a : ∀ {b : Addr} {o : Obj}, s₁.heap.get? b = some o → (∀ xs n, o.data ≠ .seq xs n) → H b = none := fun {b o} e d => by
    cases q : H b with
    | none => rfl
    | some u =>
      obtain ⟨rfl, _⟩ := hA b u q
      rw [ha] at e
      cases e
      exact absurd rfl (d _ _)
  have nsK : ∀ {b : Addr} {m : Str → Option Value}, s₁.heap.Ns b m → (hidT s₁.heap H).Ns b m := fun {b m} ⟨o, es, ep, e, d, r⟩ => ⟨o, es, ep, hidT_get e (not_a e fun xs n z => by rw [d] at z; cases z), d, r⟩
  have hKb : K.In (hidT s₁.heap H) := fun b o e => hidT_get (KX b o e) (by
    cases q : H b with
    | none => rfl
    | some u =>
      obtain ⟨rfl, _⟩ := hA b u q
      rw [hK (by rw [q]; exact fun z => nomatch z)] at e
      cases e)
  have hM : L2.Mod K mg (hidT s₁.heap H) := ⟨hKb, nsK hns, ⟨mb, nsK hb, hbb⟩, let ⟨mc, h1, h2⟩ := hlim; ⟨mc, nsK h1, h2⟩⟩
  have e0 : Env0 P w K mg (hidT s₁.heap H) callerA [] s₁ H := ⟨rfl, hM, fun b o e => of_hidT e, Nat.le_of_eq (hidT_size _ _), trivial, fun b hb => absurd (show b ∈ ([] : List Addr) from hb) (by simp), hok, .of_eq hg⟩
  refine codeAny_mono ((F _ hKb (nsK hns)).run callerA [] s₁ H ⟨[.ref a], []⟩ [.ref a] [.ref a] _ _ rfl hr e0 (hbind s₁ (.ref a)) (.cons rfl .nil) (hsp H hO hS)) fun r s' h => ?_
  cases r with
  | error e => exact (hCX H e s' h).elim
  | ok fl =>
    cases fl with
    | ret u =>
      obtain ⟨v, H', os, bare, un, hok', r', q⟩ := h
      have q' : v = .bl true := q
      subst q'
      obtain rfl : u = Value.bool true := r'
      refine ⟨rfl, OldK.of_keep fun b o e => ?_, os, bare⟩
      cases q : H b with
      | none => exact un.keep b o e q (by intro z; exact absurd (show b ∈ ([] : List Addr) from z) (by simp)) (by simp)
      | some u =>
        obtain ⟨rfl, ob, xs, rfl⟩ := hA b u q
        have e1 := (hok b _ q).1
        have e2 := (hok' b _ (un.frzs b ob _ q)).1
        rw [e] at e1
        cases e1
        exact e2
    | _ => exact False.elim h
/-- the end of a law whose def is FnG -/
theorem walk_ofG {l : PySem.W.OpenLaw} {n k : Nat} {q : Program} {loose : List Str} {XP : (Str → Option Value) → Heap → Prop} {YP : World → Heap → Prop} {d : DefRec} {CX : World → CXT} {x : Str}
    (hn : l.most = some n) (hn2 : n ≤ sizeLine) (hdf : d.params.defaults = []) (hr : Room k callerA)
    (F : ∀ (w : World) (mg : Str → Option Value) (fa : Addr) (h : Heap), YP w h → h.Ns mainGlobals mg → mg d.name = some (.ref fa) →
      ∃ (K : PySem.W.Frag) (fd : FuncData) (sp : Sp), K.In h ∧ (∀ (s : Shared) (u : Value), BindsTo s fd ⟨[u], []⟩ [(x, u)]) ∧
        (∀ (H : Hp) (a : Addr) (ns : List Int), ns.length ≤ n → (∀ k ∈ ns, Builtin.Int.intBits k ≤ 1048576) → Only H → SqL K H a (ns.map V.int) → sp [.ref a] H (fun v _ => v = .bl true) fun _ _ _ => False) ∧
        ∀ base : Heap, K.In base → base.Ns mainGlobals mg → FnG l.prog w K mg base (CX w) k fa fd [x] sp)
    (hCX : ∀ (w : World) (H : Hp) (s : Shared) (e : Value) (s' : Shared), CX w [] H s (fun _ _ _ => False) e s' → False) :
    PySem.W.WalkO q loose XP YP l.row.toRowW d [] (fun f vs => PySem.call f vs) := by
  refine Att.attach_callB hn hdf fun w s₀ s₁ mg mb fa o pm cd doc a vs ns G Y ho hd hcd hmg hobj hints hlen hbits hg => ?_
  obtain ⟨K, fd, sp, KX, hb, hsp, hF⟩ := F w mg fa _ Y G.T.g hmg
  exact law_run KX G.T.g G.T.b G.T.builtins G.T.nolimit hg hobj hints (Nat.le_trans hlen hn2) hr hF hb (fun H hO hS => hsp H a ns hlen hbits hO hS) fun H e s' => hCX w H s₁ e s'
end Pv
namespace Pv
open PySem PySem.Spec PyProof.Rows L2

/-! ### the law's def -/
section
variable {S : Sx} {P : Program} {w : World} {mg : Str → Option Value} {base : Heap} {x qual : Str} {params : Arguments} {body : List Stmt} {scope : Scope} {f : Addr} {fd : FuncData} {N ps : List Str} {k : Nat} {bd : MS}
theorem fn_defG (F : FunD S.K x qual params body scope [] [] f fd) (Sc : FnScope N ps scope)
    (hb : ∀ (cdv : Value) (A : Around) (outer : List Env) (s : Shared) (H : Hp) (E : XK) (B : List (Nat × Addr)), (cxOf (L2.CX P w) P w S.K mg base N qual scope f cdv A outer s H E).A.guards = some [] → Gx (cxOf (L2.CX P w) P w S.K mg base N qual scope f cdv A outer s H E) ⟨S, H, B, fun cls d _ H => E cls d H⟩ k →
      PFs (cxOf (L2.CX P w) P w S.K mg base N qual scope f cdv A outer s H E) ⟨S, H, B, fun cls d _ H => E cls d H⟩ bd body) (hps : ps.length ≤ N.length) : FnG P w S.K mg base (L2.CX P w) (k + 1) f fd ps (spF S ps.length (mkFn N.length bd)) := by
  refine fnG_of F Sc (fun vs H Q E h => ?_) (fun cdv A outer s H vs Q E hgd hr h => def_body Sc hps hr (hb cdv A outer s H E · hgd) h)
  obtain ⟨_, _, h, _⟩ := h
  exact h
end
theorem pf_void {X : Cx} {b : Bx} {ss : List Stmt} : PFs X b (fun _ => none) ss := ⟨fun pins s σ H K I h => by
  obtain ⟨F, env, _, ok⟩ := h
  exact ok.elim⟩
/-! ### repr -/
section
variable {X : Cx} {F H : Hp} {v : V} {k : Nat}
def reprD : List PyData → Option RD
  | [d] => match d with
    | .list _ | .tuple _ => if okD d = true ∧ d.showable = true ∧ d.hasDict = false ∧ d.shown.length ≤ sizeLine then some (.val (.str d.shown)) else none
    | _ => none
  | _ => none
theorem reads_ref {h : Heap} {u : Value} {d : PyData} {as : List Addr} (r : Reads h u d as) (hd : (∃ xs, d = .list xs) ∨ ∃ xs, d = .tuple xs) : ∃ a, u = .ref a := by
  rcases hd with ⟨xs, rfl⟩ | ⟨xs, rfl⟩ <;> cases r <;> exact ⟨_, rfl⟩
def rRepr (K : PySem.W.Frag) : List V → Hp → VK → Prop := fun vs H Q => ∃ F v d, vs = [v] ∧ Ex F H ∧ Rv K F H v d ∧ ((∃ xs, d = .list xs) ∨ ∃ xs, d = .tuple xs) ∧ okD d = true ∧ d.showable = true ∧ d.hasDict = false ∧ d.shown.length ≤ sizeLine ∧ Q (.str d.shown) H
theorem call_reprD (hr : Room k X.A) (hg : X.A.guards = some []) : CallR X (.builtin "repr") (rRepr X.K) := by
  intro pins s σ H xs us Q I r h
  obtain ⟨F, v, d, rfl, ex, rv, hd, ok, hs, hh, hz, q⟩ := h
  obtain ⟨u, rfl, ru⟩ := vals1 r
  have ok' := ok
  unfold okD at ok
  rw [Bool.and_eq_true] at ok
  obtain ⟨as, r1⟩ := rv.reads ex I ok.1 ru
  obtain ⟨a, rfl⟩ := reads_ref r1 hd
  have hu := hr.un
  have hdp := okD_dep ok'
  exact PySem.repr_of_reads' r1 hs (fun z => by rw [hh] at z; cases z) hg (by omega) (fun _ _ h => h) (fun h' u tk k => ⟨.str _, H, I.kept k, ⟨_, rfl⟩, q⟩) hz
theorem cald_repr {K : PySem.W.Frag} : CalD K (rRepr K) reprD := fun F H vs ds res Q ex rv e wd => by
  unfold reprD at e
  split at e
  · rename_i d
    cases rv with
    | cons a t =>
      cases t
      have hd : ((∃ xs, d = PyData.list xs) ∨ ∃ xs, d = .tuple xs) ∧ (okD d = true ∧ d.showable = true ∧ d.hasDict = false ∧ d.shown.length ≤ sizeLine) ∧ res = .val (.str d.shown) := by
        split at e
        · split at e
          · rename_i z
            cases e
            exact ⟨.inl ⟨_, rfl⟩, z, rfl⟩
          · cases e
        · split at e
          · rename_i z
            cases e
            exact ⟨.inr ⟨_, rfl⟩, z, rfl⟩
          · cases e
        · cases e
      obtain ⟨h1, ⟨h2, h3, h4, h5⟩, rfl⟩ := hd
      exact ⟨F, _, d, rfl, ex, a, h1, h2, h3, h4, h5, wd_val wd (.str _)⟩
  · cases e
end
end Pv
namespace Pv
open PySem PySem.Spec PyProof.Rows L2
/-- the script as data -/
def scrD (ns : List Int) : PyData := .dict [(.bool true, .list (ns.map .int))]
theorem reps_scr {K : PySem.W.Frag} {F : Hp} : ∀ ns : List Int, Reps K F (ns.map V.int) (ns.map PyData.int)
  | [] => .nil
  | n :: ns => .cons (.int n) (reps_scr ns)
/-- what stands around a law: K -/
def sxK (K : PySem.W.Frag) : Sx := ⟨K, fun _ => True, fun _ _ _ _ _ => trivial, fun _ _ _ _ _ _ _ _ => trivial, fun x => He.ga K x⟩
theorem sp_script {K : PySem.W.Frag} {g : Fn} {H : Hp} {a : Addr} {ns : List Int} (hS : SqL K H a (ns.map V.int)) (hg : ∃ out, g [.d (scrD ns)] = some (.rt (.val (.bool true)) out)) :
    spF (sxK K) 1 g [.ref a] H (fun v _ => v = .bl true) fun _ _ _ => False := by
  obtain ⟨out, hg⟩ := hg
  refine ⟨H, [.d (scrD ns)], rfl, ⟨.refl H, trivial, rfl, fun i s h => ?_, fun i j w w' o o' p h _ _ _ => ?_, fun q h => h, fun x hx => by cases hx⟩, fun i w o h => ?_, ?_⟩
  · cases i with
    | zero =>
      cases h
      exact ⟨_, rfl, _, rfl, .scr hS (reps_scr ns)⟩
    | succ i => simp at h
  · cases i with
    | zero => cases h
    | succ i => simp at h
  · cases i with
    | zero => cases h
    | succ i => simp at h
  · rw [hg]
    intro v F' H' _ _ r
    have r : Rep K F' v (.bool true) := r
    cases r
    rfl
/-- the end of a law: over its def, of which the mathematics says that it hands back True -/
theorem law_hc {l : PySem.W.OpenLaw} {n k : Nat} {q : Program} {loose : List Str} {YP : World → Heap → Prop} {d : DefRec} {x : Str} {g : (Str → Addr) → Fn}
    (hn : l.most = some n) (hn2 : n ≤ sizeLine) (hdf : d.params.defaults = []) (hr : Room k callerA)
    (F : ∀ (w : World) (mg : Str → Option Value) (fa : Addr) (h : Heap), YP w h → h.Ns mainGlobals mg → mg d.name = some (.ref fa) →
      ∃ (K : PySem.W.Frag) (fd : FuncData), K.In h ∧ (∀ (s : Shared) (u : Value), BindsTo s fd ⟨[u], []⟩ [(x, u)]) ∧
        ∀ base : Heap, K.In base → base.Ns mainGlobals mg → FnG l.prog w K mg base (L2.CX l.prog w) k fa fd [x] (spF (sxK K) 1 (g fun x => He.ga K x)))
    (hg : ∀ (cl : Str → Addr) (ns : List Int), ns.length ≤ n → (∀ k ∈ ns, Builtin.Int.intBits k ≤ 1048576) → ∃ out, g cl [.d (scrD ns)] = some (.rt (.val (.bool true)) out)) :
    PySem.W.WalkO q loose (PySem.W.XL q []) YP l.row.toRowW d [] (fun f vs => PySem.call f vs) := by
  refine walk_ofG (x := x) (CX := L2.CX l.prog) hn hn2 hdf hr (fun w mg fa h Y G hm => ?_) fun w H s e s' z => ?_
  · obtain ⟨K, fd, h1, h2, h3⟩ := F w mg fa h Y G hm
    exact ⟨K, fd, _, h1, h2, fun H a ns hl hb _ hS => sp_script hS (hg _ ns hl hb), h3⟩
  · obtain ⟨_, _, _, _, _, _, _, _, _, _, _, _, z⟩ := z
    exact z.elim
end Pv
namespace Pv
open PySem PySem.Spec PyProof.Rows L2
/-- a statement, after which what slot i holds is changed no more -/
def fFz (i : Nat) (f : MS) : MS := fun e => match f e with
  | some (.nx e1) => match frzR (.pl i) e1 with
    | some (_, e2) => some (.nx e2)
    | none => none
  | o => o
section
variable {X : Cx} {b : Bx} {f : MS} {st : Stmt}
theorem fz_ok {i : Nat} {F H : Hp} {σ : St} {env : En} {D : Ends} (ok : OkS b F H σ env (fFz i f env) D) : OkS b F H σ env (f env) D := by
  unfold fFz at ok
  cases w : f env with
  | none => rw [w] at ok; exact ok
  | some o =>
    rw [w] at ok
    cases o with
    | nx e1 =>
      simp only at ok
      intro σ' F' H' I g
      cases q : frzR (.pl i) e1 with
      | none => rw [q] at ok; exact ok.elim
      | some z =>
        obtain ⟨d, e2⟩ := z
        rw [q] at ok
        have hv : ∃ v, σ'[i]? = some (some v) := by
          have q : (match e1[i]? with
            | some (.d x) => some (x, e1)
            | some (.m true o) => some (o.d, e1.set i (.d o.d))
            | _ => none) = some (d, e2) := q
          split at q
          · rename_i x hx
            obtain ⟨u, h1, v, h2, _⟩ := I.sl i _ hx
            exact ⟨v, by rw [h1, h2]⟩
          · rename_i o hx
            obtain ⟨u, h1, p, h2, _⟩ := I.sl i _ hx
            exact ⟨.ref p, by rw [h1, h2]⟩
          · cases q
        obtain ⟨v, hv⟩ := hv
        obtain ⟨F2, I2, g2, _⟩ := frz_ok (v := v) (r := .pl i) I g hv q
        exact ok σ' F2 H' I2 g2
    | _ => exact ok
theorem pf_fz (i : Nat) (h : PF X b f st) : PF X b (fFz i f) st := PS.imp h fun D σ H z => by
  obtain ⟨F, env, I, ok⟩ := z
  exact ⟨F, env, I, fz_ok ok⟩
end
end Pv
namespace Pv
open PySem PySem.Spec PyProof.Rows L2
/-! ### max, min by len -/
/-- what was there is there -/
def Kp (h0 h : Heap) : Prop := ∀ b o, h0.get? b = some o → h.get? b = some o
theorem Kp.trans {a b c : Heap} (h : Kp a b) (k : Kp b c) : Kp a c := fun x o e => k x o (h x o e)

section
variable {prog : Program} {w : World} {A : Around} {h0 : Heap} {g0 : Array GenState} {d0 : Drawn} {o0 : OsState} {I S : Addr} {fp wr : List Addr} {n : Nat} {P : Nat → Value → Prop} {St : Nat → Heap → Prop} {R : Result → Shared → Prop} {kw : List (Str × Value)}
theorem maxLloop (kf : Nat → Int) (W : Walks prog w A.in1 I fp wr n P St) (hw : ∀ b ∈ wr, h0.get? b = none) (hS0 : h0.get? S = none) (hSf : S ∉ fp)
    (turn : ∀ i v h tk, P i v → Kp h0 h → ∀ (Q : Value → Shared → Prop) (E : Value → Shared → Prop), (∀ t tk', Q (.int (kf i) t) ⟨h, g0, d0, tk', o0⟩) → wpAny (model prog w) A.in1 (call (.builtin "len") [v]) Q E ⟨h, g0, d0, tk, o0⟩)
    (hR : ∀ i v h' tk', i < n → P i v → (∀ j, j < n → kf i ≥ kf j ∧ (j < i → kf i > kf j)) → Kp h0 h' → R (.ok (.ret v)) ⟨h', g0, d0, tk', o0⟩) :
    ∀ (r j i : Nat) (h : Heap) (tk : Nat) (vb : Value) (tb : Tok) (c : Nat), n - (j + 1) = r → j + 1 ≤ n → Kp h0 h → St (j + 1) h → h.get? S = some (seqObj "list" #[vb, .int (kf i) tb] c) →
      P i vb → i ≤ j → (∀ j', j' ≤ j → kf i ≥ kf j' ∧ (j' < i → kf i > kf j')) →
      codeAny (model prog w) A (.builtin "max.loop" ⟨[.ref I, .builtin "len", .ref S], kw⟩) R ⟨h, g0, d0, tk, o0⟩ := by
  have hname : (toString "max" ++ toString ".loop" : String) = "max.loop" := by decide
  have hSw : S ∉ wr := fun h => hSf (W.sub _ h)
  have kp1 : ∀ {h h' : Heap}, Kp h0 h → (∀ b o, b ∉ wr → h.get? b = some o → h'.get? b = some o) → Kp h0 h' := fun k hk b o e => hk b o (fun z => by rw [hw b z] at e; cases e) (k b o e)
  have kp2 : ∀ {h h' : Heap}, Kp h0 h → Heap.SameBut S h h' → Kp h0 h' := fun k hk b o e => (hk.2 b (fun z => by rw [z, hS0] at e; cases e)).trans (k b o e)
  intro r
  induction r with
  | zero =>
    intro j i h tk vb tb c hr hj k st hS hP hij hb
    have hin : j + 1 = n := by omega
    refine codeAny_builtin PySem.F.entry_max_loop ?_
    rw [Around.under_plainId PySem.F.plain_max_loop _]
    show wpAny _ A.in1 (seqItems? (.ref S) >>= _) _ _ _
    refine wpAny_bind (wpAny_seqItems hS rfl ?_)
    show wpAny _ A.in1 (tryCatch (pyNext (.ref I)) _ >>= _) _ _ _
    refine wpAny_bind (wpAny_tryCatch (W.done _ _ _ (by rw [← hin]; exact st) fun h' tk' hk' => ?_))
    have hS' := hk' S _ hSw hS
    have s1 := Heap.SameBut.update h' S (Obj.mapSeq fun _ => (#[] : Array Value))
    show wpAny _ A.in1 (updateSeq S (fun _ => #[]) >>= _) _ _ _
    refine wpAny_bind ?_
    refine wpAny_updateSeq hS' rfl (wpAny_bind (wpAny_letGo (wpAny_pure ?_)))
    exact hR i vb _ _ (by omega) hP (fun j' hj' => hb j' (by omega)) (kp2 (kp1 k hk') s1)
  | succ r ih =>
    intro j i h tk vb tb c hr hj k st hS hP hij hb
    have hlt : j + 1 < n := by omega
    refine codeAny_builtin PySem.F.entry_max_loop ?_
    rw [Around.under_plainId PySem.F.plain_max_loop _]
    show wpAny _ A.in1 (seqItems? (.ref S) >>= _) _ _ _
    refine wpAny_bind (wpAny_seqItems hS rfl ?_)
    show wpAny _ A.in1 (tryCatch (pyNext (.ref I)) _ >>= _) _ _ _
    refine wpAny_bind (wpAny_tryCatch (W.item (j + 1) _ _ _ hlt st fun v h' tk' hPv st' hk' => ?_))
    have k1 := kp1 k hk'
    have hS' := hk' S _ hSw hS
    show wpAny _ A.in1 (tryCatch (holding [v] (call (.builtin "len") [v])) _ >>= _) _ _ _
    refine wpAny_bind (wpAny_tryCatch (wpAny_holding (turn (j + 1) v h' tk' hPv k1 _ _ fun t2 tk2 => ?_)))
    show wpAny _ A.in1 (tryCatch (holding [v, .int (kf (j + 1)) t2] (richCompare .Gt (.int (kf (j + 1)) t2) (.int (kf i) tb) >>= _)) _ >>= _) _ _ _
    refine wpAny_bind (wpAny_tryCatch (wpAny_holding (wpAny_bind (CmpOf.ints_gt (prog := prog) (w := w) (A := A.in1) (P := fun i v => ∃ t, v = .int (kf i) t) kf (fun i v h => h) (j + 1) i _ _ _ _ _ ⟨t2, rfl⟩ ⟨tb, rfl⟩ ?_))))
    refine wpAny_bind (wpAny_holding (wpAny_truthy_bool ?_))
    refine wpAny_bind (wpAny_letGo (wpAny_pure ?_))
    by_cases hb' : kf (j + 1) > kf i
    · have s1 := Heap.SameBut.update h' S (Obj.mapSeq fun _ => #[v, .int (kf (j + 1)) t2])
      obtain ⟨c2, hc2⟩ : ∃ c2, (h'.update S (Obj.mapSeq fun _ => #[v, .int (kf (j + 1)) t2])).get? S = some (seqObj "list" #[v, .int (kf (j + 1)) t2] c2) := ⟨_, get?_update_seq hS' fun _ => #[v, .int (kf (j + 1)) t2]⟩
      simp only [hb', decide_true, if_true]
      refine wpAny_bind ?_
      refine wpAny_updateSeq hS' rfl (wpAny_bind (wpAny_letGo ?_))
      rw [hname]
      refine wpAny_pure ⟨plainId_quiet PySem.F.plain_max_loop _, ih (j + 1) (j + 1) _ _ v t2 c2 (by omega) hlt (kp2 k1 s1) (W.frame _ _ _ st' fun b hb o e => (s1.2 b (fun z => hSf (z ▸ hb))).trans e) hc2 hPv (Nat.le_refl _) fun j' hj' => ?_⟩
      by_cases e : j' = j + 1
      · subst e
        exact ⟨by omega, fun _ => by omega⟩
      · have hb1 := hb j' (by omega)
        have hb2 := hb1.1
        exact ⟨by omega, fun _ => by omega⟩
    · simp only [hb', decide_false, Bool.false_eq_true, if_false]
      refine wpAny_bind (wpAny_letGo ?_)
      rw [hname]
      refine wpAny_pure ⟨plainId_quiet PySem.F.plain_max_loop _, ih (j + 1) i _ _ vb tb c (by omega) hlt k1 st' hS' hP (by omega) fun j' hj' => ?_⟩
      by_cases e : j' = j + 1
      · subst e
        exact ⟨by omega, fun _ => by omega⟩
      · exact hb j' (by omega)
end
section
variable {prog : Program} {w : World} {A : Around} {h0 : Heap} {g0 : Array GenState} {d0 : Drawn} {o0 : OsState} {I S : Addr} {fp wr : List Addr} {n : Nat} {P : Nat → Value → Prop} {St : Nat → Heap → Prop} {R : Result → Shared → Prop} {kw : List (Str × Value)}
theorem maxLstart (kf : Nat → Int) (W : Walks prog w A.in1 I fp wr n P St) (hw : ∀ b ∈ wr, h0.get? b = none) (hS0 : h0.get? S = none) (hSf : S ∉ fp) (hn : 0 < n)
    (turn : ∀ i v h tk, P i v → Kp h0 h → ∀ (Q : Value → Shared → Prop) (E : Value → Shared → Prop), (∀ t tk', Q (.int (kf i) t) ⟨h, g0, d0, tk', o0⟩) → wpAny (model prog w) A.in1 (call (.builtin "len") [v]) Q E ⟨h, g0, d0, tk, o0⟩)
    (hR : ∀ i v h' tk', i < n → P i v → (∀ j, j < n → kf i ≥ kf j ∧ (j < i → kf i > kf j)) → Kp h0 h' → R (.ok (.ret v)) ⟨h', g0, d0, tk', o0⟩)
    (h : Heap) (tk c : Nat) (k : Kp h0 h) (st : St 0 h) (hS : h.get? S = some (seqObj "list" #[] c)) :
      codeAny (model prog w) A (.builtin "max.loop" ⟨[.ref I, .builtin "len", .ref S], kw⟩) R ⟨h, g0, d0, tk, o0⟩ := by
  have hname : (toString "max" ++ toString ".loop" : String) = "max.loop" := by decide
  have hSw : S ∉ wr := fun h => hSf (W.sub _ h)
  refine codeAny_builtin PySem.F.entry_max_loop ?_
  rw [Around.under_plainId PySem.F.plain_max_loop _]
  show wpAny _ A.in1 (seqItems? (.ref S) >>= _) _ _ _
  refine wpAny_bind (wpAny_seqItems hS rfl ?_)
  show wpAny _ A.in1 (tryCatch (pyNext (.ref I)) _ >>= _) _ _ _
  refine wpAny_bind (wpAny_tryCatch (W.item 0 _ _ _ hn st fun v h' tk' hPv st' hk' => ?_))
  have k1 : Kp h0 h' := fun b o e => hk' b o (fun z => by rw [hw b z] at e; cases e) (k b o e)
  have hS' := hk' S _ hSw hS
  show wpAny _ A.in1 (tryCatch (holding [v] (call (.builtin "len") [v])) _ >>= _) _ _ _
  refine wpAny_bind (wpAny_tryCatch (wpAny_holding (turn 0 v h' tk' hPv k1 _ _ fun t2 tk2 => ?_)))
  have s1 := Heap.SameBut.update h' S (Obj.mapSeq fun _ => #[v, .int (kf 0) t2])
  obtain ⟨c2, hc2⟩ : ∃ c2, (h'.update S (Obj.mapSeq fun _ => #[v, .int (kf 0) t2])).get? S = some (seqObj "list" #[v, .int (kf 0) t2] c2) := ⟨_, get?_update_seq hS' fun _ => #[v, .int (kf 0) t2]⟩
  show wpAny _ A.in1 (updateSeq S (fun _ => #[v, .int (kf 0) t2]) >>= _) _ _ _
  refine wpAny_bind ?_
  refine wpAny_updateSeq hS' rfl ?_
  rw [hname]
  refine wpAny_pure ⟨plainId_quiet PySem.F.plain_max_loop _, maxLloop kf W hw hS0 hSf turn hR _ 0 0 _ _ v t2 c2 rfl hn (fun b o e => (s1.2 b (fun z => by rw [z, hS0] at e; cases e)).trans (k1 b o e)) (W.frame _ _ _ st' fun b hb o e => (s1.2 b (fun z => hSf (z ▸ hb))).trans e) hc2 hPv (Nat.le_refl _) fun j' hj' => ?_⟩
  have e : j' = 0 := by omega
  subst e
  exact ⟨by omega, fun h => absurd h (Nat.lt_irrefl _)⟩
end
theorem maxLkey0 (a v : Value) : argsOk "max" ⟨[a], [(Str.ofString "key", v)]⟩ := by unfold argsOk; kernel_rfl
theorem maxLkey1 (a v d : Value) : argsOk "max" ⟨[a], [(Str.ofString "key", v), (Str.ofString "default", d)]⟩ := by unfold argsOk; kernel_rfl
section
variable {prog : Program} {w : World} {A : Around} {E : Value → Shared → Prop} {s : Shared} {vs : List Value} {a : Addr} {Q : Value → Shared → Prop} {kw : List (Str × Value)} {kd : Option Value}
theorem maxLlen (kf : Nat → Int) (hh : A.handled = none) (ht : s.heap.IsList a vs.toArray ∨ s.heap.IsTuple a vs.toArray) (hne : 0 < vs.length)
    (hk : kw = [] ∨ ∃ d, kw = [(Str.ofString "default", d)])
    (turn : ∀ (i : Nat) (v : Value), vs[i]? = some v → ∀ h tk, Kp s.heap h → ∀ (Q : Value → Shared → Prop) (E : Value → Shared → Prop), (∀ t tk', Q (.int (kf i) t) { s with heap := h, toks := tk' }) → wpAny (model prog w) A.in1 (call (.builtin "len") [v]) Q E { s with heap := h, toks := tk })
    (hQ : ∀ i v h' tk', vs[i]? = some v → (∀ j, j < vs.length → kf i ≥ kf j ∧ (j < i → kf i > kf j)) → Kp s.heap h' → Q v { s with heap := h', toks := tk' }) :
    wpAny (model prog w) A (call (.builtin "max") [.ref a] ((Str.ofString "key", .builtin "len") :: kw)) Q E s := by
  have hw2 : ∃ dv : Option Value, argsOk "max" ⟨[.ref a], (Str.ofString "key", .builtin "len") :: kw⟩ ∧ Builtin.Builtins.bindParams "max" ["key", "default"] 0 ⟨[], (Str.ofString "key", .builtin "len") :: kw⟩ = pure [some (.builtin "len"), dv] := by
    rcases hk with rfl | ⟨d, rfl⟩
    · exact ⟨none, maxLkey0 _ _, rfl⟩
    · exact ⟨some d, maxLkey1 _ _ _, rfl⟩
  obtain ⟨dv, ha, hb⟩ := hw2
  have hname : (toString "max" ++ toString ".loop" : String) = "max.loop" := by decide
  refine kmk_tree PySem.F.kind_max PySem.F.plain_max PySem.F.entry_max ha ?_
  show wpAny _ A.in1 (Builtin.Builtins.bindParams "max" ["key", "default"] 0 ⟨[], (Str.ofString "key", .builtin "len") :: kw⟩ >>= _) _ _ s
  refine wpAny_bind (wpAny_of_eq hb ?_)
  refine wpAny_bind (wpAny_pure ?_)
  have hsz : vs.toArray.size = vs.length := List.size_toArray ..
  rcases ht with hl | hl
  · refine wpAny_bind (wpAny_pyIter_list hl ?_)
    refine wpAny_bind (wpAny_newList ?_ (Nat.zero_le _))
    rw [hname]
    have hS : (s.heap.push { cls := .type "list_iterator", data := .fields #[.ref a, .int 0 0] }).objs.size = s.heap.objs.size + 1 := size_push' ..
    have hal : a < s.heap.objs.size := by
      obtain ⟨o, e, _⟩ := hl
      exact Heap.lt_size e
    refine wpAny_pure ⟨plainId_quiet PySem.F.plain_max_loop _, ?_⟩
    refine maxLstart (h0 := s.heap) kf (Walks.list (prog := prog) (w := w) (A := A.in1) hh s.heap.objs.size a (Nat.ne_of_lt hal) vs.toArray) (fun b hb => ?_) (Heap.get?_none_of_le (by rw [hS]; omega)) (fun z => by rw [hS] at z; exact (List.mem_cons.mp z).elim (fun z => Nat.succ_ne_self _ z) fun z => Nat.ne_of_gt (Nat.lt_succ_of_lt hal) (List.mem_singleton.mp z)) (by rw [hsz]; exact hne)
      (fun i v h tk hv k Q E hq => turn i v (by simpa using hv) h tk k Q E hq) (fun i v h' tk' hi hv hb k => hQ i v h' tk' (by simpa using hv) (fun j hj => hb j (by rw [hsz]; exact hj)) k) _ _ 0 (fun b o e => Heap.get?_push_of_some _ (Heap.get?_push_of_some _ e)) ⟨⟨_, Heap.get?_push_of_some _ (Heap.get?_push_size _ rfl), rfl, rfl⟩, (hl.push _).push _⟩ (Heap.get?_push_size _ rfl)
    rw [List.mem_singleton.mp hb]
    exact Heap.get?_none_of_le (Nat.le_refl _)
  · refine wpAny_bind (wpAny_pyIter_tuple hl ?_)
    refine wpAny_bind (wpAny_newList ?_ (Nat.zero_le _))
    rw [hname]
    have hS : (s.heap.push { cls := .type "tuple_iterator", data := .fields #[.ref a, .int 0 0] }).objs.size = s.heap.objs.size + 1 := size_push' ..
    have hal : a < s.heap.objs.size := by
      obtain ⟨o, e, _⟩ := hl
      exact Heap.lt_size e
    refine wpAny_pure ⟨plainId_quiet PySem.F.plain_max_loop _, ?_⟩
    refine maxLstart (h0 := s.heap) kf (Walks.tuple (prog := prog) (w := w) (A := A.in1) hh s.heap.objs.size a (Nat.ne_of_lt hal) vs.toArray) (fun b hb => ?_) (Heap.get?_none_of_le (by rw [hS]; omega)) (fun z => by rw [hS] at z; exact (List.mem_cons.mp z).elim (fun z => Nat.succ_ne_self _ z) fun z => Nat.ne_of_gt (Nat.lt_succ_of_lt hal) (List.mem_singleton.mp z)) (by rw [hsz]; exact hne)
      (fun i v h tk hv k Q E hq => turn i v (by simpa using hv) h tk k Q E hq) (fun i v h' tk' hi hv hb k => hQ i v h' tk' (by simpa using hv) (fun j hj => hb j (by rw [hsz]; exact hj)) k) _ _ 0 (fun b o e => Heap.get?_push_of_some _ (Heap.get?_push_of_some _ e)) ⟨⟨_, Heap.get?_push_of_some _ (Heap.get?_push_size _ rfl), rfl, rfl⟩, (hl.push _).push _⟩ (Heap.get?_push_size _ rfl)
    rw [List.mem_singleton.mp hb]
    exact Heap.get?_none_of_le (Nat.le_refl _)
end

section
variable {prog : Program} {w : World} {A : Around} {h0 : Heap} {g0 : Array GenState} {d0 : Drawn} {o0 : OsState} {I S : Addr} {fp wr : List Addr} {n : Nat} {P : Nat → Value → Prop} {St : Nat → Heap → Prop} {R : Result → Shared → Prop} {kw : List (Str × Value)}
theorem minLloop (kf : Nat → Int) (W : Walks prog w A.in1 I fp wr n P St) (hw : ∀ b ∈ wr, h0.get? b = none) (hS0 : h0.get? S = none) (hSf : S ∉ fp)
    (turn : ∀ i v h tk, P i v → Kp h0 h → ∀ (Q : Value → Shared → Prop) (E : Value → Shared → Prop), (∀ t tk', Q (.int (kf i) t) ⟨h, g0, d0, tk', o0⟩) → wpAny (model prog w) A.in1 (call (.builtin "len") [v]) Q E ⟨h, g0, d0, tk, o0⟩)
    (hR : ∀ i v h' tk', i < n → P i v → (∀ j, j < n → kf i ≤ kf j ∧ (j < i → kf i < kf j)) → Kp h0 h' → R (.ok (.ret v)) ⟨h', g0, d0, tk', o0⟩) :
    ∀ (r j i : Nat) (h : Heap) (tk : Nat) (vb : Value) (tb : Tok) (c : Nat), n - (j + 1) = r → j + 1 ≤ n → Kp h0 h → St (j + 1) h → h.get? S = some (seqObj "list" #[vb, .int (kf i) tb] c) →
      P i vb → i ≤ j → (∀ j', j' ≤ j → kf i ≤ kf j' ∧ (j' < i → kf i < kf j')) →
      codeAny (model prog w) A (.builtin "min.loop" ⟨[.ref I, .builtin "len", .ref S], kw⟩) R ⟨h, g0, d0, tk, o0⟩ := by
  have hname : (toString "min" ++ toString ".loop" : String) = "min.loop" := by decide
  have hSw : S ∉ wr := fun h => hSf (W.sub _ h)
  have kp1 : ∀ {h h' : Heap}, Kp h0 h → (∀ b o, b ∉ wr → h.get? b = some o → h'.get? b = some o) → Kp h0 h' := fun k hk b o e => hk b o (fun z => by rw [hw b z] at e; cases e) (k b o e)
  have kp2 : ∀ {h h' : Heap}, Kp h0 h → Heap.SameBut S h h' → Kp h0 h' := fun k hk b o e => (hk.2 b (fun z => by rw [z, hS0] at e; cases e)).trans (k b o e)
  intro r
  induction r with
  | zero =>
    intro j i h tk vb tb c hr hj k st hS hP hij hb
    have hin : j + 1 = n := by omega
    refine codeAny_builtin PySem.F.entry_min_loop ?_
    rw [Around.under_plainId PySem.F.plain_min_loop _]
    show wpAny _ A.in1 (seqItems? (.ref S) >>= _) _ _ _
    refine wpAny_bind (wpAny_seqItems hS rfl ?_)
    show wpAny _ A.in1 (tryCatch (pyNext (.ref I)) _ >>= _) _ _ _
    refine wpAny_bind (wpAny_tryCatch (W.done _ _ _ (by rw [← hin]; exact st) fun h' tk' hk' => ?_))
    have hS' := hk' S _ hSw hS
    have s1 := Heap.SameBut.update h' S (Obj.mapSeq fun _ => (#[] : Array Value))
    show wpAny _ A.in1 (updateSeq S (fun _ => #[]) >>= _) _ _ _
    refine wpAny_bind ?_
    refine wpAny_updateSeq hS' rfl (wpAny_bind (wpAny_letGo (wpAny_pure ?_)))
    exact hR i vb _ _ (by omega) hP (fun j' hj' => hb j' (by omega)) (kp2 (kp1 k hk') s1)
  | succ r ih =>
    intro j i h tk vb tb c hr hj k st hS hP hij hb
    have hlt : j + 1 < n := by omega
    refine codeAny_builtin PySem.F.entry_min_loop ?_
    rw [Around.under_plainId PySem.F.plain_min_loop _]
    show wpAny _ A.in1 (seqItems? (.ref S) >>= _) _ _ _
    refine wpAny_bind (wpAny_seqItems hS rfl ?_)
    show wpAny _ A.in1 (tryCatch (pyNext (.ref I)) _ >>= _) _ _ _
    refine wpAny_bind (wpAny_tryCatch (W.item (j + 1) _ _ _ hlt st fun v h' tk' hPv st' hk' => ?_))
    have k1 := kp1 k hk'
    have hS' := hk' S _ hSw hS
    show wpAny _ A.in1 (tryCatch (holding [v] (call (.builtin "len") [v])) _ >>= _) _ _ _
    refine wpAny_bind (wpAny_tryCatch (wpAny_holding (turn (j + 1) v h' tk' hPv k1 _ _ fun t2 tk2 => ?_)))
    show wpAny _ A.in1 (tryCatch (holding [v, .int (kf (j + 1)) t2] (richCompare .Lt (.int (kf (j + 1)) t2) (.int (kf i) tb) >>= _)) _ >>= _) _ _ _
    refine wpAny_bind (wpAny_tryCatch (wpAny_holding (wpAny_bind (CmpOf.ints_lt (prog := prog) (w := w) (A := A.in1) (P := fun i v => ∃ t, v = .int (kf i) t) kf (fun i v h => h) (j + 1) i _ _ _ _ _ ⟨t2, rfl⟩ ⟨tb, rfl⟩ ?_))))
    refine wpAny_bind (wpAny_holding (wpAny_truthy_bool ?_))
    refine wpAny_bind (wpAny_letGo (wpAny_pure ?_))
    by_cases hb' : kf (j + 1) < kf i
    · have s1 := Heap.SameBut.update h' S (Obj.mapSeq fun _ => #[v, .int (kf (j + 1)) t2])
      obtain ⟨c2, hc2⟩ : ∃ c2, (h'.update S (Obj.mapSeq fun _ => #[v, .int (kf (j + 1)) t2])).get? S = some (seqObj "list" #[v, .int (kf (j + 1)) t2] c2) := ⟨_, get?_update_seq hS' fun _ => #[v, .int (kf (j + 1)) t2]⟩
      simp only [hb', decide_true, if_true]
      refine wpAny_bind ?_
      refine wpAny_updateSeq hS' rfl (wpAny_bind (wpAny_letGo ?_))
      rw [hname]
      refine wpAny_pure ⟨plainId_quiet PySem.F.plain_min_loop _, ih (j + 1) (j + 1) _ _ v t2 c2 (by omega) hlt (kp2 k1 s1) (W.frame _ _ _ st' fun b hb o e => (s1.2 b (fun z => hSf (z ▸ hb))).trans e) hc2 hPv (Nat.le_refl _) fun j' hj' => ?_⟩
      by_cases e : j' = j + 1
      · subst e
        exact ⟨by omega, fun _ => by omega⟩
      · have hb1 := hb j' (by omega)
        have hb2 := hb1.1
        exact ⟨by omega, fun _ => by omega⟩
    · simp only [hb', decide_false, Bool.false_eq_true, if_false]
      refine wpAny_bind (wpAny_letGo ?_)
      rw [hname]
      refine wpAny_pure ⟨plainId_quiet PySem.F.plain_min_loop _, ih (j + 1) i _ _ vb tb c (by omega) hlt k1 st' hS' hP (by omega) fun j' hj' => ?_⟩
      by_cases e : j' = j + 1
      · subst e
        exact ⟨by omega, fun _ => by omega⟩
      · exact hb j' (by omega)
end
section
variable {prog : Program} {w : World} {A : Around} {h0 : Heap} {g0 : Array GenState} {d0 : Drawn} {o0 : OsState} {I S : Addr} {fp wr : List Addr} {n : Nat} {P : Nat → Value → Prop} {St : Nat → Heap → Prop} {R : Result → Shared → Prop} {kw : List (Str × Value)}
theorem minLstart (kf : Nat → Int) (W : Walks prog w A.in1 I fp wr n P St) (hw : ∀ b ∈ wr, h0.get? b = none) (hS0 : h0.get? S = none) (hSf : S ∉ fp) (hn : 0 < n)
    (turn : ∀ i v h tk, P i v → Kp h0 h → ∀ (Q : Value → Shared → Prop) (E : Value → Shared → Prop), (∀ t tk', Q (.int (kf i) t) ⟨h, g0, d0, tk', o0⟩) → wpAny (model prog w) A.in1 (call (.builtin "len") [v]) Q E ⟨h, g0, d0, tk, o0⟩)
    (hR : ∀ i v h' tk', i < n → P i v → (∀ j, j < n → kf i ≤ kf j ∧ (j < i → kf i < kf j)) → Kp h0 h' → R (.ok (.ret v)) ⟨h', g0, d0, tk', o0⟩)
    (h : Heap) (tk c : Nat) (k : Kp h0 h) (st : St 0 h) (hS : h.get? S = some (seqObj "list" #[] c)) :
      codeAny (model prog w) A (.builtin "min.loop" ⟨[.ref I, .builtin "len", .ref S], kw⟩) R ⟨h, g0, d0, tk, o0⟩ := by
  have hname : (toString "min" ++ toString ".loop" : String) = "min.loop" := by decide
  have hSw : S ∉ wr := fun h => hSf (W.sub _ h)
  refine codeAny_builtin PySem.F.entry_min_loop ?_
  rw [Around.under_plainId PySem.F.plain_min_loop _]
  show wpAny _ A.in1 (seqItems? (.ref S) >>= _) _ _ _
  refine wpAny_bind (wpAny_seqItems hS rfl ?_)
  show wpAny _ A.in1 (tryCatch (pyNext (.ref I)) _ >>= _) _ _ _
  refine wpAny_bind (wpAny_tryCatch (W.item 0 _ _ _ hn st fun v h' tk' hPv st' hk' => ?_))
  have k1 : Kp h0 h' := fun b o e => hk' b o (fun z => by rw [hw b z] at e; cases e) (k b o e)
  have hS' := hk' S _ hSw hS
  show wpAny _ A.in1 (tryCatch (holding [v] (call (.builtin "len") [v])) _ >>= _) _ _ _
  refine wpAny_bind (wpAny_tryCatch (wpAny_holding (turn 0 v h' tk' hPv k1 _ _ fun t2 tk2 => ?_)))
  have s1 := Heap.SameBut.update h' S (Obj.mapSeq fun _ => #[v, .int (kf 0) t2])
  obtain ⟨c2, hc2⟩ : ∃ c2, (h'.update S (Obj.mapSeq fun _ => #[v, .int (kf 0) t2])).get? S = some (seqObj "list" #[v, .int (kf 0) t2] c2) := ⟨_, get?_update_seq hS' fun _ => #[v, .int (kf 0) t2]⟩
  show wpAny _ A.in1 (updateSeq S (fun _ => #[v, .int (kf 0) t2]) >>= _) _ _ _
  refine wpAny_bind ?_
  refine wpAny_updateSeq hS' rfl ?_
  rw [hname]
  refine wpAny_pure ⟨plainId_quiet PySem.F.plain_min_loop _, minLloop kf W hw hS0 hSf turn hR _ 0 0 _ _ v t2 c2 rfl hn (fun b o e => (s1.2 b (fun z => by rw [z, hS0] at e; cases e)).trans (k1 b o e)) (W.frame _ _ _ st' fun b hb o e => (s1.2 b (fun z => hSf (z ▸ hb))).trans e) hc2 hPv (Nat.le_refl _) fun j' hj' => ?_⟩
  have e : j' = 0 := by omega
  subst e
  exact ⟨by omega, fun h => absurd h (Nat.lt_irrefl _)⟩
end
theorem minLkey0 (a v : Value) : argsOk "min" ⟨[a], [(Str.ofString "key", v)]⟩ := by unfold argsOk; kernel_rfl
theorem minLkey1 (a v d : Value) : argsOk "min" ⟨[a], [(Str.ofString "key", v), (Str.ofString "default", d)]⟩ := by unfold argsOk; kernel_rfl
section
variable {prog : Program} {w : World} {A : Around} {E : Value → Shared → Prop} {s : Shared} {vs : List Value} {a : Addr} {Q : Value → Shared → Prop} {kw : List (Str × Value)} {kd : Option Value}
theorem minLlen (kf : Nat → Int) (hh : A.handled = none) (ht : s.heap.IsList a vs.toArray ∨ s.heap.IsTuple a vs.toArray) (hne : 0 < vs.length)
    (hk : kw = [] ∨ ∃ d, kw = [(Str.ofString "default", d)])
    (turn : ∀ (i : Nat) (v : Value), vs[i]? = some v → ∀ h tk, Kp s.heap h → ∀ (Q : Value → Shared → Prop) (E : Value → Shared → Prop), (∀ t tk', Q (.int (kf i) t) { s with heap := h, toks := tk' }) → wpAny (model prog w) A.in1 (call (.builtin "len") [v]) Q E { s with heap := h, toks := tk })
    (hQ : ∀ i v h' tk', vs[i]? = some v → (∀ j, j < vs.length → kf i ≤ kf j ∧ (j < i → kf i < kf j)) → Kp s.heap h' → Q v { s with heap := h', toks := tk' }) :
    wpAny (model prog w) A (call (.builtin "min") [.ref a] ((Str.ofString "key", .builtin "len") :: kw)) Q E s := by
  have hw2 : ∃ dv : Option Value, argsOk "min" ⟨[.ref a], (Str.ofString "key", .builtin "len") :: kw⟩ ∧ Builtin.Builtins.bindParams "min" ["key", "default"] 0 ⟨[], (Str.ofString "key", .builtin "len") :: kw⟩ = pure [some (.builtin "len"), dv] := by
    rcases hk with rfl | ⟨d, rfl⟩
    · exact ⟨none, minLkey0 _ _, rfl⟩
    · exact ⟨some d, minLkey1 _ _ _, rfl⟩
  obtain ⟨dv, ha, hb⟩ := hw2
  have hname : (toString "min" ++ toString ".loop" : String) = "min.loop" := by decide
  refine kmk_tree PySem.F.kind_min PySem.F.plain_min PySem.F.entry_min ha ?_
  show wpAny _ A.in1 (Builtin.Builtins.bindParams "min" ["key", "default"] 0 ⟨[], (Str.ofString "key", .builtin "len") :: kw⟩ >>= _) _ _ s
  refine wpAny_bind (wpAny_of_eq hb ?_)
  refine wpAny_bind (wpAny_pure ?_)
  have hsz : vs.toArray.size = vs.length := List.size_toArray ..
  rcases ht with hl | hl
  · refine wpAny_bind (wpAny_pyIter_list hl ?_)
    refine wpAny_bind (wpAny_newList ?_ (Nat.zero_le _))
    rw [hname]
    have hS : (s.heap.push { cls := .type "list_iterator", data := .fields #[.ref a, .int 0 0] }).objs.size = s.heap.objs.size + 1 := size_push' ..
    have hal : a < s.heap.objs.size := by
      obtain ⟨o, e, _⟩ := hl
      exact Heap.lt_size e
    refine wpAny_pure ⟨plainId_quiet PySem.F.plain_min_loop _, ?_⟩
    refine minLstart (h0 := s.heap) kf (Walks.list (prog := prog) (w := w) (A := A.in1) hh s.heap.objs.size a (Nat.ne_of_lt hal) vs.toArray) (fun b hb => ?_) (Heap.get?_none_of_le (by rw [hS]; omega)) (fun z => by rw [hS] at z; exact (List.mem_cons.mp z).elim (fun z => Nat.succ_ne_self _ z) fun z => Nat.ne_of_gt (Nat.lt_succ_of_lt hal) (List.mem_singleton.mp z)) (by rw [hsz]; exact hne)
      (fun i v h tk hv k Q E hq => turn i v (by simpa using hv) h tk k Q E hq) (fun i v h' tk' hi hv hb k => hQ i v h' tk' (by simpa using hv) (fun j hj => hb j (by rw [hsz]; exact hj)) k) _ _ 0 (fun b o e => Heap.get?_push_of_some _ (Heap.get?_push_of_some _ e)) ⟨⟨_, Heap.get?_push_of_some _ (Heap.get?_push_size _ rfl), rfl, rfl⟩, (hl.push _).push _⟩ (Heap.get?_push_size _ rfl)
    rw [List.mem_singleton.mp hb]
    exact Heap.get?_none_of_le (Nat.le_refl _)
  · refine wpAny_bind (wpAny_pyIter_tuple hl ?_)
    refine wpAny_bind (wpAny_newList ?_ (Nat.zero_le _))
    rw [hname]
    have hS : (s.heap.push { cls := .type "tuple_iterator", data := .fields #[.ref a, .int 0 0] }).objs.size = s.heap.objs.size + 1 := size_push' ..
    have hal : a < s.heap.objs.size := by
      obtain ⟨o, e, _⟩ := hl
      exact Heap.lt_size e
    refine wpAny_pure ⟨plainId_quiet PySem.F.plain_min_loop _, ?_⟩
    refine minLstart (h0 := s.heap) kf (Walks.tuple (prog := prog) (w := w) (A := A.in1) hh s.heap.objs.size a (Nat.ne_of_lt hal) vs.toArray) (fun b hb => ?_) (Heap.get?_none_of_le (by rw [hS]; omega)) (fun z => by rw [hS] at z; exact (List.mem_cons.mp z).elim (fun z => Nat.succ_ne_self _ z) fun z => Nat.ne_of_gt (Nat.lt_succ_of_lt hal) (List.mem_singleton.mp z)) (by rw [hsz]; exact hne)
      (fun i v h tk hv k Q E hq => turn i v (by simpa using hv) h tk k Q E hq) (fun i v h' tk' hi hv hb k => hQ i v h' tk' (by simpa using hv) (fun j hj => hb j (by rw [hsz]; exact hj)) k) _ _ 0 (fun b o e => Heap.get?_push_of_some _ (Heap.get?_push_of_some _ e)) ⟨⟨_, Heap.get?_push_of_some _ (Heap.get?_push_size _ rfl), rfl, rfl⟩, (hl.push _).push _⟩ (Heap.get?_push_size _ rfl)
    rw [List.mem_singleton.mp hb]
    exact Heap.get?_none_of_le (Nat.le_refl _)
end

/-! ### keywords that are fixed -/
structure PKV (X : Cx) (kws : List Keyword) (ws : List Value) : Prop where
  run : ∀ (pos : Pos) (pins : List (Addr × Obj)) (s : Shared) (σ : St) (H : Hp) (Q : List Value → Shared → Prop) (E : Value → Shared → Prop), Inv X pins σ H s → Q ws s → wpAny (model X.prog X.w) X.A (evalAll ((backToKw pos (keywordEach kws X.env)).map (·.2))) Q E s
section
variable {X : Cx} {nm : Option Str} {kpos p : Pos} {kws : List Keyword} {ws : List Value} {j : Nat}
theorem pkv_nil : PKV X [] [] := ⟨fun _ _ _ _ _ Q E I h => wpAny_evalAll_nil h⟩
theorem pkv_bi {x : Str} {id : String} (hm : X.mg x = none) (hr : PKV X kws ws) (hg : Gl X x := by rfl) (hv : bootBuiltins x = some (.builtin id) := by decide +kernel) (hn : x ≠ "__name__" := by decide) (hdb : (x == ("__debug__" : Str)) = false := by decide) : PKV X (⟨nm, .Name x p, kpos⟩ :: kws) (.builtin id :: ws) := by
  refine ⟨fun pos pins s σ H Q E I h => ?_⟩
  show wpAny _ _ (evalAll ((do let v ← eval (.Name x p) X.env; standAt pos; pure v) :: (backToKw pos (keywordEach kws X.env)).map (·.2))) _ _ s
  exact wpAny_evalAll_cons (wpAny_bind (ld_blt I hg hm hv (wpAny_bind (wpAny_standAt (wpAny_pure (hr.run pos pins s σ H _ E I h)))) hn hdb))
theorem pkv_bl {b : Bool} (hr : PKV X kws ws) : PKV X (⟨nm, .Constant (.bool b) j p, kpos⟩ :: kws) (.bool b :: ws) := by
  refine ⟨fun pos pins s σ H Q E I h => ?_⟩
  show wpAny _ _ (evalAll ((do let v ← eval (.Constant (.bool b) j p) X.env; standAt pos; pure v) :: (backToKw pos (keywordEach kws X.env)).map (·.2))) _ _ s
  exact wpAny_evalAll_cons (wpAny_bind (Constant_bool (wpAny_bind (wpAny_standAt (wpAny_pure (hr.run pos pins s σ H _ E I h))))))
theorem pkv_non (hr : PKV X kws ws) : PKV X (⟨nm, .Constant .none j p, kpos⟩ :: kws) (.none :: ws) := by
  refine ⟨fun pos pins s σ H Q E I h => ?_⟩
  show wpAny _ _ (evalAll ((do let v ← eval (.Constant .none j p) X.env; standAt pos; pure v) :: (backToKw pos (keywordEach kws X.env)).map (·.2))) _ _ s
  exact wpAny_evalAll_cons (wpAny_bind (Constant_none (wpAny_bind (wpAny_standAt (wpAny_pure (hr.run pos pins s σ H _ E I h))))))
end
/-- a built-in called with fixed keywords -/
def CallRV (X : Cx) (f : Value) (kw : List (Str × Value)) (r : List V → Hp → VK → Prop) : Prop :=
  ∀ (pins : List (Addr × Obj)) (s : Shared) (σ : St) (H : Hp) (xs : List V) (us : List Value) (Q : VK), Inv X pins σ H s → Vals xs us → r xs H Q → wpAny (model X.prog X.w) X.A (call f us kw) (EP X pins σ Q) X.xe s
section
variable {X : Cx} {b : Bx} {k : Nat} {x : Str} {p pos : Pos} {e : Expr} {es : List Expr} {kws : List Keyword} {ks : List Str} {ws : List Value} {t : TA} {id : String} {r : List V → Hp → VK → Prop} {fs : List (M RD)} {op : List PyData → Option RD}
theorem pe_callBV (hc : CallRV X (.builtin id) (ks.zip ws) r) (hg : Gl X x) (hm : X.mg x = none) (hv : bootBuiltins x = some (.builtin id)) (ha : PA X (e :: es) t) (hk : PKV X kws ws) (hn : x ≠ "__name__" := by decide) (hdb : (x == ("__debug__" : Str)) = false := by decide)
    (he : backTo pos (starEach (e :: es) X.env) = (false, eval e X.env) :: backTo pos (starEach es X.env) := by rfl) (hpl : (backTo pos (starEach (e :: es) X.env)).any (·.1) = false := by rfl)
    (hall : (backToKw pos (keywordEach kws X.env)).all (·.1.isSome) = true := by rfl) (hnone : (backToKw pos (keywordEach kws X.env)).any (·.1.isNone) = false := by rfl) (hks : (backToKw pos (keywordEach kws X.env)).filterMap (·.1) = ks := by rfl) :
    PE X (.Call (.Name x p) (e :: es) kws pos) (tCB r t) := by
  refine ⟨fun pins s σ H Q I h => ?_⟩
  refine wpAny_Call_Name_kw (ld_blt I hg hm hv ?_ hn hdb)
  refine PyProof.Rows.callWith_kw (thn (ha.run pos pins s σ H _ I h) fun us s1 ⟨vs, H1, I1, r1, q1⟩ => hk.run pos pins s1 σ H1 _ _ I1 ?_) he hpl hall hnone
  rw [hks]
  exact hc pins s1 σ H1 vs us Q I1 r1 q1
theorem pv_callBV (hc : CallRV X (.builtin id) (ks.zip ws) r) (hd : CalD X.K r op) (g : Gx X b k) (hm : X.mg x = none) (ha : PAv X b fs (e :: es)) (hk : PKV X kws ws) (hg : Gl X x := by rfl) (hv : bootBuiltins x = some (.builtin id) := by decide +kernel) (hn : x ≠ "__name__" := by decide) (hdb : (x == ("__debug__" : Str)) = false := by decide)
    (he : backTo pos (starEach (e :: es) X.env) = (false, eval e X.env) :: backTo pos (starEach es X.env) := by rfl) (hpl : (backTo pos (starEach (e :: es) X.env)).any (·.1) = false := by rfl)
    (hall : (backToKw pos (keywordEach kws X.env)).all (·.1.isSome) = true := by rfl) (hnone : (backToKw pos (keywordEach kws X.env)).any (·.1.isNone) = false := by rfl) (hks : (backToKw pos (keywordEach kws X.env)).filterMap (·.1) = ks := by rfl) :
    PV X b (fCall op fs) (.Call (.Name x p) (e :: es) kws pos) := PE.imp (pe_callBV hc hg hm hv ha hk hn hdb he hpl hall hnone hks) fun _ _ _ h => tCB_of hd g.kk h
end
/-! ### the greatest and the least by how long they are -/
def lenK : PyData → Option Int
  | .str x => if x.length ≤ lim then some x.length else none
  | .list xs => some xs.length
  | .tuple xs => some xs.length
  | _ => none
def lensK : List PyData → Option (List Int)
  | [] => some []
  | d :: ds => match lenK d, lensK ds with
    | some n, some ns => some (n :: ns)
    | _, _ => none
def firstMx (ns : List Int) : Nat := ns.findIdx fun k => ns.all fun j => decide (j ≤ k)
def firstMn (ns : List Int) : Nat := ns.findIdx fun k => ns.all fun j => decide (k ≤ j)
def itemsD : PyData → Option (List PyData)
  | .list xs => some xs
  | .tuple xs => some xs
  | _ => none
def byLenD (pick : List Int → Nat) : List PyData → Option RD
  | [d] => match itemsD d with
    | some xs => match lensK xs with
      | some ns => (xs[pick ns]?).map .val
      | none => none
    | none => none
  | _ => none
abbrev maxLD : List PyData → Option RD := byLenD firstMx
abbrev minLD : List PyData → Option RD := byLenD firstMn
theorem lensK_get : ∀ {ds : List PyData} {ns : List Int}, lensK ds = some ns → ds.length = ns.length ∧ ∀ (i : Nat) (d : PyData), ds[i]? = some d → ∃ n, ns[i]? = some n ∧ lenK d = some n
  | [], ns, h => by
    cases h
    exact ⟨rfl, fun i d e => by simp at e⟩
  | d :: ds, ns, h => by
    unfold lensK at h
    split at h
    · rename_i n ns' h1 h2
      cases h
      obtain ⟨g1, g2⟩ := lensK_get h2
      refine ⟨by simp [g1], fun i x e => ?_⟩
      cases i with
      | zero => simp at e; subst e; exact ⟨n, by simp, h1⟩
      | succ i => simpa using g2 i x (by simpa using e)
    · cases h
theorem firstMx_eq {ns : List Int} {i : Nat} (hi : i < ns.length) (h : ∀ j, j < ns.length → ns.getD i 0 ≥ ns.getD j 0 ∧ (j < i → ns.getD i 0 > ns.getD j 0)) : firstMx ns = i := by
  unfold firstMx
  rw [List.findIdx_eq hi]
  have gd : ∀ j (hj : j < ns.length), ns[j] = ns.getD j 0 := fun j hj => by simp [List.getD, hj]
  refine ⟨?_, fun j hj => ?_⟩
  · simp only [List.all_eq_true, decide_eq_true_eq]
    intro y hy
    obtain ⟨m, hm, rfl⟩ := List.mem_iff_getElem.mp hy
    rw [gd m hm, gd i hi]
    exact (h m hm).1
  · rw [Bool.eq_false_iff]
    intro q
    simp only [List.all_eq_true, decide_eq_true_eq] at q
    have h2 := q ns[i] (List.getElem_mem hi)
    have h3 := (h j (by omega)).2 hj
    rw [← gd i hi, ← gd j (by omega)] at h3
    omega
theorem firstMn_eq {ns : List Int} {i : Nat} (hi : i < ns.length) (h : ∀ j, j < ns.length → ns.getD i 0 ≤ ns.getD j 0 ∧ (j < i → ns.getD i 0 < ns.getD j 0)) : firstMn ns = i := by
  unfold firstMn
  rw [List.findIdx_eq hi]
  have gd : ∀ j (hj : j < ns.length), ns[j] = ns.getD j 0 := fun j hj => by simp [List.getD, hj]
  refine ⟨?_, fun j hj => ?_⟩
  · simp only [List.all_eq_true, decide_eq_true_eq]
    intro y hy
    obtain ⟨m, hm, rfl⟩ := List.mem_iff_getElem.mp hy
    rw [gd m hm, gd i hi]
    exact (h m hm).1
  · rw [Bool.eq_false_iff]
    intro q
    simp only [List.all_eq_true, decide_eq_true_eq] at q
    have h2 := q ns[i] (List.getElem_mem hi)
    have h3 := (h j (by omega)).2 hj
    rw [← gd i hi, ← gd j (by omega)] at h3
    omega
theorem valAt : ∀ {vs : List V} {us : List Value} {i : Nat} {u : Value}, Vals vs us → us[i]? = some u → ∃ v, vs[i]? = some v ∧ RelV v u
  | _, _, _, _, .nil, e => by simp at e
  | _, _, 0, _, .cons r _, e => by simp at e; subst e; exact ⟨_, rfl, r⟩
  | _, _, i + 1, u, .cons _ t, e => by
    obtain ⟨v, h1, h2⟩ := valAt (i := i) (u := u) t (by simpa using e)
    exact ⟨v, by simpa using h1, h2⟩
/-- a value whose length is n -/
def LenAt (h : Heap) (v : Value) (n : Int) : Prop :=
  (∃ x t, v = .str x t ∧ n = x.length ∧ x.length ≤ sizeLine) ∨ (∃ p items, v = .ref p ∧ h.IsList p items ∧ n = items.size ∧ items.size ≤ sizeLine) ∨ ∃ p items, v = .ref p ∧ h.IsTuple p items ∧ n = items.size ∧ items.size ≤ sizeLine
theorem LenAt.kp {h h' : Heap} {v : Value} {n : Int} (k : Kp h h') : LenAt h v n → LenAt h' v n
  | .inl x => .inl x
  | .inr (.inl ⟨p, items, e, l, z⟩) => .inr (.inl ⟨p, items, e, l.at fun o e => k p o e, z⟩)
  | .inr (.inr ⟨p, items, e, l, z⟩) => .inr (.inr ⟨p, items, e, l.at fun o e => k p o e, z⟩)
theorem LenAt.call {prog : Program} {w : World} {A : Around} {s : Shared} {v : Value} {n : Int} {Q : Value → Shared → Prop} {E : Value → Shared → Prop} (l : LenAt s.heap v n) (h : ∀ t tk, Q (.int n t) { s with toks := tk }) : wpAny (model prog w) A (call (.builtin "len") [v]) Q E s := by
  have hn := line63
  rcases l with ⟨x, t, rfl, rfl, z⟩ | ⟨p, items, rfl, l, rfl, z⟩ | ⟨p, items, rfl, l, rfl, z⟩
  · exact len_str (by omega) (h _ _)
  · exact Calls.call_len_list l (by omega) (h _ _)
  · exact len_tuple l (by omega) (h _ _)
/-- what max or min by len is asked -/
abbrev rByLen (K : PySem.W.Frag) (pick : List Int → Nat) : List V → Hp → VK → Prop := fun xs H Q => ∃ (a : Addr) (vs : List V) (ns : List Int) (v : V), xs = [.ref a] ∧ (SqL K H a vs ∨ SqT K H a vs) ∧ vs.length = ns.length ∧ (∀ (i : Nat) (v : V), vs[i]? = some v → ∃ n : Nat, ns[i]? = some (n : Int) ∧ LenV K v H n ∧ ∀ y, v ≠ .byt y) ∧ vs[pick ns]? = some v ∧ Q v H
section
variable {X : Cx}
theorem lenAt_of {pins : List (Addr × Obj)} {σ : St} {H : Hp} {s : Shared} {v : V} {u : Value} {n : Nat} (I : Inv X pins σ H s) (r : RelV v u) (l : LenV X.K v H n) (nb : ∀ y, v ≠ .byt y) : LenAt s.heap u n := by
  cases v with
  | str y =>
    obtain ⟨t, rfl⟩ := r
    obtain ⟨z, rfl⟩ := l
    exact .inl ⟨y, t, rfl, rfl, z⟩
  | byt y => exact absurd rfl (nb y)
  | ref p =>
    cases r
    rcases l with ⟨xs, h, rfl⟩ | ⟨xs, h, rfl⟩
    · obtain ⟨its, r, pl, z⟩ := I.list h
      have := r.length
      exact .inr (.inl ⟨p, _, rfl, pl.isList, by rw [List.size_toArray, this], by rw [List.size_toArray]; omega⟩)
    · obtain ⟨its, r, pl, z⟩ := I.tuple h
      have := r.length
      exact .inr (.inr ⟨p, _, rfl, pl, by rw [List.size_toArray, this], by rw [List.size_toArray]; omega⟩)
  | _ => exact False.elim l

theorem call_maxL (hc : X.calm = true) {kw : List (Str × Value)} (hk : kw = [] ∨ ∃ d, kw = [(Str.ofString "default", d)]) : CallRV X (.builtin "max") ((Str.ofString "key", .builtin "len") :: kw) (rByLen X.K firstMx) := by
  intro pins s σ H xs us Q I r h
  obtain ⟨a, vs, ns, v, rfl, hq, hl, hn, hp, q⟩ := h
  obtain ⟨u, rfl, rx⟩ := vals1 r
  cases rx
  have main : ∀ its : List Value, Vals vs its → (s.heap.IsList a its.toArray ∨ s.heap.IsTuple a its.toArray) → wpAny (model X.prog X.w) X.A (call (.builtin "max") [.ref a] ((Str.ofString "key", .builtin "len") :: kw)) (EP X pins σ Q) X.xe s := fun its rv ht => by
    have hlen := rv.length
    have hp0 : firstMx ns < vs.length := by
      rcases Nat.lt_or_ge (firstMx ns) vs.length with z | z
      · exact z
      · rw [List.getElem?_eq_none z] at hp; cases hp
    refine maxLlen (fun i => ns.getD i 0) (I.ok.hd hc) ht (by omega) hk (fun i u hu h tk k Q E hq => ?_) fun i u h' tk' hu hb k => ?_
    · obtain ⟨v, hv, rv'⟩ := valAt rv hu
      obtain ⟨n, h1, h2, h3⟩ := hn i v hv
      have e : ns.getD i 0 = (n : Int) := by rw [List.getD, h1]; rfl
      refine LenAt.call (n := ns.getD i 0) (by rw [e]; exact (lenAt_of I rv' h2 h3).kp k) hq
    · obtain ⟨v', hv, rv'⟩ := valAt rv hu
      have hi : i < ns.length := by
        rw [← hl]
        exact (List.getElem?_eq_some_iff.mp hv).1
      have e := firstMx_eq hi fun j hj => hb j (by omega)
      rw [e, hv] at hp
      cases hp
      exact ⟨v, H, I.kept k, rv', q⟩
  rcases hq with hq | hq
  · obtain ⟨its, rv, pl, z⟩ := I.list hq
    exact main its rv (.inl pl.isList)
  · obtain ⟨its, rv, pl, z⟩ := I.tuple hq
    exact main its rv (.inr pl)

theorem call_minL (hc : X.calm = true) {kw : List (Str × Value)} (hk : kw = [] ∨ ∃ d, kw = [(Str.ofString "default", d)]) : CallRV X (.builtin "min") ((Str.ofString "key", .builtin "len") :: kw) (rByLen X.K firstMn) := by
  intro pins s σ H xs us Q I r h
  obtain ⟨a, vs, ns, v, rfl, hq, hl, hn, hp, q⟩ := h
  obtain ⟨u, rfl, rx⟩ := vals1 r
  cases rx
  have main : ∀ its : List Value, Vals vs its → (s.heap.IsList a its.toArray ∨ s.heap.IsTuple a its.toArray) → wpAny (model X.prog X.w) X.A (call (.builtin "min") [.ref a] ((Str.ofString "key", .builtin "len") :: kw)) (EP X pins σ Q) X.xe s := fun its rv ht => by
    have hlen := rv.length
    have hp0 : firstMn ns < vs.length := by
      rcases Nat.lt_or_ge (firstMn ns) vs.length with z | z
      · exact z
      · rw [List.getElem?_eq_none z] at hp; cases hp
    refine minLlen (fun i => ns.getD i 0) (I.ok.hd hc) ht (by omega) hk (fun i u hu h tk k Q E hq => ?_) fun i u h' tk' hu hb k => ?_
    · obtain ⟨v, hv, rv'⟩ := valAt rv hu
      obtain ⟨n, h1, h2, h3⟩ := hn i v hv
      have e : ns.getD i 0 = (n : Int) := by rw [List.getD, h1]; rfl
      refine LenAt.call (n := ns.getD i 0) (by rw [e]; exact (lenAt_of I rv' h2 h3).kp k) hq
    · obtain ⟨v', hv, rv'⟩ := valAt rv hu
      have hi : i < ns.length := by
        rw [← hl]
        exact (List.getElem?_eq_some_iff.mp hv).1
      have e := firstMn_eq hi fun j hj => hb j (by omega)
      rw [e, hv] at hp
      cases hp
      exact ⟨v, H, I.kept k, rv', q⟩
  rcases hq with hq | hq
  · obtain ⟨its, rv, pl, z⟩ := I.list hq
    exact main its rv (.inl pl.isList)
  · obtain ⟨its, rv, pl, z⟩ := I.tuple hq
    exact main its rv (.inr pl)

end
section
variable {K : PySem.W.Frag}
theorem rep_len {F H : Hp} {v : V} {d : PyData} {n : Int} (ex : Ex F H) (r : Rep K F v d) (h : lenK d = some n) : ∃ m : Nat, n = (m : Int) ∧ LenV K v H m ∧ ∀ y, v ≠ .byt y := by
  unfold lenK at h
  split at h
  · split at h
    · rename_i hl
      cases h
      rw [(Rv.val (H := H) r).str]
      exact ⟨_, rfl, ⟨lim_le hl, rfl⟩, fun y e => nomatch e⟩
    · cases h
  · cases h
    obtain ⟨p, ws, rfl, h1, r1⟩ := (Rv.val (H := H) r).lst ex
    exact ⟨_, rfl, .inl ⟨ws, sql h1, by rw [r1.length]⟩, fun y e => nomatch e⟩
  · cases h
    obtain ⟨p, ws, od, rfl, h1, r1, _⟩ := (Rv.val (H := H) r).tup
    exact ⟨_, rfl, .inr ⟨ws, sqh (ex.h h1), by rw [r1.length]⟩, fun y e => nomatch e⟩
  · cases h
theorem cald_byLen {pick : List Int → Nat} : CalD K (rByLen K pick) (byLenD pick) := fun F H vs ds res Q ex rv e wd => by
  unfold byLenD at e
  split at e
  · rename_i d
    split at e
    · rename_i xs hx
      split at e
      · rename_i ns hn
        obtain ⟨y, hy, rfl⟩ := Option.map_eq_some_iff.mp e
        cases rv with
        | cons a t =>
          cases t
          obtain ⟨hl, hg⟩ := lensK_get hn
          have fin : ∀ p ws, Reps K F ws xs → (SqL K H p ws ∨ SqT K H p ws) → rByLen K pick [.ref p] H Q := fun p ws r1 hs => by
            obtain ⟨w, hw, rw'⟩ := r1.get hy
            refine ⟨p, ws, ns, w, rfl, hs, by rw [r1.length, hl], fun i v hv => ?_, hw, wd_val wd rw'⟩
            obtain ⟨d, hd, rd⟩ := r1.get' hv
            obtain ⟨n, h1, h2⟩ := hg i d hd
            obtain ⟨m, rfl, h3, h4⟩ := rep_len ex rd h2
            exact ⟨m, h1, h3, h4⟩
          unfold itemsD at hx
          split at hx
          · cases hx
            obtain ⟨p, ws, rfl, h1, r1⟩ := a.lst ex
            exact fin p ws r1 (.inl (sql h1))
          · cases hx
            obtain ⟨p, ws, od, rfl, h1, r1, _⟩ := a.tup
            exact fin p ws r1 (.inr (sqh (ex.h h1)))
          · cases hx
      · cases e
    · cases e
  · cases e
end

end Pv
namespace Pv
open PySem PySem.Spec PyProof.Rows L2 PySem.W
section
variable {X : Cx} {K : PySem.W.Frag} {F H : Hp} {k : Nat}
/-! ### list.insert, remove, reverse, clear -/
def chIns : Ch := fun o ds => match o, ds with
  | .lst xs, [.int i, d] => if 0 ≤ i ∧ i < 1000000000 ∧ xs.length < lim then some (.none, .lst (xs.take i.toNat ++ [d] ++ xs.drop i.toNat)) else none
  | _, _ => none
abbrev rIns : V → List V → Hp → VK → Prop := fun x vs H Q => ∃ (l : Addr) (xs : List V) (i : Int) (y : V), x = .ref l ∧ vs = [.int i, y] ∧ H l = some (.lst xs) ∧ xs.length < sizeLine ∧ 0 ≤ i ∧ i < 2 ^ 63 ∧
    Q .non (upd H l (.lst (xs.take i.toNat ++ [y] ++ xs.drop i.toNat)))
theorem Reps.app2 : ∀ {vs ws : List V} {ds es : List PyData}, Reps K F vs ds → Reps K F ws es → Reps K F (vs ++ ws) (ds ++ es)
  | _, _, _, _, .nil, r => r
  | _, _, _, _, .cons a t, r => .cons a (Reps.app2 t r)
theorem Reps.take2 : ∀ {vs : List V} {ds : List PyData} (n : Nat), Reps K F vs ds → Reps K F (vs.take n) (ds.take n)
  | _, _, 0, r => by simp; exact .nil
  | _, _, n + 1, .nil => by simp; exact .nil
  | _, _, n + 1, .cons a t => by simp only [List.take_succ_cons]; exact .cons a (Reps.take2 n t)
theorem Reps.drop2 : ∀ {vs : List V} {ds : List PyData} (n : Nat), Reps K F vs ds → Reps K F (vs.drop n) (ds.drop n)
  | _, _, 0, r => r
  | _, _, n + 1, .nil => by simp; exact .nil
  | _, _, n + 1, .cons a t => by simp only [List.drop_succ_cons]; exact Reps.drop2 n t
theorem Reps.rev2 : ∀ {vs : List V} {ds : List PyData}, Reps K F vs ds → Reps K F vs.reverse ds.reverse
  | _, _, .nil => .nil
  | _, _, .cons a t => by
    rw [List.reverse_cons, List.reverse_cons]
    exact Reps.app2 (Reps.rev2 t) (.cons a .nil)
theorem chd_ins : ChD K rIns chIns := fun F H p vs o o' ds d Q ex hp ro rs hc fin => by
  unfold chIns at hc
  split at hc
  · split at hc
    · rename_i xs i d' hb
      cases hc
      obtain ⟨ws, h1, r1⟩ := ro
      cases rs with
      | cons a t =>
        cases t with
        | cons a2 t =>
          cases t
          cases a
          exact ⟨p, ws, i, _, rfl, rfl, h1, by rw [r1.length]; exact lim_lt hb.2.2, by omega, by omega, fin _ _ rfl ⟨_, upd_same, Reps.app2 (Reps.app2 (Reps.take2 _ r1) (.cons a2 .nil)) (Reps.drop2 _ r1)⟩ .non⟩
    · cases hc
  · cases hc
def chRev : Ch := fun o ds => match o, ds with
  | .lst xs, [] => some (.none, .lst xs.reverse)
  | _, _ => none
theorem chd_rev : ChD K rReverse chRev := fun F H p vs o o' ds d Q ex hp ro rs hc fin => by
  unfold chRev at hc
  split at hc
  · cases hc
    obtain ⟨ws, h1, r1⟩ := ro
    cases rs
    exact ⟨p, ws, rfl, rfl, h1, fin _ _ rfl ⟨_, upd_same, Reps.rev2 r1⟩ .non⟩
  · cases hc
def chClr : Ch := fun o ds => match o, ds with
  | .lst xs, [] => some (.none, .lst [])
  | _, _ => none
def chRem : Ch := fun o ds => match o, ds with
  | .lst xs, [d] => if noDs xs = true ∧ okD d = true then match PySem.SeqAt.dataPlace xs d with
    | some j => some (.none, .lst (xs.eraseIdx j))
    | none => none
    else none
  | _, _ => none
abbrev rRem (K : PySem.W.Frag) : V → List V → Hp → VK → Prop := fun x vs H Q => ∃ (F : Hp) (l : Addr) (xs : List V) (y : V) (ds : List PyData) (d : PyData) (j : Nat), Ex F H ∧ x = .ref l ∧ vs = [y] ∧ H l = some (.lst xs) ∧ Reps K F xs ds ∧ Rep K F y d ∧ noDs ds = true ∧ okD d = true ∧ PySem.SeqAt.dataPlace ds d = some j ∧ Q .non (upd H l (.lst (xs.eraseIdx j)))
theorem reads_all {pins : List (Addr × Obj)} {σ : St} {s : Shared} (ex : Ex F H) (I : Inv X pins σ H s) : ∀ {vs : List V} {us : List Value} {ds : List PyData}, Reps X.K F vs ds → Vals vs us → noDs ds = true → ∃ as, ReadsAll s.heap us ds as
  | _, _, _, .nil, .nil, _ => ⟨[], .nil⟩
  | _, _, _, .cons a t, .cons r rt, n => by
    rw [noDs, Bool.and_eq_true] at n
    obtain ⟨as, h1⟩ := (Rv.val (H := H) a).reads ex I n.1 r
    obtain ⟨bs, h2⟩ := reads_all ex I t rt n.2
    exact ⟨_, .cons h1 h2⟩
theorem mt_remove (hr : Room k X.A) : MtR X "list.remove" (rRem X.K) := by
  intro pins s σ H x vs v us Q I rx rv h
  obtain ⟨F, l, xs, y, ds, d, j, ex, rfl, rfl, hH, rs, ry, n1, n2, hj, q⟩ := h
  cases rx
  obtain ⟨u, rfl, ru⟩ := rv.one
  obtain ⟨z, its, n, r, hl, e⟩ := I.lstM hH
  obtain ⟨as, h1⟩ := reads_all ex I rs r n1
  obtain ⟨bs, h2⟩ := (Rv.val (H := H) ry).reads ex I (by rw [okD, Bool.and_eq_true] at n2; exact n2.1) ru
  refine PySem.SeqAt.remove_list_data (l := l) (vs := its.toArray) ⟨_, e, rfl, n, rfl⟩ (by simpa using h1) h2 (by rw [noDs_plain]; exact n1) (okD_pl n2) ?_ hj (by rw [List.size_toArray]; omega) ?_
  · have := hr.un
    have := okD_dep n2
    have := Nat.min_le_right (PyData.depthAll ds) d.depth
    omega
  · refine ⟨.non, _, I.lset (its' := its.eraseIdx j) hH e ?_ (r.eraseIdx j) ?_, rfl, q⟩
    · show its.toArray.eraseIdxIfInBounds j = (its.eraseIdx j).toArray
      rw [List.eraseIdxIfInBounds_toArray]
    · have := List.length_eraseIdx_le xs j
      omega
theorem chd_rem : ChD K (rRem K) chRem := fun F H p vs o o' ds d Q ex hp ro rs hc fin => by
  unfold chRem at hc
  split at hc
  · split at hc
    · rename_i xs d' hb
      split at hc
      · rename_i j hj
        cases hc
        obtain ⟨ws, h1, r1⟩ := ro
        cases rs with
        | cons a t =>
          cases t
          exact ⟨F, p, ws, _, xs, d', j, ex, rfl, rfl, h1, r1, a, hb.1, hb.2, hj, fin _ _ rfl ⟨_, upd_same, r1.eraseIdx j⟩ .non⟩
      · cases hc
    · cases hc
  · cases hc
/-! ### dict(pairs), d.update(d2): keys by value -/
def putAllD (kvs more : List (PyData × PyData)) : List (PyData × PyData) := more.foldl (fun acc kv => dPut acc kv.1 kv.2) kvs
theorem repK_all : ∀ {more : List (Key × V)} {ds : List (PyData × PyData)}, RepK K F more ds → ∀ {ks : List (Key × V)} {kvs : List (PyData × PyData)}, RepK K F ks kvs → RepK K F (mergeK ks more) (putAllD kvs ds)
  | _, _, .nil, ks, kvs, r => r
  | _, _, .cons a t, ks, kvs, r => by
    show RepK K F (mergeK (putK ks _ _) _) (putAllD (dPut kvs _ _) _)
    exact repK_all t (repK_put a _ r)
/-- pairs of a key and something -/
def asPrK : List PyData → Option (List (PyData × PyData))
  | [] => some []
  | .tuple [k, d] :: xs => match asK k, asPrK xs with
    | some _, some r => some ((k, d) :: r)
    | _, _ => none
  | _ => none
def dictK : List PyData → Option RD
  | [.list xs] => match asPrK xs with
    | some ps => if xs.length ≤ lim then some (.own (.dct false (putAllD [] ps))) else none
    | none => none
  | _ => none
abbrev rDictK (K : PySem.W.Frag) : List V → Hp → VK → Prop := fun xs H Q => ∃ (a : Addr) (ps : List Addr) (kvs : List (Key × V)), xs = [.ref a] ∧ SqL K H a (ps.map V.ref) ∧ Paired (fun p kv => SqT K H p [kV kv.1, kv.2]) ps kvs ∧
    ∀ p, H p = none → Q (.ref p) (upd H p (.dK (mergeK [] kvs)))
theorem rep_kD1 {v : V} {q : Key} (r : Rep K F v (kD q)) : v = kV q := by
  cases q with
  | inl i => cases r; rfl
  | inr x => cases r; rfl
theorem prK_of (ex : Ex F H) : ∀ {xs : List PyData} {ps : List (PyData × PyData)} {vs : List V}, asPrK xs = some ps → Reps K F vs xs →
    ∃ (as : List Addr) (kvs : List (Key × V)), vs = as.map V.ref ∧ Paired (fun p kv => SqT K H p [kV kv.1, kv.2]) as kvs ∧ RepK K F kvs ps
  | [], ps, vs, h, r => by
    cases h
    cases r
    exact ⟨[], [], rfl, .nil, .nil⟩
  | x :: xs, ps, vs, h, r => by
    unfold asPrK at h
    split at h
    · rename_i heq
      cases heq
    · rename_i kk d xs' heq
      cases heq
      split at h
      · rename_i q rr hk hr
        cases h
        cases r with
        | cons a t =>
          obtain ⟨as, kvs, h1, h2, h3⟩ := prK_of ex hr t
          cases a with
          | @tup p vs2 _ od hp _ rp =>
            cases rp with
            | @cons va va2 _ _ a1 rp =>
              cases rp with
              | @cons vb vb2 _ _ a2 rp =>
                cases rp
                have e := asK_eq hk
                subst e
                have e3 := rep_kD1 a1
                subst e3
                exact ⟨p :: as, (q, vb) :: kvs, by rw [h1]; rfl, .cons (sqh (ex.h hp)) h2, .cons a2 h3⟩
      · cases h
    · cases h
theorem cald_dictK : CalD K (rDictK K) dictK := fun F H vs ds res Q ex rv e wd => by
  unfold dictK at e
  split at e
  · split at e
    · rename_i ps hps
      split at e
      · rename_i hl
        cases e
        cases rv with
        | cons a t =>
          cases t
          obtain ⟨p, ws, rfl, h1, r1⟩ := a.lst ex
          obtain ⟨as, kvs, h2, h3, h4⟩ := prK_of ex hps r1
          subst h2
          refine ⟨p, as, kvs, rfl, sql h1, h3, fun q hq => ?_⟩
          exact wd _ F _ (.h1 _ hq) ⟨q, rfl, ex.none hq, ⟨_, upd_same, repK_all h4 .nil⟩, hq⟩
      · cases e
    · cases e
  · cases e
def keysK (kvs : List (PyData × PyData)) : Bool := kvs.all fun kv => (asK kv.1).isSome
def chUpd : Ch := fun o ds => match o, ds with
  | .dct false kvs, [.dict more] => if keysK more = true ∧ more ≠ [] ∧ kvs.length + more.length ≤ lim then some (.none, .dct false (putAllD kvs more)) else none
  | _, _ => none
abbrev rUpd : V → List V → Hp → VK → Prop := fun x vs H Q => ∃ (l b : Addr) (kvs more : List (Key × V)), x = .ref l ∧ vs = [.ref b] ∧ H l = some (.dK kvs) ∧ Rd H b (.dK more) ∧ l ≠ b ∧ kvs.length + more.length ≤ sizeLine ∧ Q .non (upd H l (.dK (mergeK kvs more)))
theorem mt_update : MtR X "dict.update" rUpd := by
  intro pins s σ H x vs v us Q I rx rv h
  obtain ⟨l, b, kvs, more, rfl, rfl, hH, hB, hne, hz, q⟩ := h
  cases rx
  obtain ⟨u, rfl, ru⟩ := rv.one
  cases ru
  obtain ⟨z, hd, vs, rel, dd⟩ := dk_of I.hok hH
  obtain ⟨z2, hd2, vs2, rel2, dd2⟩ := dk_rd I.hok hB
  have l1 := rel.length
  have l2 := rel2.length
  refine call_meetsIn PySem.F.slot_dict_update dd.typeIs PySem.F.entry_dict_update (PySem.F.args_dict_update_2 _ _) (meets_dict_update (mixKind X.prog X.w) l b hne hd2) ⟨vs, vs2, dd, dd2, by omega, fun h' dd' _ hs => ?_⟩
  have he : ∃ q, h'.get? l = some q := let ⟨q, _, _, hq, _⟩ := dd'; ⟨q, hq⟩
  refine ⟨.non, _, d_write (t' := s.toks) I (by rw [hH]; exact True.intro) hs he (dk_new ?_ hd (KV.merge rel2 rel) dd'), rfl, q⟩
  have := length_mergeK more kvs
  omega
theorem chd_upd : ChD K rUpd chUpd := fun F H p vs o o' ds d Q ex hp ro rs hc fin => by
  unfold chUpd at hc
  split at hc
  · split at hc
    · rename_i kvs more hb
      cases hc
      obtain ⟨ks, h1, r1⟩ := ro
      cases rs with
      | cons a t =>
        cases t
        have nr : isRaw more = false := by
          rw [Bool.eq_false_iff]
          intro w
          have h0 := hb.1
          unfold isRaw at w
          split at w
          · simp [keysK, asK] at h0
          · simp [keysK, asK] at h0
          · cases w
        obtain ⟨a', rfl, hh⟩ := (Rv.val (H := H) a).dct ex nr
        have hpa : p ≠ a' := fun e => by
          subst e
          cases a with
          | raw h _ => rw [hp] at h; cases h
          | scr h _ => exact absurd hb.1 (by simp [keysK, asK])
          | dK h _ => rcases h with h | ⟨_, h⟩ <;> (rw [hp] at h; cases h)
          | dT h _ => rcases h with h | ⟨_, h⟩ <;> (rw [hp] at h; cases h)
        rcases hh with ⟨ks2, h2, r2⟩ | ⟨ks2, h2, r2⟩
        · have l1 := r1.length
          have l2 := r2.length
          have r2' : RepK K F ks2 more := r2
          exact ⟨p, a', ks, ks2, rfl, rfl, h1, h2, hpa, by have := lim_le hb.2.2; omega, fin _ _ rfl ⟨_, upd_same, repK_all r2' r1⟩ .non⟩
        · cases r2 with
          | nil => exact absurd rfl hb.2.1
          | cons _ _ => exact absurd hb.1 (by simp [keysK, asK])
    · cases hc
  · cases hc
/-! ### sorted(d), keys that are texts -/
def txtKeys (kvs : List (PyData × PyData)) : Bool := kvs.all fun kv => match kv.1 with
  | .str _ => true
  | _ => false
def sortedKD : List PyData → Option RD
  | [.dict kvs] => if kvs ≠ [] ∧ txtKeys kvs = true ∧ kvs.length < 64 then some (.own (.lst (sortD (kvs.map (·.1))))) else none
  | _ => none
abbrev rSortK : List V → Hp → VK → Prop := fun xs H Q => ∃ (a : Addr) (kvs : List (Key × V)) (ks : List Str), xs = [.ref a] ∧ Rd H a (.dK kvs) ∧ kvs.map (·.1) = ks.map Sum.inr ∧ ks.length < 64 ∧
    ∀ ys p, ys.Perm ks → sortedS ys = true → H p = none → Q (.ref p) (upd H p (.lst (ys.map V.str)))
theorem dlt_str (a b : Str) : dataLt (.str a) (.str b) = ltCps a.cps.toList b.cps.toList := by
  rw [dataLt_str, ltCps_eq]
theorem le_str {a b : Str} (h : ltCps b.cps.toList a.cps.toList = false) : dataLe false id (.str a) (.str b) = true := by
  show (!dataLt (.str b) (.str a)) = true
  rw [dlt_str, h]
  rfl
theorem str_anti {a b : Str} (h : dataLe false id (.str a) (.str b) = true) (h2 : dataLe false id (.str b) (.str a) = true) : a = b := by
  have h : (!dataLt (.str b) (.str a)) = true := h
  have h2 : (!dataLt (.str a) (.str b)) = true := h2
  rw [dataLt_str, Bool.not_eq_true', decide_eq_false_iff_not] at h h2
  exact str_of_cps (List.le_antisymm h h2)
theorem risingS_pw : ∀ {ys : List Str} {x : Str}, risingS x ys = true → ((x :: ys).map PyData.str).Pairwise fun a b => dataLe false id a b = true
  | [], x, _ => by simp
  | y :: ys, x, h => by
    rw [risingS, Bool.and_eq_true, Bool.not_eq_true'] at h
    have ih := risingS_pw h.2
    rw [List.map_cons]
    refine List.pairwise_cons.mpr ⟨fun z hz => ?_, ih⟩
    rw [List.map_cons] at hz ih
    have t := sortLe_total (listOrd itemOrd) false fun b : PyData => keyToks (id b)
    have h1 := le_str h.1
    rcases List.mem_cons.mp hz with q | q
    · rw [q]; exact h1
    · exact t.trans _ _ _ h1 ((List.pairwise_cons.mp ih).1 z q)
theorem sortedS_pw {ys : List Str} (h : sortedS ys = true) : (ys.map PyData.str).Pairwise fun a b => dataLe false id a b = true := by
  cases ys with
  | nil => exact .nil
  | cons y ys => exact risingS_pw h
theorem sort_strs {ys ks : List Str} (hp : ys.Perm ks) (hs : sortedS ys = true) : ys.map PyData.str = sortD (ks.map PyData.str) := by
  have p : (sortD (ks.map PyData.str)).Perm (ks.map PyData.str) := List.mergeSort_perm _ _
  refine List.Perm.eq_of_pairwise (le := fun a b => dataLe false id a b = true) (fun a b ha hb h1 h2 => ?_) (sortedS_pw hs) (sort_pairwise (sortLe_total (listOrd itemOrd) false fun b : PyData => keyToks (id b)) _) ((hp.map _).trans p.symm)
  obtain ⟨x, _, rfl⟩ := List.mem_map.mp ha
  obtain ⟨y, _, rfl⟩ := List.mem_map.mp (p.mem_iff.mp hb)
  exact congrArg _ (str_anti h1 h2)
theorem reps_strK {F : Hp} : ∀ (ys : List Str), Reps K F (ys.map V.str) (ys.map PyData.str)
  | [] => .nil
  | y :: ys => .cons (.str y) (reps_strK ys)
theorem txt_keys : ∀ {ks : List (Key × V)} {kvs : List (PyData × PyData)}, RepK K F ks kvs → txtKeys kvs = true → ∃ xs : List Str, ks.map (·.1) = xs.map Sum.inr ∧ kvs.map (·.1) = xs.map PyData.str ∧ xs.length = kvs.length
  | _, _, .nil, _ => ⟨[], rfl, rfl, rfl⟩
  | _, _, .cons (k := q) a t, h => by
    unfold txtKeys at h
    rw [List.all_cons, Bool.and_eq_true] at h
    obtain ⟨xs, h1, h2, h3⟩ := txt_keys t h.2
    cases q with
    | inl i => cases h.1
    | inr x => exact ⟨x :: xs, by rw [List.map_cons, List.map_cons, h1], by rw [List.map_cons, List.map_cons, h2]; rfl, by simp [h3]⟩
theorem cald_sortK : CalD K rSortK sortedKD := fun F H vs ds res Q ex rv e wd => by
  unfold sortedKD at e
  split at e
  · split at e
    · rename_i kvs hb
      cases e
      cases rv with
      | cons a t =>
        cases t
        have nr : isRaw kvs = false := by
          rw [Bool.eq_false_iff]
          intro w
          have h0 := hb.2.1
          unfold isRaw at w
          split at w
          · simp [txtKeys] at h0
          · simp [txtKeys] at h0
          · cases w
        obtain ⟨p, rfl, h⟩ := a.dct ex nr
        rcases h with ⟨ks, h1, h2⟩ | ⟨ks, h1, h2⟩
        · obtain ⟨xs, h3, h4, h5⟩ := txt_keys h2 hb.2.1
          refine ⟨p, ks, xs, rfl, h1, h3, by omega, fun ys q hp hs hq => ?_⟩
          have e1 := sort_strs hp hs
          rw [h4] at wd
          refine wd _ F _ (.h1 _ hq) ?_
          rw [← e1]
          exact nw_list ex hq (reps_strK ys)
        · cases h2 with
          | nil => exact absurd rfl hb.1
          | cons _ _ => exact absurd hb.2.1 (by simp [txtKeys])
    · cases e
  · cases e
end
end Pv
namespace Pv
open PySem PySem.Spec PyProof.Rows L2 PySem.W
/-! ### a call whose arguments lie fast while it runs: it hands back a number, a text, a truth or None -/
def atomD : PyData → Bool
  | .none => true
  | .bool _ => true
  | .int _ => true
  | .str _ => true
  | _ => false
def fFunB (n : Nat) (g : Fn) (fs : List (M RD)) : M RD := fun e => bnd (fArgs fs e) fun rs e1 => match rslvs e1 rs with
  | none => none
  | some ds => if ds.length = n then match g (ds.map .d) with
    | some (.rt (.val d) _) => if atomD d = true then some (.ok (.val d) e1) else none
    | some (.ex c _) => some (.ex c e1)
    | _ => none
    else none
/-- the objects among some values lie fast -/
noncomputable def fastF (F H : Hp) (vs : List V) : Hp := fun q => match F q with
  | some x => some x
  | none => open Classical in if V.ref q ∈ vs then H q else none
theorem fast_ex {F H : Hp} {vs : List V} : Ex F (fastF F H vs) := fun a o e => .of (by
  unfold fastF
  rw [e])
theorem fast_ex2 {F H : Hp} {vs : List V} (ex : Ex F H) : Ex (fastF F H vs) H := fun a o e => by
  unfold fastF at e
  cases q : F a with
  | some x => rw [q] at e; cases e; exact ex a _ q
  | none =>
    rw [q] at e
    simp only at e
    split at e
    · exact .of e
    · cases e
theorem fast_at {F H : Hp} {vs : List V} {p : Addr} {o : HO} (hf : F p = none) (hm : V.ref p ∈ vs) (h : H p = some o) : fastF F H vs p = some o := by
  unfold fastF
  rw [hf]
  simp only [if_pos hm]
  exact h
theorem Rv.fast {K : PySem.W.Frag} {F H : Hp} {vs : List V} {v : V} {d : PyData} (r : Rv K F H v d) (hm : v ∈ vs) : Rep K (fastF F H vs) v d := by
  cases r with
  | val r => exact r.mono fast_ex
  | @ob p o hf ro =>
    cases o with
    | lst xs =>
      obtain ⟨ws, h1, h2⟩ := ro
      exact .lst (fast_at hf hm h1) (h2.mono fast_ex)
    | dct t kvs =>
      cases t with
      | false =>
        obtain ⟨ks, h1, h2⟩ := ro
        exact .dK (.inl (fast_at hf hm h1)) (h2.mono fast_ex)
      | true =>
        obtain ⟨ks, h1, h2⟩ := ro
        exact .dT (.inl (fast_at hf hm h1)) (h2.mono fast_ex)
theorem Rvs.get {K : PySem.W.Frag} {F H : Hp} : ∀ {vs : List V} {ds : List PyData} {i : Nat} {d : PyData}, Rvs K F H vs ds → ds[i]? = some d → ∃ v, vs[i]? = some v ∧ Rv K F H v d
  | _, _, _, _, .nil, e => by simp at e
  | _, _, 0, _, .cons r _, e => by simp at e; subst e; exact ⟨_, rfl, r⟩
  | _, _, i + 1, d, .cons _ t, e => by
    obtain ⟨u, h1, h2⟩ := Rvs.get (i := i) (d := d) t (by simpa using e)
    exact ⟨u, by simpa using h1, h2⟩
theorem Rvs.len {K : PySem.W.Frag} {F H : Hp} : ∀ {vs : List V} {ds : List PyData}, Rvs K F H vs ds → vs.length = ds.length
  | _, _, .nil => rfl
  | _, _, .cons _ t => by simp [Rvs.len t]
section
variable {X : Cx} {b : Bx} {k j : Nat} {pos : Pos} {e : Expr} {es : List Expr} {fs : List (M RD)} {F H : Hp} {σ : St} {env : En} {vs : List V} {ds : List PyData}
theorem fast_iv (I : IV b F H σ env) (r : Rvs b.K F H vs ds) : IV (Bx.out b.toSx H) (fastF F H vs) H (vs.map some) (ds.map .d) := by
  refine ⟨fast_ex2 I.ext, I.z, by rw [List.length_map, List.length_map, r.len], fun i s h => ?_, fun i j w w' o o' p h1 h2 h3 h4 => ?_, fun q h => h, fun x hx => by cases hx⟩
  · rw [List.getElem?_map] at h
    obtain ⟨d, h1, rfl⟩ := Option.map_eq_some_iff.mp h
    obtain ⟨v, h2, h3⟩ := r.get h1
    exact ⟨some v, get_map_some h2, v, rfl, h3.fast (List.mem_of_getElem? h2)⟩
  · rw [List.getElem?_map] at h1
    obtain ⟨d, _, h⟩ := Option.map_eq_some_iff.mp h1
    cases h
theorem no_mm {q : Addr} : ¬ Mm (vs.map some) (ds.map .d) q := fun ⟨i, w, o, h1, _⟩ => by
  rw [List.getElem?_map] at h1
  obtain ⟨d, _, h⟩ := Option.map_eq_some_iff.mp h1
  cases h
theorem fast_back (I : IV b F H σ env) {F3 H3 : Hp} {out : En} (I3 : IV (Bx.out b.toSx H) F3 H3 (vs.map some) out) (g3 : Gr (vs.map some) (ds.map .d) (fastF F H vs) H (vs.map some) out F3 H3) : IV b F H3 σ env ∧ Gr σ env F H σ env F H3 := by
  have hx : Ex F H3 := (fast_ex.trans g3.f).trans I3.ext
  have keep : ∀ {q : Addr} {o : HO}, H q = some o → isTbl o = false → H3 q = some o := fun e t => g3.h _ _ e no_mm t
  refine ⟨⟨hx, I3.z, I.len, fun i s h => ?_, I.ne, fun q h => I.h0 q (g3.d q h), I.bo⟩, Ex.refl F, g3.d, fun q o e _ t => keep e t, fun q h => .inl h, fun q h => .inl h, rfl⟩
  obtain ⟨v, h1, h2⟩ := I.sl i s h
  refine ⟨v, h1, ?_⟩
  cases s with
  | un => exact True.intro
  | d x => exact h2
  | f a => exact h2
  | m w o =>
    obtain ⟨p, h3, h4, h5, h6⟩ := h2
    refine ⟨p, h3, h4, ?_, h6⟩
    cases o with
    | lst xs =>
      obtain ⟨ws, h7, h8⟩ := h5
      exact ⟨ws, keep h7 rfl, h8⟩
    | dct t kvs =>
      cases t with
      | false =>
        obtain ⟨ks, h7, h8⟩ := h5
        exact ⟨ks, keep h7 rfl, h8⟩
      | true =>
        obtain ⟨ks, h7, h8⟩ := h5
        exact ⟨ks, keep h7 rfl, h8⟩
theorem atom_rep {K : PySem.W.Frag} {F F' : Hp} {v : V} {d : PyData} (h : atomD d = true) (r : Rep K F v d) : Rep K F' v d := by
  cases r with
  | non => exact .non
  | bl c => exact .bl c
  | int c => exact .int c
  | str c => exact .str c
  | _ => cases h
theorem fFunB_of {g : Fn} {n : Nat} {σ : St} {H : Hp} {Q : VK} (h : tV b (fFunB n g fs) σ H Q) : tCallS (spF b.toSx n g) (WE b.W) (tA b fs) σ H Q := by
  obtain ⟨F, env, I, ok⟩ := h
  have ok : OkV b F H σ env (bnd (fArgs fs env) fun rs e1 => match rslvs e1 rs with
    | none => none
    | some ds => if ds.length = n then match g (ds.map .d) with
      | some (.rt (.val d) _) => if atomD d = true then some (.ok (.val d) e1) else none
      | some (.ex c _) => some (.ex c e1)
      | _ => none
      else none) Q := ok
  refine ⟨F, env, I, ?_⟩
  cases q : fArgs fs env with
  | none => rw [q] at ok; exact ok.elim
  | some o =>
    rw [q] at ok
    cases o with
    | ex c e => exact ok
    | ok rs e1 =>
      intro vs F1 H1 I1 g1 er
      have ok : OkV b F H σ env (match rslvs e1 rs with
        | none => none
        | some ds => if ds.length = n then match g (ds.map .d) with
          | some (.rt (.val d) _) => if atomD d = true then some (.ok (.val d) e1) else none
          | some (.ex c _) => some (.ex c e1)
          | _ => none
          else none) Q := ok
      cases q2 : rslvs e1 rs with
      | none => rw [q2] at ok; exact ok.elim
      | some ds =>
        rw [q2] at ok
        have ok : OkV b F H σ env (if ds.length = n then match g (ds.map .d) with
          | some (.rt (.val d) _) => if atomD d = true then some (.ok (.val d) e1) else none
          | some (.ex c _) => some (.ex c e1)
          | _ => none
          else none) Q := ok
        by_cases hn : ds.length = n
        · rw [if_pos hn] at ok
          have rv := er.rvs I1 q2
          refine ⟨fastF F1 H1 vs, ds.map .d, by rw [rv.len, hn], fast_iv I1 rv, fun i w o h => ?_, ?_⟩
          · rw [List.getElem?_map] at h
            obtain ⟨d, _, h⟩ := Option.map_eq_some_iff.mp h
            cases h
          · cases q3 : g (ds.map .d) with
            | none => rw [q3] at ok; exact ok.elim
            | some o =>
              rw [q3] at ok
              cases o with
              | rt r out =>
                intro v F3 H3 I3 g3 er3
                obtain ⟨I4, g4⟩ := fast_back I1 I3 g3
                cases r with
                | val d =>
                  have ok : OkV b F H σ env (if atomD d = true then some (.ok (.val d) e1) else none) Q := ok
                  by_cases ha : atomD d = true
                  · rw [if_pos ha] at ok
                    exact ok v F1 H3 I4 (g1.trans g4) (atom_rep ha er3)
                  · rw [if_neg ha] at ok; exact ok.elim
                | _ => exact ok.elim
              | ex c out =>
                intro F3 H3 I3 g3
                obtain ⟨I4, g4⟩ := fast_back I1 I3 g3
                exact ok F1 H3 I4 (g1.trans g4)
        · rw [if_neg hn] at ok; exact ok.elim
theorem pv_funB {x : Str} {p1 : Pos} {n : Nat} {g : Fn} (D : Df b.toSx X.prog X.w X.mg X.base j x n g) (gx : Gx X b k) (ha : PAv X b fs (e :: es)) (hj : j ≤ k := by decide) (hg : Gl X x := by rfl)
    (hdb : (x == ("__debug__" : Str)) = false := by decide) (he : starEach (e :: es) X.env = (false, eval e X.env) :: starEach es X.env := by rfl) (hpl : (backTo pos (starEach es X.env)).any (·.1) = false := by rfl) :
    PV X b (fFunB n g fs) (.Call (.Name x p1) (e :: es) [] pos) := by
  obtain ⟨f, fd, ps, F, hm, hk, hb⟩ := D.ex
  rw [gx.kk] at F hk hb
  exact PE.imp (pe_callS F (gx.room.mono hj) hg hm hk hb (passAt gx.tk) ha hdb he hpl) fun _ _ _ h => fFunB_of h
end
end Pv
namespace Pv
open PySem PySem.Spec PyProof.Rows L2 PySem.W PySem.Calls
/-! ### sorted of a tuple -/
section
variable {prog : Program} {w : World} {A : Around} {E : Value → Shared → Prop} {s : Shared} {β : Type} {bs : List β} {enc : β → PyData} {R : Value → β → Prop}
theorem collect_tup {l : Addr} {vs : List Value} {Q : List Value → Shared → Prop} (hl : s.heap.IsTuple l vs.toArray)
    (h : Q vs { s with heap := (s.heap.push (seqObj "list" #[] 0)).update s.heap.objs.size (Obj.mapSeq (· ++ vs.toArray)) }) (hsz : vs.length ≤ sizeLine) :
    wpAny (model prog w) A (collect (.ref l)) Q E s := by
  obtain ⟨o, ho, hc, n, hd⟩ := id hl
  unfold collect
  refine wpAny_bind (wpAny_runValue (codeAny_builtin entry_proto_collect' ?_))
  show wpAny _ _ (do again (.builtin "list.__iadd__" ⟨[← newList [], .ref l], []⟩)) _ _ s
  refine wpAny_bind (wpAny_newList (wpAny_pure ⟨Code.quiet_builtin _ (by decide +kernel), codeAny_builtin entry_list_iadd' ?_⟩))
  show wpAny _ _ (Builtin.List.listExtendWith (.ref s.heap.objs.size) (.ref l) (.ref s.heap.objs.size)) _ _ { s with heap := s.heap.push (seqObj "list" #[] 0) }
  unfold Builtin.List.listExtendWith
  have ho' : (s.heap.push (seqObj "list" #[] 0)).get? l = some o := Heap.get?_push_of_some _ ho
  refine wpAny_bind (wpAny_typeOf (T := "tuple") ⟨o, ho', hc⟩ ?_)
  have ht : (Value.type "tuple" == Value.type "tuple") = true := by rfl
  rw [if_pos (by rw [ht]; simp)]
  refine wpAny_bind (listItems_at ho' hd ?_)
  refine wpAny_bind (listItems_at (xs := #[]) (n := 0) (Heap.get?_push_size _ rfl) rfl ?_)
  rw [if_neg (by simp)]
  refine wpAny_bind (listUpdate_at (xs := #[]) (n := 0) (Heap.get?_push_size _ rfl) rfl ?_ (Nat.zero_le _) (by show (#[] ++ vs.toArray).size ≤ sizeLine + 1; simp only [Array.size_append, List.size_toArray, List.length_nil]; omega))
  refine wpAny_pure ?_
  show wpAny (model prog w) A (do
      let o ← load s.heap.objs.size
      match o.data with
      | .seq xs _ => pure xs.toList
      | _ => unsupported "internal:collect") Q E { s with heap := (s.heap.push (seqObj "list" #[] 0)).update s.heap.objs.size (Obj.mapSeq (· ++ vs.toArray)) }
  refine wpAny_bind (wpAny_load (get?_update_seq (Heap.get?_push_size _ rfl) _) ?_)
  show wpAny _ _ (pure ((#[] : Array Value) ++ vs.toArray).toList) Q E _
  rw [show ((#[] : Array Value) ++ vs.toArray).toList = vs by simp]
  exact wpAny_pure h
theorem sorted_tup_data {l : Addr} {vs : List Value} {Q : Value → Shared → Prop} (hl : s.heap.IsTuple l vs.toArray) (e : EachIs R vs bs) (er : EachIs (fun v b => ∃ as, Reads s.heap v (enc b) as) vs bs) (hal : AllAlike (bs.map enc)) (hk : Sortable (bs.map enc)) (hL : bs.length ≤ sizeLine)
    (hu : ∀ b, b ∈ bs → A.units + 2 + (enc b).depth < cLine) (h : ∀ out, out.length = bs.length → EachIs R out (bs.mergeSort (dataLe false enc)) → Q (.ref (s.heap.objs.size + 1)) { s with heap := sortedAll s.heap vs (List.toArray out) }) :
    wpAny (model prog w) A (call (.builtin "sorted") [.ref l]) Q E s := by
  have er' : EachIs (fun v b => ∃ as, Reads (sortingHeap (copyHeap s.heap vs) (s.heap.objs.size + 1) vs) v (enc b) as) vs bs := er.mono fun _ _ ⟨as, r⟩ => ⟨as, PyProof.Rows.Reads.keeps (fun _ _ => sorting_copy_old) r⟩
  have hL' : vs.length ≤ sizeLine := by rw [e.length]; exact hL
  refine call_function_entry kind_sorted plain_sorted entry_sorted (args_sorted1 _) ?_
  unfold Builtin.«sorted»
  refine wpAny_bind (m := checkCount "sorted" 1 1 _) (wpAny_pure ?_)
  refine wpAny_bind (collect_tup hl ?_ hL')
  refine wpAny_bind (wpAny_newList ?_ hL')
  have hsz : ((s.heap.push (seqObj "list" #[] 0)).update s.heap.objs.size (Obj.mapSeq (· ++ vs.toArray))).objs.size = s.heap.objs.size + 1 := by
    rw [Heap.size_update, size_push']
  show wpAny _ _ _ _ _ { s with heap := copyHeap s.heap vs }
  rw [hsz]
  refine wpAny_bind (wpAny_holding (wpAny_call_entry slot_list_sort ⟨_, copyHeap_at s.heap vs, rfl⟩ entry_list_sort ?body (args_list_sort _)))
  case body =>
    show wpAny (model prog w) A.in1.in1 (Builtin.«list.sort» ⟨[.ref (s.heap.objs.size + 1)], []⟩) _ _ _
    refine list_sort_vals (s := { s with heap := copyHeap s.heap vs }) (copyHeap_at s.heap vs) (SortsAt.data (s := { s with heap := sortingHeap (copyHeap s.heap vs) (s.heap.objs.size + 1) vs }) (each_map (R := fun v d => ∃ as, Reads (sortingHeap (copyHeap s.heap vs) (s.heap.objs.size + 1) vs) v d as) enc er') hal hk (bound_map hu)) hL' ?_
    refine ⟨_, rfl, wpAny_pure ⟨_, rfl, ?_⟩⟩
    exact h _ (by rw [sortVals_length false rfl]; exact e.length) (sortVals_data false e er' hal)
end
section
variable {X : Cx} {K : PySem.W.Frag} {F H : Hp} {k : Nat}
def sortedTp : List PyData → Option RD
  | [.tuple ds] => if sortOk ds = true then some (.own (.lst (sortD ds))) else none
  | _ => none
abbrev rSortTp (K : PySem.W.Frag) : List V → Hp → VK → Prop := fun xs H Q => ∃ (F : Hp) (a : Addr) (ws : List V) (ds : List PyData), Ex F H ∧ xs = [.ref a] ∧ SqT K H a ws ∧ Reps K F ws ds ∧ sortOk ds = true ∧ ∀ p us, H p = none → Reps K F us (sortD ds) → Q (.ref p) (upd H p (.lst us))
theorem call_sortTp (hr : Room k X.A) : CallR X (.builtin "sorted") (rSortTp X.K) := by
  intro pins s σ H xs us Q I r q
  obtain ⟨F, a, ws, ds, ex, rfl, hq, rp, ok, q⟩ := q
  obtain ⟨u, eu, rx⟩ := vals1 r
  subst eu
  cases rx
  obtain ⟨o1, o2, o3, o4⟩ := sortOk_parts ok
  obtain ⟨its, rv, hl, hz⟩ := I.tuple hq
  have e1 : EachIs (fun u d => ∃ w, RelV w u ∧ Rep X.K F w d) its ds := each_of rv rp fun w u d _ h1 h2 => ⟨w, h1, h2⟩
  have e2 : EachIs (fun u d => ∃ as, Reads s.heap u (id d) as) its ds := each_of rv rp fun w u d hd h1 h2 => Dp.reads I d w u ((h2.mono ex).dp (by rw [← noD_plain]; exact okD_pl (o3 d hd))) h1
  refine sorted_tup_data (enc := id) hl e1 e2 (by rw [List.map_id]; exact o1) (by rw [List.map_id]; exact o2) (lim_le o4) (fun d hd => ?_) fun out h1 h2 => ?_
  · have := okD_dep (o3 d hd)
    have := hr.un
    show X.A.units + 2 + d.depth < cLine
    omega
  · obtain ⟨us, h3, h4⟩ := each_back h2
    obtain ⟨ep, he'⟩ := PyProof.Rows.sortedAll_at s.heap its out.toArray
    refine ⟨.ref _, _, I.laid (t' := s.toks) (o := .lst us) (fun _ _ => PyProof.Rows.sortedAll_old) (Nat.le_succ _) ⟨?_, out, ep, h3, he'⟩, rfl, q _ us (I.hok.fresh (Nat.le_succ _)) h4⟩
    rw [h3.length, h1]
    exact lim_le o4
theorem cald_sortTp : CalD K (rSortTp K) sortedTp := fun F H vs ds res Q ex rv e wd => by
  unfold sortedTp at e
  split at e
  · split at e
    · rename_i ds ok
      cases e
      cases rv with
      | cons a t =>
        cases t
        obtain ⟨p, ws, od, rfl, h3, r2, _⟩ := a.tup
        exact ⟨F, p, ws, ds, ex, rfl, sqh (ex.h h3), r2, ok, fun q us hq ru => wd _ F _ (.h1 _ hq) (nw_list ex hq ru)⟩
    · cases e
  · cases e
/-! ### min, max of a list of data -/
def noNone (ds : List PyData) : Bool := ds.all fun d => match d with
  | .none => false
  | _ => true
def mmOk (ds : List PyData) : Bool := alikes ds && noNone ds && ds.all okD
def minDD : List PyData → Option RD
  | [.list (x :: xs)] => if mmOk (x :: xs) = true then some (.val (minD x xs)) else none
  | _ => none
abbrev rMinD (K : PySem.W.Frag) : List V → Hp → VK → Prop := fun xs H Q => ∃ (F : Hp) (a : Addr) (ws : List V) (d : PyData) (ds : List PyData), Ex F H ∧ xs = [.ref a] ∧ H a = some (.lst ws) ∧ Reps K F ws (d :: ds) ∧ mmOk (d :: ds) = true ∧ ∀ v, Rep K F v (minD d ds) → Q v H
theorem depthAll_le : ∀ {ds : List PyData}, (∀ d ∈ ds, d.depth ≤ 64) → PyData.depthAll ds ≤ 64
  | [], _ => by simp [PyData.depthAll]
  | d :: ds, h => by
    have h1 := h d List.mem_cons_self
    have h2 := depthAll_le fun e he => h e (List.mem_cons_of_mem _ he)
    unfold PyData.depthAll
    omega
theorem mmOk_parts {ds : List PyData} (h : mmOk ds = true) : AlikeAll ds ∧ (∀ d ∈ ds, okD d = true) ∧ noDs ds = true := by
  unfold mmOk at h
  rw [Bool.and_eq_true, Bool.and_eq_true] at h
  refine ⟨⟨alikes_all h.1.1, fun x hx e => ?_⟩, List.all_eq_true.mp h.2, ?_⟩
  · have := List.all_eq_true.mp h.1.2 x hx
    rw [e] at this
    cases this
  · have : ∀ {ds : List PyData}, (∀ d ∈ ds, okD d = true) → noDs ds = true := fun {ds} h => by
      induction ds with
      | nil => rfl
      | cons d ds ih =>
        rw [noDs, Bool.and_eq_true]
        refine ⟨?_, ih fun e he => h e (List.mem_cons_of_mem _ he)⟩
        have := h d List.mem_cons_self
        rw [okD, Bool.and_eq_true] at this
        exact this.1
    exact this (List.all_eq_true.mp h.2)
theorem call_minDD (hc : X.calm = true) (hr : Room k X.A) : CallR X (.builtin "min") (rMinD X.K) := by
  intro pins s σ H xs us Q I r q
  obtain ⟨F, a, ws, d, ds, ex, rfl, hq, rp, ok, q⟩ := q
  obtain ⟨u, eu, rx⟩ := vals1 r
  subst eu
  cases rx
  obtain ⟨o1, o2, o3⟩ := mmOk_parts ok
  obtain ⟨hz, its, n, rv, ho⟩ := I.hok a _ hq
  have hl : s.heap.IsList a its.toArray := ⟨_, ho, rfl, n, rfl⟩
  obtain ⟨as, hra⟩ := reads_all ex I rp rv o3
  refine min_list_data (I.ok.hd hc) hl (by simpa using hra) o1 ?_ fun i v h' tk bs hv hrd hk => ?_
  · have := depthAll_le fun e he => okD_dep (o2 e he)
    have := hr.un
    omega
  · obtain ⟨w, hw, rw'⟩ := valAt (i := i) rv (by simpa using hv)
    obtain ⟨e, he, re⟩ := rp.get' hw
    have hme : e ∈ d :: ds := List.mem_of_getElem? he
    obtain ⟨bs2, h2⟩ := (Rv.val (H := H) re).reads ex I (by have := o2 e hme; rw [okD, Bool.and_eq_true] at this; exact this.1) rw'
    have h3 : e = minD d ds := (Reads.unique (PyProof.Rows.Reads.keeps hk h2) _ _ hrd).1
    rw [h3] at re
    exact ⟨w, H, I.kept hk, rw', q w re⟩
theorem cald_minDD : CalD K (rMinD K) minDD := fun F H vs ds res Q ex rv e wd => by
  unfold minDD at e
  split at e
  · split at e
    · rename_i x xs ok
      cases e
      cases rv with
      | cons a t =>
        cases t
        obtain ⟨p, ws, rfl, h3, r2⟩ := a.lst ex
        exact ⟨F, p, ws, x, xs, ex, rfl, h3, r2, ok, fun v rv => wd_val wd rv⟩
    · cases e
  · cases e
end
end Pv
namespace Pv
open PySem PySem.Spec PyProof.Rows L2 PySem.W HT
section
variable {X : Cx} {K : PySem.W.Frag}
/-- tuple + tuple -/
def addTD : PyData → PyData → Option RD
  | .tuple xs, .tuple ys => if xs.length + ys.length ≤ lim then some (.val (.tuple (xs ++ ys))) else none
  | _, _ => none
abbrev rCatR (K : PySem.W.Frag) : R2 := fun x y H Q => ∃ a b xs ys, x = .ref a ∧ y = .ref b ∧ SqT K H a xs ∧ SqT K H b ys ∧ xs.length + ys.length ≤ sizeLine ∧
  (xs = [] → Q (.ref b) H) ∧ (ys = [] → Q (.ref a) H) ∧ ∀ p od, od.dict = none → H p = none → Q (.ref p) (upd H p (tupHO od (xs ++ ys)))
theorem op_addT : OpR X (binaryOp .Add) (rCatR X.K) := by
  intro pins s σ H x y v u Q I rx ry h
  obtain ⟨a, b, xs, ys, rfl, rfl, ha, hb, hz, q0, q1, q2⟩ := h
  cases rx
  cases ry
  obtain ⟨its, r1, p1, _⟩ := I.tuple ha
  obtain ⟨its2, r2, p2, _⟩ := I.tuple hb
  by_cases hx : xs = []
  · have e := r1.nil_iff.mpr hx
    subst e
    exact cat_tup0 p1 p2 ⟨.ref b, H, I, rfl, q0 hx⟩
  · refine HT.cat_tup p1 p2 (fun z => hx (r1.nil_iff.mp z)) (fun z => ⟨.ref a, H, I, rfl, q1 (r2.nil_iff.mp z)⟩) (fun z => ?_) (by rw [← r1.length, ← r2.length]; exact hz)
    exact ⟨.ref s.heap.objs.size, _, inv_tup I (fun b ob q => Heap.get?_push_of_some _ q) (r1.append r2) (by rw [List.length_append]; exact hz) (Heap.get?_push_size _ rfl), rfl, q2 _ _ rfl (I.hok.fresh (Nat.le_refl _))⟩
theorem opd_addT : OpD K (rCatR K) addTD := fun F H v u x y res Q ex rv ru e wd => by
  unfold addTD at e
  split at e
  · split at e
    · rename_i xs ys hl
      cases e
      obtain ⟨a, vs, od, rfl, h1, r1, n1⟩ := rv.tup
      obtain ⟨b, ws, od2, rfl, h2, r2, n2⟩ := ru.tup
      refine ⟨a, b, vs, ws, rfl, rfl, sqh (ex.h h1), sqh (ex.h h2), by rw [r1.length, r2.length]; exact lim_le hl, fun z => ?_, fun z => ?_, wd_tup' ex wd (Reps.app2 r1 r2)⟩
      · subst z
        cases r1
        exact wd_val wd (.tup h2 n2 r2)
      · subst z
        cases r2
        rw [List.append_nil] at wd
        exact wd_val wd (.tup h1 n1 r1)
    · cases e
  · cases e
end
end Pv
namespace Pv
open PySem PySem.Spec PyProof.Rows L2 PySem.W HT
section
variable {X : Cx} {K : PySem.W.Frag}
/-- the script + a list -/
def addSc : PyData → PyData → Option RD
  | .dict [(.bool true, .list xs)], .list ys => if xs.length + ys.length ≤ lim then some (.own (.lst (xs ++ ys))) else none
  | _, _ => none
abbrev rCatL (K : PySem.W.Frag) : R2 := fun x y H Q => ∃ l b xs zs, x = .ref l ∧ y = .ref b ∧ SqL K H l xs ∧ SqL K H b zs ∧ xs.length + zs.length ≤ sizeLine ∧ ∀ p, H p = none → Q (.ref p) (upd H p (.lst (xs ++ zs)))
theorem op_addSc : OpR X (binaryOp .Add) (rCatL X.K) := by
  intro pins s σ H x y v u Q I rx ry h
  obtain ⟨l, b, xs, zs, rfl, rfl, hH, hB, hz, q⟩ := h
  cases rx
  cases ry
  obtain ⟨its, r, ⟨⟨cls, dd, data, sl⟩, n, ho, hc, hd, hdat⟩, _⟩ := I.list hH
  obtain ⟨its2, r2, ⟨⟨cls2, dd2, data2, sl2⟩, n2, ho2, hc2, hd2, hdat2⟩, _⟩ := I.list hB
  simp only at hc hd hdat hc2 hd2 hdat2
  subst hc hd hdat hc2 hd2 hdat2
  have l1 := r.length
  have l2 := r2.length
  refine PySem.concat_meets ⟨_, ho, rfl⟩ ⟨_, ho2, rfl⟩ noFill_list_add seq_list_add PySem.F.slot_list_add PySem.F.entry_list_add (PySem.F.args_list_add_2 _ _) (PyProof.Rows.list_addW l b its.toArray its2.toArray n n2 _ _ _ _ (by rw [List.size_toArray, List.size_toArray]; omega)) ⟨ho, ho2, ?_⟩
  have ea : its.toArray ++ its2.toArray = (its ++ its2).toArray := by simp
  rw [ea]
  exact ⟨.ref _, _, I.lnew (t' := s.toks) (r.append r2) (by rw [List.length_append]; omega), rfl, q _ I.fresh⟩
theorem opd_addSc : OpD K (rCatL K) addSc := fun F H v u x y res Q ex rv ru e wd => by
  unfold addSc at e
  split at e
  · split at e
    · rename_i xs ys hl
      cases e
      obtain ⟨p, ws, rfl, h1, r1⟩ := rv.scr ex
      obtain ⟨q, zs, rfl, h2, r2⟩ := ru.lst ex
      exact ⟨p, q, ws, zs, rfl, rfl, h1, sql h2, by rw [r1.length, r2.length]; exact lim_le hl, wd_list' ex wd (Reps.app2 r1 r2)⟩
    · cases e
  · cases e
end
end Pv
namespace Pv
open PySem PySem.Spec PyProof.Rows L2 PySem.W
/-! ### .. that hands back tuples of such -/
mutual
def tupD : PyData → Bool
  | .none => true
  | .bool _ => true
  | .int _ => true
  | .str _ => true
  | .tuple ds => tupDs ds
  | _ => false
def tupDs : List PyData → Bool
  | [] => true
  | d :: ds => tupD d && tupDs ds
end
def fFunT (n : Nat) (g : Fn) (fs : List (M RD)) : M RD := fun e => bnd (fArgs fs e) fun rs e1 => match rslvs e1 rs with
  | none => none
  | some ds => if ds.length = n then match g (ds.map .d) with
    | some (.rt (.val d) _) => if tupD d = true then some (.ok (.val d) e1) else none
    | some (.ex c _) => some (.ex c e1)
    | _ => none
    else none
/-- what lay fast for a while only is loose again -/
noncomputable def looseF (F H F3 : Hp) (vs : List V) : Hp := fun q => open Classical in if F q = none ∧ V.ref q ∈ vs ∧ ∃ o, H q = some o ∧ mob o = true then none else F3 q
theorem loose_ne {F H F3 : Hp} {vs : List V} {q : Addr} (h : ¬ (F q = none ∧ V.ref q ∈ vs ∧ ∃ o, H q = some o ∧ mob o = true)) : looseF F H F3 vs q = F3 q := by
  unfold looseF
  rw [if_neg h]
theorem loose_some {F H F3 : Hp} {vs : List V} {q : Addr} {o : HO} (h : looseF F H F3 vs q = some o) : F3 q = some o ∧ ¬ (F q = none ∧ V.ref q ∈ vs ∧ ∃ o, H q = some o ∧ mob o = true) := by
  unfold looseF at h
  split at h
  · cases h
  · rename_i hn
    exact ⟨h, hn⟩
theorem mob_tup {od : Obj} {xs : List V} : mob (tupHO od xs) = false := by
  unfold tupHO
  split <;> rfl
theorem StO.at {H H' : Hp} {a : Addr} {o : HO} (e : H a = H' a) (h : StO H a o) : StO H' a o := by
  have r : ∀ {o : HO}, Rd H a o → Rd H' a o := fun {o} h => by
    rcases h with h | ⟨q, h⟩
    · exact .inl (e ▸ h)
    · exact .inr ⟨q, e ▸ h⟩
  cases o with
  | dK ks => exact r h
  | dT ks => exact r h
  | lst xs => exact e.symm.trans (show H a = some _ from h)
  | tup xs => exact e.symm.trans (show H a = some _ from h)
  | frz ob o =>
    cases o with
    | dK ks => exact r h
    | dT ks => exact r h
    | _ => exact e.symm.trans (show H a = some _ from h)
  | _ => exact e.symm.trans (show H a = some _ from h)
mutual
theorem tup_rep {K : PySem.W.Frag} {F H F3 H3 : Hp} {vs : List V} (hk : ∀ {q : Addr} {o : HO}, H q = some o → mob o = true → H3 q = some o) (x3 : Ex F3 H3) : ∀ {d : PyData} {v : V}, tupD d = true → Rep K F3 v d → Rep K (looseF F H F3 vs) v d
  | .none, _, _, .non => .non
  | .bool _, _, _, .bl c => .bl c
  | .int _, _, _, .int c => .int c
  | .str _, _, _, .str c => .str c
  | .tuple ds, _, h, .tup (a := a) (xs := xs) (od := od) h1 n r => by
    refine .tup (od := od) ?_ n (tup_reps hk x3 (by simpa [tupD] using h) r)
    rw [loose_ne, h1]
    rintro ⟨_, _, o, e, m⟩
    have e3 := hk e m
    have e4 := x3.h h1
    rw [e3] at e4
    cases e4
    rw [mob_tup] at m
    cases m
  | .list _, _, h, _ => by simp [tupD] at h
  | .dict _, _, h, _ => by simp [tupD] at h
theorem tup_reps {K : PySem.W.Frag} {F H F3 H3 : Hp} {vs : List V} (hk : ∀ {q : Addr} {o : HO}, H q = some o → mob o = true → H3 q = some o) (x3 : Ex F3 H3) : ∀ {ds : List PyData} {ws : List V}, tupDs ds = true → Reps K F3 ws ds → Reps K (looseF F H F3 vs) ws ds
  | [], _, _, .nil => .nil
  | d :: ds, _, h, .cons a t => by
    rw [tupDs, Bool.and_eq_true] at h
    exact .cons (tup_rep hk x3 h.1 a) (tup_reps hk x3 h.2 t)
end
section
variable {X : Cx} {b : Bx} {k j : Nat} {pos : Pos} {e : Expr} {es : List Expr} {fs : List (M RD)} {F H : Hp} {σ : St} {env : En} {vs : List V} {ds : List PyData}
theorem mob_tbl {o : HO} (m : mob o = true) : isTbl o = false := by
  cases o with
  | tbl _ => cases m
  | _ => rfl
theorem loose_back (I : IV b F H σ env) {F3 H3 : Hp} {out : En} (I3 : IV (Bx.out b.toSx H) F3 H3 (vs.map some) out) (g3 : Gr (vs.map some) (ds.map .d) (fastF F H vs) H (vs.map some) out F3 H3) :
    IV b (looseF F H F3 vs) H3 σ env ∧ Gr σ env F H σ env (looseF F H F3 vs) H3 ∧ ∀ {d : PyData} {v : V}, tupD d = true → Rep b.K F3 v d → Rep b.K (looseF F H F3 vs) v d := by
  have keep : ∀ {q : Addr} {o : HO}, H q = some o → isTbl o = false → H3 q = some o := fun e t => g3.h _ _ e no_mm t
  have hx : Ex (looseF F H F3 vs) H3 := fun a o e => I3.ext a o (loose_some e).1
  have hf : Ex F (looseF F H F3 vs) := fun a o e => by
    refine StO.at (loose_ne ?_).symm ((fast_ex.trans g3.f) a o e)
    rintro ⟨h, _⟩
    rw [e] at h
    cases h
  have own : ∀ {p : Addr} {o : HO}, F p = none → H p = some o → mob o = true → looseF F H F3 vs p = none := fun {p o} h1 h2 h3 => by
    by_cases q : V.ref p ∈ vs
    · unfold looseF
      rw [if_pos ⟨h1, q, o, h2, h3⟩]
    · rw [loose_ne fun z => q z.2.1]
      cases w : F3 p with
      | none => rfl
      | some x =>
        rcases g3.n p (by rw [w]; exact fun z => nomatch z) with z | z | z | ⟨o', z, m⟩
        · exfalso
          apply z
          unfold fastF
          rw [h1]
          simp only [if_neg q]
        · rw [h2] at z; cases z
        · exact absurd z no_mm
        · rw [h2] at z
          cases z
          rw [h3] at m
          cases m
  refine ⟨⟨hx, I3.z, I.len, fun i s h => ?_, I.ne, fun q h => I.h0 q (g3.d q h), I.bo⟩, ⟨hf, g3.d, fun q o e _ t => keep e t, fun q h => ?_, fun q h => .inl h, rfl⟩, fun {d v} h r => tup_rep (fun e m => keep e (mob_tbl m)) I3.ext h r⟩
  · obtain ⟨v, h1, h2⟩ := I.sl i s h
    refine ⟨v, h1, ?_⟩
    cases s with
    | un => exact True.intro
    | d x =>
      obtain ⟨v', h3, h4⟩ := h2
      exact ⟨v', h3, h4.mono hf⟩
    | f a => exact h2
    | m w o =>
      obtain ⟨p, h3, h4, h5, h6⟩ := h2
      cases o with
      | lst xs =>
        obtain ⟨ws, h7, h8⟩ := h5
        exact ⟨p, h3, own h4 h7 rfl, ⟨ws, keep h7 rfl, h8.mono hf⟩, h6⟩
      | dct t kvs =>
        cases t with
        | false =>
          obtain ⟨ks, h7, h8⟩ := h5
          exact ⟨p, h3, own h4 h7 rfl, ⟨ks, keep h7 rfl, h8.mono hf⟩, h6⟩
        | true =>
          obtain ⟨ks, h7, h8⟩ := h5
          exact ⟨p, h3, own h4 h7 rfl, ⟨ks, keep h7 rfl, h8.mono hf⟩, h6⟩
  · cases w : looseF F H F3 vs q with
    | none => exact absurd w h
    | some o =>
      obtain ⟨h1, h2⟩ := loose_some w
      rcases g3.n q (by rw [h1]; exact fun z => nomatch z) with z | z | z | z
      · unfold fastF at z
        cases y : F q with
        | some x => exact .inl (fun u => nomatch u)
        | none =>
          rw [y] at z
          simp only at z
          split at z
          · rename_i hm
            cases y2 : H q with
            | none => exact .inr (.inl rfl)
            | some x =>
              cases y3 : mob x with
              | true => exact absurd ⟨y, hm, x, y2, y3⟩ h2
              | false => exact .inr (.inr (.inr ⟨x, rfl, y3⟩))
          · exact absurd rfl z
      · exact .inr (.inl z)
      · exact absurd z no_mm
      · exact .inr (.inr (.inr z))
theorem fFunT_of {g : Fn} {n : Nat} {σ : St} {H : Hp} {Q : VK} (h : tV b (fFunT n g fs) σ H Q) : tCallS (spF b.toSx n g) (WE b.W) (tA b fs) σ H Q := by
  obtain ⟨F, env, I, ok⟩ := h
  have ok : OkV b F H σ env (bnd (fArgs fs env) fun rs e1 => match rslvs e1 rs with
    | none => none
    | some ds => if ds.length = n then match g (ds.map .d) with
      | some (.rt (.val d) _) => if tupD d = true then some (.ok (.val d) e1) else none
      | some (.ex c _) => some (.ex c e1)
      | _ => none
      else none) Q := ok
  refine ⟨F, env, I, ?_⟩
  cases q : fArgs fs env with
  | none => rw [q] at ok; exact ok.elim
  | some o =>
    rw [q] at ok
    cases o with
    | ex c e => exact ok
    | ok rs e1 =>
      intro vs F1 H1 I1 g1 er
      have ok : OkV b F H σ env (match rslvs e1 rs with
        | none => none
        | some ds => if ds.length = n then match g (ds.map .d) with
          | some (.rt (.val d) _) => if tupD d = true then some (.ok (.val d) e1) else none
          | some (.ex c _) => some (.ex c e1)
          | _ => none
          else none) Q := ok
      cases q2 : rslvs e1 rs with
      | none => rw [q2] at ok; exact ok.elim
      | some ds =>
        rw [q2] at ok
        have ok : OkV b F H σ env (if ds.length = n then match g (ds.map .d) with
          | some (.rt (.val d) _) => if tupD d = true then some (.ok (.val d) e1) else none
          | some (.ex c _) => some (.ex c e1)
          | _ => none
          else none) Q := ok
        by_cases hn : ds.length = n
        · rw [if_pos hn] at ok
          have rv := er.rvs I1 q2
          refine ⟨fastF F1 H1 vs, ds.map .d, by rw [rv.len, hn], fast_iv I1 rv, fun i w o h => ?_, ?_⟩
          · rw [List.getElem?_map] at h
            obtain ⟨d, _, h⟩ := Option.map_eq_some_iff.mp h
            cases h
          · cases q3 : g (ds.map .d) with
            | none => rw [q3] at ok; exact ok.elim
            | some o =>
              rw [q3] at ok
              cases o with
              | rt r out =>
                intro v F3 H3 I3 g3 er3
                obtain ⟨I4, g4, cv⟩ := loose_back I1 I3 g3
                cases r with
                | val d =>
                  have ok : OkV b F H σ env (if tupD d = true then some (.ok (.val d) e1) else none) Q := ok
                  by_cases ha : tupD d = true
                  · rw [if_pos ha] at ok
                    exact ok v _ H3 I4 (g1.trans g4) (cv ha er3)
                  · rw [if_neg ha] at ok; exact ok.elim
                | _ => exact ok.elim
              | ex c out =>
                intro F3 H3 I3 g3
                obtain ⟨I4, g4, _⟩ := loose_back I1 I3 g3
                exact ok _ H3 I4 (g1.trans g4)
        · rw [if_neg hn] at ok; exact ok.elim
theorem pv_funT {x : Str} {p1 : Pos} {n : Nat} {g : Fn} (D : Df b.toSx X.prog X.w X.mg X.base j x n g) (gx : Gx X b k) (ha : PAv X b fs (e :: es)) (hj : j ≤ k := by decide) (hg : Gl X x := by rfl)
    (hdb : (x == ("__debug__" : Str)) = false := by decide) (he : starEach (e :: es) X.env = (false, eval e X.env) :: starEach es X.env := by rfl) (hpl : (backTo pos (starEach es X.env)).any (·.1) = false := by rfl) :
    PV X b (fFunT n g fs) (.Call (.Name x p1) (e :: es) [] pos) := by
  obtain ⟨f, fd, ps, F, hm, hk, hb⟩ := D.ex
  rw [gx.kk] at F hk hb
  exact PE.imp (pe_callS F (gx.room.mono hj) hg hm hk hb (passAt gx.tk) ha hdb he hpl) fun _ _ _ h => fFunT_of h
end
end Pv
namespace Pv
open PySem PySem.Spec PyProof.Rows L2 PySem.W
section
variable {X : Cx} {b : Bx} {k : Nat} {e : Expr} {f : M RD}
/-- xs[::-1], a list -/
def revD : PyData → Option RD
  | .list xs => some (.own (.lst xs.reverse))
  | _ => none
theorem und_rev {K : PySem.W.Frag} : UnD K (fun x H Q => ∃ a xs, x = .ref a ∧ SqL K H a xs ∧ ∀ p, H p = none → Q (.ref p) (upd H p (.lst xs.reverse))) revD := fun F H v x res Q ex rv e wd => by
  unfold revD at e
  split at e
  · cases e
    obtain ⟨p, ws, rfl, h1, r1⟩ := rv.lst ex
    exact ⟨p, ws, rfl, sql h1, wd_list' ex wd (Reps.rev2 r1)⟩
  · cases e
theorem pv_rev {j : Nat} {p1 p2 p3 pos : Pos} (g : Gx X b k) (h : PV X b f e) : PV X b (fUn revD f) (.Subscript e (.Slice none none (some (.UnaryOp .USub (.Constant (.int 1) j p1) p2)) p3) pos) := PE.imp (pe_revL h) fun σ H Q h => by
  obtain ⟨F, env, I, ok⟩ := h
  refine vV I ok fun r env1 v F1 H1 I1 g1 er ok1 => ?_
  cases h1 : rslv env1 r with
  | none => rw [h1] at ok1; exact ok1.elim
  | some x =>
    rw [h1] at ok1
    have ok1 : OkV b F1 H1 σ env1 (rok (revD x) env1) Q := ok1
    cases h2 : revD x with
    | none => rw [h2] at ok1; exact ok1.elim
    | some res =>
      rw [h2] at ok1
      have z1 := Er.rv I1 er h1
      have wd := wd_of I1 ok1
      rw [g.kk] at z1 wd
      exact und_rev F1 H1 v x res Q I1.ext z1 h2 wd
end
end Pv
/-! Mirrors: what a def computes as a function of data, without places; each rule leads from a reading to its mirror. -/
namespace Mr
open PySem PySem.Spec PyProof.Rows L2 Pv
/-- a result, or a refusal -/
inductive Rs (α : Type) where
  | ok (a : α)
  | ex (c : Str)
abbrev Y (α : Type) := Option (Rs α)
section
variable {α β γ σ ρ τ : Type}
def okY (a : α) : Y α := some (.ok a)
def exY (c : Str) : Y α := some (.ex c)
def bY (m : Y α) (k : α → Y β) : Y β := match m with
  | some (.ok a) => k a
  | some (.ex c) => some (.ex c)
  | none => none
/-- .. where no refusal may be -/
def bYn (m : Y α) (k : α → Y β) : Y β := match m with
  | some (.ok a) => k a
  | _ => none
def bQ (o : Option α) (k : α → Y β) : Y β := match o with
  | some a => k a
  | none => none
def bG (c : Bool) (m : Y β) : Y β := match c with
  | true => m
  | false => none
def bB (d : PyData) (k : Bool → Y β) : Y β := match d with
  | .bool c => k c
  | _ => none
def bI (d : PyData) (k : Int → Y β) : Y β := match d with
  | .int i => k i
  | _ => none
def unT : PyData → Option (List PyData)
  | .dict [(.none, .list ds)] => some ds
  | .tuple ds => some ds
  | _ => none
def unL : PyData → Option (List PyData)
  | .list ds => some ds
  | _ => none
def at2 (ds : Option (List PyData)) (k : PyData → PyData → Y β) : Y β := match ds with
  | some [a, b] => k a b
  | _ => none
def at3 (ds : Option (List PyData)) (k : PyData → PyData → PyData → Y β) : Y β := match ds with
  | some [a, b, c] => k a b c
  | _ => none
def at4 (ds : Option (List PyData)) (k : PyData → PyData → PyData → PyData → Y β) : Y β := match ds with
  | some [a, b, c, d] => k a b c d
  | _ => none
inductive Lp (ρ σ : Type) where
  | go (s : σ)
  | bk (s : σ)
  | rt (r : ρ)
inductive Fw (ρ σ : Type) where
  | go (s : σ)
  | rt (r : ρ)
def forS : List α → σ → (α → σ → Y σ) → Y σ
  | [], s, _ => okY s
  | x :: xs, s, f => bY (f x s) fun s => forS xs s f
def forY : List α → σ → (α → σ → Y (Lp ρ σ)) → Y (Fw ρ σ)
  | [], s, _ => okY (.go s)
  | x :: xs, s, f => bY (f x s) fun l => match l with
    | .go s => forY xs s f
    | .bk s => okY (.go s)
    | .rt r => okY (.rt r)
def whY : Nat → σ → (σ → Y (Lp ρ σ)) → Y (Fw ρ σ)
  | 0, _, _ => none
  | n + 1, s, f => bY (f s) fun l => match l with
    | .go s => whY n s f
    | .bk s => okY (.go s)
    | .rt r => okY (.rt r)
def WN : Nat := 100000
def optL : Option α → List α
  | some a => [a]
  | none => []
/-- a comprehension; nothing changes -/
def compL (f : α → Y (Option β)) : List α → Option (List β)
  | [] => some []
  | x :: xs => match f x with
    | some (.ok o) => (compL f xs).map fun ys => optL o ++ ys
    | _ => none
def compP (xs : List α) (f : α → Y (Option β)) : Option (List β) := if xs.length ≤ lim then compL f xs else none
/-- .. with what changes -/
def compT (f : α → σ → Y (Option β × σ)) : List α → σ → Option (List β × σ)
  | [], s => some ([], s)
  | x :: xs, s => match f x s with
    | some (.ok (o, s)) => (compT f xs s).map fun p => (optL o ++ p.1, p.2)
    | _ => none
def compS (xs : List α) (s : σ) (f : α → σ → Y (Option β × σ)) : Option (List β × σ) := if xs.length ≤ lim then compT f xs s else none

theorem bY_some {m : Y α} {k : α → Y β} {q : Rs β} (h : bY m k = some q) : (∃ a, m = some (.ok a) ∧ k a = some q) ∨ ∃ c, m = some (.ex c) ∧ q = .ex c := by
  unfold bY at h
  split at h
  · exact .inl ⟨_, rfl, h⟩
  · cases h
    exact .inr ⟨_, rfl, rfl⟩
  · cases h
theorem bYn_some {m : Y α} {k : α → Y β} {q : Rs β} (h : bYn m k = some q) : ∃ a, m = some (.ok a) ∧ k a = some q := by
  unfold bYn at h
  split at h
  · exact ⟨_, rfl, h⟩
  · cases h
theorem bQ_some {m : Option α} {k : α → Y β} {q : Rs β} (h : bQ m k = some q) : ∃ a, m = some a ∧ k a = some q := by
  unfold bQ at h
  split at h
  · exact ⟨_, rfl, h⟩
  · cases h
end

/-! ### what is known of the slots -/
inductive SlR where
  | j
  | q
  | d (x : PyData)
  | m (w : Bool) (o : Ob)
  | f (a : Addr)
def SlRel : SlR → Sl → Prop
  | .j, s => s = .un ∨ ∃ x, s = .d x
  | .q, s => s = .un ∨ (∃ x, s = .d x) ∨ (∃ o, s = .m true o) ∨ ∃ a, s = .f a
  | .d x, s => s = .d x
  | .m w o, s => s = .m w o
  | .f a, s => s = .f a
structure EnvR (S : List SlR) (e : En) : Prop where
  len : S.length = e.length
  sl : ∀ (i : Nat) (r : SlR), S[i]? = some r → ∃ s, e[i]? = some s ∧ SlRel r s
theorem EnvR.at {S : List SlR} {e : En} (h : EnvR S e) {i : Nat} {r : SlR} (hi : S[i]? = some r) : ∃ s, e[i]? = some s ∧ SlRel r s := h.sl i r hi
theorem EnvR.set {S : List SlR} {e : En} (h : EnvR S e) (i : Nat) {r : SlR} {s : Sl} (hr : SlRel r s) : EnvR (S.set i r) (e.set i s) := by
  refine ⟨by rw [List.length_set, List.length_set, h.len], fun k r' hk => ?_⟩
  rw [List.getElem?_set] at hk ⊢
  split at hk
  · rename_i e1
    subst e1
    split at hk
    · rename_i hl
      cases hk
      rw [if_pos rfl, if_pos (by rw [← h.len]; exact hl)]
      exact ⟨_, rfl, hr⟩
    · cases hk
  · rename_i e1
    rw [if_neg e1]
    exact h.sl k r' hk
def wk : SlR → SlR → Prop
  | r, .j => match r with
    | .j => True
    | .d _ => True
    | _ => False
  | r, .q => match r with
    | .m false _ => False
    | _ => True
  | r, r' => r = r'
theorem wk_rel {r r' : SlR} {s : Sl} (h : wk r r') (hr : SlRel r s) : SlRel r' s := by
  cases r' with
  | j =>
    cases r with
    | j => exact hr
    | d x => exact .inr ⟨x, hr⟩
    | _ => exact h.elim
  | q =>
    cases r with
    | j =>
      rcases hr with hr | hr
      · exact .inl hr
      · exact .inr (.inl hr)
    | q => exact hr
    | d x => exact .inr (.inl ⟨x, hr⟩)
    | m w o =>
      cases w with
      | true => exact .inr (.inr (.inl ⟨o, hr⟩))
      | false => exact h.elim
    | f a => exact .inr (.inr (.inr ⟨a, hr⟩))
  | d x => cases (show r = .d x from h); exact hr
  | m w o => cases (show r = .m w o from h); exact hr
  | f a => cases (show r = .f a from h); exact hr
def Wk : List SlR → List SlR → Prop
  | [], [] => True
  | a :: as, b :: bs => wk a b ∧ Wk as bs
  | _, _ => False
theorem Wk.len : ∀ {S S' : List SlR}, Wk S S' → S.length = S'.length
  | [], [], _ => rfl
  | _ :: _, _ :: _, h => congrArg Nat.succ (Wk.len h.2)
  | [], _ :: _, h => h.elim
  | _ :: _, [], h => h.elim
theorem Wk.at : ∀ {S S' : List SlR} {i : Nat} {r' : SlR}, Wk S S' → S'[i]? = some r' → ∃ r, S[i]? = some r ∧ wk r r'
  | [], [], _, _, _, h => by simp at h
  | a :: _, b :: _, 0, r', w, h => by
    simp at h
    subst h
    exact ⟨a, rfl, w.1⟩
  | _ :: _, _ :: _, i + 1, r', w, h => by
    obtain ⟨r, h1, h2⟩ := Wk.at (i := i) w.2 (by simpa using h)
    exact ⟨r, by simpa using h1, h2⟩
  | [], _ :: _, _, _, w, _ => w.elim
  | _ :: _, [], _, _, w, _ => w.elim
theorem EnvR.wk {S S' : List SlR} {e : En} (h : EnvR S e) (w : Wk S S') : EnvR S' e := by
  refine ⟨by rw [← w.len, h.len], fun i r' hi => ?_⟩
  obtain ⟨r, h1, h2⟩ := w.at hi
  obtain ⟨s, h3, h4⟩ := h.at h1
  exact ⟨s, h3, wk_rel h2 h4⟩
theorem wkn : Wk [] [] := trivial
theorem wkc {a b : SlR} {as bs : List SlR} (h : Mr.wk a b) (h2 : Wk as bs) : Wk (a :: as) (b :: bs) := ⟨h, h2⟩
theorem wk_refl (r : SlR) : Mr.wk r r := by
  cases r with
  | j => trivial
  | q => trivial
  | d x => rfl
  | m w o => cases w <;> rfl
  | f a => rfl
theorem Wk.refl : ∀ (S : List SlR), (∀ r ∈ S, Mr.wk r r) → Wk S S
  | [], _ => trivial
  | a :: as, h => ⟨h a List.mem_cons_self, Wk.refl as fun r hr => h r (List.mem_cons_of_mem _ hr)⟩

theorem wkr (S : List SlR) : Wk S S := Wk.refl S fun r _ => wk_refl r
/-! ### what an expression comes to -/
inductive RV where
  | v (d : PyData)
  | o (o : Ob)
  | p (i : Nat)
  | fn (a : Addr)
def RVRel : RV → RD → Prop
  | .v d, r => r = .val d ∨ ∃ o, r = .own o ∧ o.d = d
  | .o o, r => r = .own o
  | .p i, r => r = .pl i
  | .fn a, r => r = .fn a
/-- read -/
def rvd (S : List SlR) : RV → Option PyData
  | .v d => some d
  | .o o => some o.d
  | .p i => match S[i]? with
    | some (.d x) => some x
    | some (.m _ o) => some o.d
    | _ => none
  | .fn _ => none
def rvds (S : List SlR) : List RV → Option (List PyData)
  | [] => some []
  | r :: rs => match rvd S r, rvds S rs with
    | some d, some ds => some (d :: ds)
    | _, _ => none
/-- laid fast -/
def rvz (S : List SlR) : RV → Option (PyData × List SlR)
  | .v d => some (d, S)
  | .o o => some (o.d, S)
  | .p i => match S[i]? with
    | some (.d x) => some (x, S)
    | some (.m true o) => some (o.d, S.set i (.d o.d))
    | _ => none
  | .fn _ => none
def rvzs : List RV → List SlR → Option (List PyData × List SlR)
  | [], S => some ([], S)
  | r :: rs, S => match rvz S r with
    | none => none
    | some (d, S1) => match rvzs rs S1 with
      | none => none
      | some (ds, S2) => some (d :: ds, S2)
inductive RVs : List RV → List RD → Prop
  | nil : RVs [] []
  | cons {v : RV} {r : RD} {vs : List RV} {rs : List RD} : RVRel v r → RVs vs rs → RVs (v :: vs) (r :: rs)
section
variable {S S1 : List SlR} {e : En}
theorem rvd_ok {v : RV} {r : RD} {d : PyData} (h : EnvR S e) (hr : RVRel v r) (hd : rvd S v = some d) : rslv e r = some d := by
  cases v with
  | v x =>
    cases hd
    rcases hr with rfl | ⟨o, rfl, rfl⟩ <;> rfl
  | o o =>
    cases hd
    cases (show r = .own o from hr)
    rfl
  | p i =>
    cases (show r = .pl i from hr)
    unfold rvd at hd
    unfold rslv
    simp only at hd ⊢
    cases q : S[i]? with
    | none => rw [q] at hd; cases hd
    | some s =>
      obtain ⟨s', h1, h2⟩ := h.at q
      rw [q] at hd
      rw [h1]
      cases s with
      | d x => cases (show s' = .d x from h2); exact hd
      | m w o => cases (show s' = .m w o from h2); exact hd
      | _ => cases hd
  | fn a => cases hd
theorem rvds_ok : ∀ {vs : List RV} {rs : List RD} {ds : List PyData}, EnvR S e → RVs vs rs → rvds S vs = some ds → rslvs e rs = some ds
  | _, _, _, _, .nil, hd => by
    cases hd
    rfl
  | v :: vs, r :: rs, ds, h, .cons h1 h2, hd => by
    unfold rvds at hd
    split at hd
    · rename_i d ds' e1 e2
      cases hd
      unfold rslvs
      rw [rvd_ok h h1 e1, rvds_ok h h2 e2]
    · cases hd
theorem rvz_ok {v : RV} {r : RD} {d : PyData} (h : EnvR S e) (hr : RVRel v r) (hd : rvz S v = some (d, S1)) : ∃ e1, frzR r e = some (d, e1) ∧ EnvR S1 e1 ∧ e1.length = e.length := by
  cases v with
  | v x =>
    cases hd
    rcases hr with rfl | ⟨o, rfl, rfl⟩ <;> exact ⟨e, rfl, h, rfl⟩
  | o o =>
    cases hd
    cases (show r = .own o from hr)
    exact ⟨e, rfl, h, rfl⟩
  | p i =>
    cases (show r = .pl i from hr)
    unfold rvz at hd
    unfold frzR
    simp only at hd ⊢
    cases q : S[i]? with
    | none => rw [q] at hd; cases hd
    | some s =>
      obtain ⟨s', h1, h2⟩ := h.at q
      rw [q] at hd
      rw [h1]
      cases s with
      | d x =>
        cases (show s' = .d x from h2)
        cases hd
        exact ⟨e, rfl, h, rfl⟩
      | m w o =>
        cases (show s' = .m w o from h2)
        cases w with
        | true =>
          cases hd
          exact ⟨_, rfl, h.set i rfl, List.length_set⟩
        | false => cases hd
      | _ => cases hd
  | fn a => cases hd
theorem rvzs_ok : ∀ {vs : List RV} {rs : List RD} {S S1 : List SlR} {e : En} {ds : List PyData}, EnvR S e → RVs vs rs → rvzs vs S = some (ds, S1) → ∃ e1, frzs rs e = some (ds, e1) ∧ EnvR S1 e1 ∧ e1.length = e.length
  | _, _, _, _, _, _, h, .nil, hd => by
    cases hd
    exact ⟨_, rfl, h, rfl⟩
  | v :: vs, r :: rs, S, S1, e, ds, h, .cons h1 h2, hd => by
    unfold rvzs at hd
    split at hd
    · cases hd
    · rename_i d S2 e1
      split at hd
      · cases hd
      · rename_i ds' S3 e2
        cases hd
        obtain ⟨e3, q1, q2, q3⟩ := rvz_ok h h1 e1
        obtain ⟨e4, q4, q5, q6⟩ := rvzs_ok q2 h2 e2
        refine ⟨e4, ?_, q5, q6.trans q3⟩
        unfold frzs
        rw [q1]
        simp only [q4]
end

/-! ### results of operations -/
structure RF (γ : Type) where
  pr : RD → Option γ
  rv : γ → RV
  ok : ∀ r a, pr r = some a → RVRel (rv a) r
def rfD : RF PyData := ⟨fun r => match r with
  | .val d => some d
  | .own o => some o.d
  | _ => none, RV.v, fun r a h => by
  cases r with
  | val d => cases h; exact .inl rfl
  | own o => cases h; exact .inr ⟨o, rfl, rfl⟩
  | _ => cases h⟩
def rfL : RF (List PyData) := ⟨fun r => match r with
  | .own (.lst xs) => some xs
  | _ => none, fun xs => RV.o (.lst xs), fun r a h => by
  cases r with
  | own o =>
    cases o with
    | lst xs => cases h; rfl
    | dct t kvs => cases h
  | _ => cases h⟩
def rfK (t : Bool) : RF (List (PyData × PyData)) := ⟨fun r => match r with
  | .own (.dct t' kvs) => if t' = t then some kvs else none
  | _ => none, fun xs => RV.o (.dct t xs), fun r a h => by
  cases r with
  | own o =>
    cases o with
    | lst xs => cases h
    | dct t' kvs =>
      simp only at h
      split at h
      · rename_i e
        cases h
        subst e
        rfl
      · cases h
  | _ => cases h⟩
def bR {γ β : Type} (F : RF γ) (o : Option RD) (k : γ → Y β) : Y β := match o with
  | some r => bQ (F.pr r) k
  | none => none
abbrev bO {β : Type} (o : Option RD) (k : PyData → Y β) : Y β := bR rfD o k
abbrev bOL {β : Type} (o : Option RD) (k : List PyData → Y β) : Y β := bR rfL o k
abbrev bOK {β : Type} (t : Bool) (o : Option RD) (k : List (PyData × PyData) → Y β) : Y β := bR (rfK t) o k
theorem bR_some {γ β : Type} {F : RF γ} {o : Option RD} {k : γ → Y β} {q : Rs β} (h : bR F o k = some q) : ∃ r a, o = some r ∧ RVRel (F.rv a) r ∧ k a = some q := by
  unfold bR at h
  split at h
  · obtain ⟨a, h1, h2⟩ := bQ_some h
    exact ⟨_, a, rfl, F.ok _ _ h1, h2⟩
  · cases h

/-! ### the judgements -/
section
variable {β : Type}
abbrev KX (β : Type) := RV → List SlR → Y β → Prop
abbrev KE (β : Type) := Str → List SlR → Y β → Prop
structure KS (β : Type) where
  n : List SlR → Y β → Prop
  r : KX β
  b : List SlR → Y β → Prop
  c : List SlR → Y β → Prop
  x : KE β
def HX {α : Type} (A : Type) (Rel : A → α → Prop) (n : Nat) (o : Option (Ou α)) (E : KE β) (K : A → List SlR → Y β → Prop) (q : Rs β) : Prop := match o with
  | some (.ok r e) => e.length = n ∧ ∃ v S m, EnvR S e ∧ Rel v r ∧ K v S m ∧ m = some q
  | some (.ex c e) => e.length = n ∧ ∃ S m, EnvR S e ∧ E c S m ∧ m = some q
  | none => False
def JX (f : M RD) (S : List SlR) (E : KE β) (K : KX β) (m : Y β) : Prop := ∀ e, EnvR S e → ∀ q, m = some q → HX RV RVRel e.length (f e) E K q
def JA (fs : List (M RD)) (S : List SlR) (E : KE β) (K : List RV → List SlR → Y β → Prop) (m : Y β) : Prop := ∀ e, EnvR S e → ∀ q, m = some q → HX (List RV) RVs e.length (fArgs fs e) E K q
def JT (f : M Bool) (S : List SlR) (E : KE β) (K : Bool → List SlR → Y β → Prop) (m : Y β) : Prop := ∀ e, EnvR S e → ∀ q, m = some q → HX Bool Eq e.length (f e) E K q
def JI (f : M (List PyData)) (S : List SlR) (E : KE β) (K : List PyData → List SlR → Y β → Prop) (m : Y β) : Prop := ∀ e, EnvR S e → ∀ q, m = some q → HX (List PyData) Eq e.length (f e) E K q
def JP (f : Option (M RD)) (S : List SlR) (E : KE β) (K : Option Int → List SlR → Y β → Prop) (m : Y β) : Prop := ∀ e, EnvR S e → ∀ q, m = some q → HX (Option Int) Eq e.length (fPart f e) E K q
def JG (g : PyData → En → Option En) (d : PyData) (S : List SlR) (K : List SlR → Y β → Prop) (m : Y β) : Prop := ∀ e, EnvR S e → ∀ q, m = some q → ∃ e1 S1 m1, g d e = some e1 ∧ e1.length = e.length ∧ EnvR S1 e1 ∧ K S1 m1 ∧ m1 = some q
def HS (n : Nat) (o : Option Fl) (K : KS β) (q : Rs β) : Prop := match o with
  | some (.nx e) => e.length = n ∧ ∃ S m, EnvR S e ∧ K.n S m ∧ m = some q
  | some (.rt r e) => e.length = n ∧ ∃ v S m, EnvR S e ∧ RVRel v r ∧ K.r v S m ∧ m = some q
  | some (.bk e) => e.length = n ∧ ∃ S m, EnvR S e ∧ K.b S m ∧ m = some q
  | some (.ct e) => e.length = n ∧ ∃ S m, EnvR S e ∧ K.c S m ∧ m = some q
  | some (.ex c e) => e.length = n ∧ ∃ S m, EnvR S e ∧ K.x c S m ∧ m = some q
  | none => False
def JS (f : MS) (S : List SlR) (K : KS β) (m : Y β) : Prop := ∀ e, EnvR S e → ∀ q, m = some q → HS e.length (f e) K q

variable {S : List SlR} {E : KE β} {K : KX β} {m : Y β}
/-- first f, then what k does with it -/
theorem hx_bnd {A B α α' : Type} {R : A → α → Prop} {R' : B → α' → Prop} {n : Nat} {o : Option (Ou α)} {K1 : A → List SlR → Y β → Prop} {K2 : B → List SlR → Y β → Prop} {k : α → En → Option (Ou α')} {q : Rs β}
    (h : HX A R n o E K1 q) (hk : ∀ r e v S m, e.length = n → EnvR S e → R v r → K1 v S m → m = some q → HX B R' e.length (k r e) E K2 q) : HX B R' n (bnd o k) E K2 q := by
  unfold HX at h
  split at h
  · rename_i r e
    obtain ⟨h0, v, S, m, h1, h2, h3, h4⟩ := h
    have z := hk r e v S m h0 h1 h2 h3 h4
    rw [h0] at z
    exact z
  · exact h
  · exact h.elim
theorem hs_bnd {A α : Type} {R : A → α → Prop} {n : Nat} {o : Option (Ou α)} {K1 : A → List SlR → Y β → Prop} {K2 : KS β} {k : α → En → Option Fl} {q : Rs β}
    (h : HX A R n o K2.x K1 q) (hk : ∀ r e v S m, e.length = n → EnvR S e → R v r → K1 v S m → m = some q → HS e.length (k r e) K2 q) : HS n (bndS o k) K2 q := by
  unfold HX at h
  split at h
  · rename_i r e
    obtain ⟨h0, v, S, m, h1, h2, h3, h4⟩ := h
    have z := hk r e v S m h0 h1 h2 h3 h4
    rw [h0] at z
    exact z
  · exact h
  · exact h.elim
theorem hx_v {d : PyData} {e : En} {q : Rs β} (he : EnvR S e) (k : K (.v d) S m) (hq : m = some q) : HX RV RVRel e.length (some (.ok (.val d) e)) E K q := ⟨rfl, .v d, S, m, he, Or.inl rfl, k, hq⟩
theorem hx_p {i : Nat} {e : En} {q : Rs β} (he : EnvR S e) (k : K (.p i) S m) (hq : m = some q) : HX RV RVRel e.length (some (.ok (.pl i) e)) E K q := ⟨rfl, .p i, S, m, he, rfl, k, hq⟩
theorem hx_f {a : Addr} {e : En} {q : Rs β} (he : EnvR S e) (k : K (.fn a) S m) (hq : m = some q) : HX RV RVRel e.length (some (.ok (.fn a) e)) E K q := ⟨rfl, .fn a, S, m, he, rfl, k, hq⟩
theorem hx_o {o : Ob} {e : En} {q : Rs β} (he : EnvR S e) (k : K (.o o) S m) (hq : m = some q) : HX RV RVRel e.length (some (.ok (.own o) e)) E K q := ⟨rfl, .o o, S, m, he, rfl, k, hq⟩
/-! variables, constants -/
theorem jx_d {i : Nat} {x : PyData} (h : S[i]? = some (.d x)) (k : K (.v x) S m) : JX (fVar i) S E K m := fun e he q hq => by
  obtain ⟨s, h1, h2⟩ := he.at h
  cases (show s = .d x from h2)
  unfold fVar
  rw [h1]
  exact hx_v he k hq
theorem jx_m {i : Nat} {w : Bool} {o : Ob} (h : S[i]? = some (.m w o)) (k : K (.p i) S m) : JX (fVar i) S E K m := fun e he q hq => by
  obtain ⟨s, h1, h2⟩ := he.at h
  cases (show s = .m w o from h2)
  unfold fVar
  rw [h1]
  exact hx_p he k hq
theorem jx_f {i : Nat} {a : Addr} (h : S[i]? = some (.f a)) (k : K (.fn a) S m) : JX (fVar i) S E K m := fun e he q hq => by
  obtain ⟨s, h1, h2⟩ := he.at h
  cases (show s = .f a from h2)
  unfold fVar
  rw [h1]
  exact hx_f he k hq
theorem jx_val {d : PyData} (k : K (.v d) S m) : JX (fVal d) S E K m := fun e he q hq => hx_v he k hq
theorem jx_fnG {a : Addr} (k : K (.fn a) S m) : JX (fFnG a) S E K m := fun e he q hq => hx_f he k hq
theorem jx_dnw {t : Bool} (k : K (.o (.dct t [])) S m) : JX (fDnw t) S E K m := fun e he q hq => hx_o he k hq
/-- what is done with an operation's result -/
def KO {γ : Type} (F : RF γ) (o : Option RD) (S : List SlR) (K : KX β) (m : Y β) : Prop := ∃ k, m = bR F o k ∧ ∀ a, K (F.rv a) S (k a)
theorem ko_ok {γ : Type} {F : RF γ} {o : Option RD} {e : En} {q : Rs β} (h : KO F o S K m) (he : EnvR S e) (hq : m = some q) : HX RV RVRel e.length (rok o e) E K q := by
  obtain ⟨k, h1, h2⟩ := h
  rw [h1] at hq
  obtain ⟨r, a, h3, h4, h5⟩ := bR_some hq
  rw [h3]
  exact ⟨rfl, _, _, _, he, h4, h2 a, h5⟩
theorem jx_bin {γ : Type} (F : RF γ) {op : PyData → PyData → Option RD} {fa fb : M RD}
    (h : JX fa S E (fun va S1 m1 => JX fb S1 E (fun vb S2 m2 => ∃ x y, rvd S2 va = some x ∧ rvd S2 vb = some y ∧ KO F (op x y) S2 K m2) m1) m) : JX (fBin op fa fb) S E K m := fun e he q hq =>
  hx_bnd (h e he q hq) fun ra e1 va S1 m1 _ he1 hva h1 hq1 => hx_bnd (h1 e1 he1 q hq1) fun rb e2 vb S2 m2 _ he2 hvb ⟨x, y, hx, hy, ko⟩ hq2 => by
    simp only [rvd_ok he2 hva hx, rvd_ok he2 hvb hy]
    exact ko_ok ko he2 hq2
theorem jx_neg {i : Int} (k : K (.v (.int (-i))) S m) : JX (fUn negD (fVal (.int i))) S E K m := fun e he q hq => hx_v he k hq
theorem jx_un {γ : Type} (F : RF γ) {op : PyData → Option RD} {fa : M RD}
    (h : JX fa S E (fun va S1 m1 => ∃ x, rvd S1 va = some x ∧ KO F (op x) S1 K m1) m) : JX (fUn op fa) S E K m := fun e he q hq =>
  hx_bnd (h e he q hq) fun ra e1 va S1 m1 _ he1 hva ⟨x, hx, ko⟩ hq1 => by
    simp only [rvd_ok he1 hva hx]
    exact ko_ok ko he1 hq1
theorem jx_isi {Ts : List String} {fa : M RD}
    (h : JX fa S E (fun va S1 m1 => ∃ x, rvd S1 va = some x ∧ K (.v (.bool (anyT Ts x))) S1 m1) m) : JX (fIsi Ts fa) S E K m := fun e he q hq =>
  hx_bnd (h e he q hq) fun ra e1 va S1 m1 _ he1 hva ⟨x, hx, k⟩ hq1 => by
    simp only [rvd_ok he1 hva hx]
    exact hx_v he1 k hq1
theorem val_bool {r : RD} {d : PyData} {c : Bool} (h : RVRel (.v d) r) (e : d = .bool c) : r = .val (.bool c) := by
  rcases h with rfl | ⟨o, rfl, z⟩
  · rw [e]
  · rw [← z] at e
    cases o <;> cases e
theorem bB_some {γ : Type} {d : PyData} {k : Bool → Y γ} {q : Rs γ} (h : bB d k = some q) : ∃ c, d = .bool c ∧ k c = some q := by
  unfold bB at h
  split at h
  · exact ⟨_, rfl, h⟩
  · cases h
theorem bI_some {γ : Type} {d : PyData} {k : Int → Y γ} {q : Rs γ} (h : bI d k = some q) : ∃ c, d = .int c ∧ k c = some q := by
  unfold bI at h
  split at h
  · exact ⟨_, rfl, h⟩
  · cases h
theorem jx_notV {fa : M RD} (h : JX fa S E (fun va S1 m1 => ∃ d k, va = .v d ∧ m1 = bB d k ∧ ∀ c, K (.v (.bool (!c))) S1 (k c)) m) : JX (fNotV fa) S E K m := fun e he q hq =>
  hx_bnd (h e he q hq) fun ra e1 va S1 m1 _ he1 hva ⟨d, k, e2, e3, hk⟩ hq1 => by
    subst e2
    rw [e3] at hq1
    obtain ⟨c, e4, hq2⟩ := bB_some hq1
    rw [val_bool hva e4]
    exact hx_v he1 (hk c) hq2
theorem jx_andV {fa fb : M RD} (h : JX fa S E (fun va S1 m1 => ∃ d, va = .v d ∧ ∃ mT mF, m1 = (bB d fun c => if c = true then mT else mF) ∧ JX fb S1 E K mT ∧ K (.v (.bool false)) S1 mF) m) : JX (fAndV fa fb) S E K m := fun e he q hq =>
  hx_bnd (h e he q hq) fun ra e1 va S1 m1 _ he1 hva ⟨d, e2, mT, mF, e3, h1, h2⟩ hq1 => by
    subst e2
    rw [e3] at hq1
    obtain ⟨c, e4, hq2⟩ := bB_some hq1
    rw [val_bool hva e4]
    cases c with
    | true => exact h1 e1 he1 q hq2
    | false => exact hx_v he1 h2 hq2
theorem jx_orV {fa fb : M RD} (h : JX fa S E (fun va S1 m1 => ∃ d, va = .v d ∧ ∃ mT mF, m1 = (bB d fun c => if c = true then mT else mF) ∧ K (.v (.bool true)) S1 mT ∧ JX fb S1 E K mF) m) : JX (fOrV fa fb) S E K m := fun e he q hq =>
  hx_bnd (h e he q hq) fun ra e1 va S1 m1 _ he1 hva ⟨d, e2, mT, mF, e3, h1, h2⟩ hq1 => by
    subst e2
    rw [e3] at hq1
    obtain ⟨c, e4, hq2⟩ := bB_some hq1
    rw [val_bool hva e4]
    cases c with
    | true => exact hx_v he1 h1 hq2
    | false => exact h2 e1 he1 q hq2
theorem jx_if {c : M Bool} {fa fb : M RD} (h : JT c S E (fun t S1 m1 => ∃ mT mF, m1 = (if t = true then mT else mF) ∧ JX fa S1 E K mT ∧ JX fb S1 E K mF) m) : JX (fIf c fa fb) S E K m := fun e he q hq =>
  hx_bnd (h e he q hq) fun t e1 t' S1 m1 _ he1 ht ⟨mT, mF, e3, h1, h2⟩ hq1 => by
    subst ht
    rw [e3] at hq1
    cases t' with
    | true => exact h1 e1 he1 q hq1
    | false => exact h2 e1 he1 q hq1
theorem jx_chn {γ : Type} (F : RF γ) {op op' : PyData → PyData → Option RD} {fa fb fc : M RD}
    (h : JX fa S E (fun va S1 m1 => JX fb S1 E (fun vb S2 m2 => ∃ x y, rvd S2 va = some x ∧ rvd S2 vb = some y ∧ ∃ k, m2 = bO (op x y) k ∧ ∀ d, ∃ mT mF, k d = (bB d fun c => if c = true then mT else mF) ∧
      JX fc S2 E (fun vc S3 m3 => ∃ y' z, rvd S3 vb = some y' ∧ rvd S3 vc = some z ∧ KO F (op' y' z) S3 K m3) mT ∧ K (.v (.bool false)) S2 mF) m1) m) : JX (fChn op op' fa fb fc) S E K m := fun e he q hq =>
  hx_bnd (h e he q hq) fun ra e1 va S1 m1 _ he1 hva h1 hq1 => hx_bnd (h1 e1 he1 q hq1) fun rb e2 vb S2 m2 _ he2 hvb ⟨x, y, hx, hy, k, e3, hk⟩ hq2 => by
    rw [e3] at hq2
    obtain ⟨r, a, h3, h4, h5⟩ := bR_some hq2
    obtain ⟨mT, mF, e4, h6, h7⟩ := hk a
    rw [e4] at h5
    obtain ⟨c, e5, h8⟩ := bB_some h5
    have e6 := val_bool h4 e5
    subst e6
    simp only [rvd_ok he2 hva hx, rvd_ok he2 hvb hy, h3]
    cases c with
    | true =>
      refine hx_bnd (h6 e2 he2 q h8) fun rc e3 vc S3 m3 _ he3 hvc ⟨y', z, hy', hz, ko⟩ hq3 => ?_
      simp only [rvd_ok he3 hvb hy', rvd_ok he3 hvc hz]
      exact ko_ok ko he3 hq3
    | false => exact hx_v he2 h7 h8
/-! tests -/
section
variable {KT : Bool → List SlR → Y β → Prop}
theorem jt_b {f : M RD} (h : JX f S E (fun va S1 m1 => ∃ d k, va = .v d ∧ m1 = bB d k ∧ ∀ c, KT c S1 (k c)) m) : JT (fB f) S E KT m := fun e he q hq =>
  hx_bnd (h e he q hq) fun ra e1 va S1 m1 _ he1 hva ⟨d, k, e2, e3, hk⟩ hq1 => by
    subst e2
    rw [e3] at hq1
    obtain ⟨c, e4, hq2⟩ := bB_some hq1
    rw [val_bool hva e4]
    exact ⟨rfl, _, _, _, he1, rfl, hk c, hq2⟩
theorem jt_tru {f : M RD} (h : JX f S E (fun va S1 m1 => ∃ d k, rvd S1 va = some d ∧ m1 = bQ (truD d) k ∧ ∀ c, KT c S1 (k c)) m) : JT (fTru f) S E KT m := fun e he q hq =>
  hx_bnd (h e he q hq) fun ra e1 va S1 m1 _ he1 hva ⟨d, k, e2, e3, hk⟩ hq1 => by
    rw [e3] at hq1
    obtain ⟨c, e4, hq2⟩ := bQ_some hq1
    simp only [rvd_ok he1 hva e2, e4]
    exact ⟨rfl, _, _, _, he1, rfl, hk c, hq2⟩
theorem jt_not {f : M Bool} (h : JT f S E (fun c S1 m1 => KT (!c) S1 m1) m) : JT (fNot f) S E KT m := fun e he q hq =>
  hx_bnd (h e he q hq) fun c e1 c' S1 m1 _ he1 hc hk hq1 => by
    subst hc
    exact ⟨rfl, _, _, _, he1, rfl, hk, hq1⟩
theorem jt_and {f g : M Bool} (h : JT f S E (fun c S1 m1 => ∃ mT mF, m1 = (if c = true then mT else mF) ∧ JT g S1 E KT mT ∧ KT false S1 mF) m) : JT (fAnd f g) S E KT m := fun e he q hq =>
  hx_bnd (h e he q hq) fun c e1 c' S1 m1 _ he1 hc ⟨mT, mF, e3, h1, h2⟩ hq1 => by
    subst hc
    rw [e3] at hq1
    cases c' with
    | true => exact h1 e1 he1 q hq1
    | false => exact ⟨rfl, _, _, _, he1, rfl, h2, hq1⟩
theorem jt_or {f g : M Bool} (h : JT f S E (fun c S1 m1 => ∃ mT mF, m1 = (if c = true then mT else mF) ∧ KT true S1 mT ∧ JT g S1 E KT mF) m) : JT (fOr f g) S E KT m := fun e he q hq =>
  hx_bnd (h e he q hq) fun c e1 c' S1 m1 _ he1 hc ⟨mT, mF, e3, h1, h2⟩ hq1 => by
    subst hc
    rw [e3] at hq1
    cases c' with
    | true => exact ⟨rfl, _, _, _, he1, rfl, h1, hq1⟩
    | false => exact h2 e1 he1 q hq1
theorem jt_yes (k : KT true S m) : JT fYes S E KT m := fun e he q hq => ⟨rfl, _, _, _, he, rfl, k, hq⟩
end
/-! cuts -/
theorem hx_cut {A α τ : Type} {R : A → α → Prop} {n : Nat} {o : Option (Ou α)} {K : A → List SlR → Y β → Prop} {m1 : Y τ} {k : τ → Y β} {q : Rs β} (V : τ → A) (T : τ → List SlR)
    (h : ∀ q', m1 = some q' → HX A R n o (fun c S' m' => m' = exY c ∧ E c S' (exY c)) (fun v S' m' => ∃ s, m' = okY s ∧ (∀ r, R v r → R (V s) r) ∧ Wk S' (T s)) q') (hk : ∀ s, K (V s) (T s) (k s)) (hq : bY m1 k = some q) : HX A R n o E K q := by
  rcases bY_some hq with ⟨a, e1, e2⟩ | ⟨c, e1, e2⟩
  · have z := h _ e1
    unfold HX at z ⊢
    split at z
    · obtain ⟨h0, v, S, m, h1, h2, ⟨s, h3, h4, h5⟩, h6⟩ := z
      rw [h3] at h6
      cases h6
      exact ⟨h0, _, _, _, h1.wk h5, h4 _ h2, hk _, e2⟩
    · obtain ⟨_, _, _, _, ⟨h2, _⟩, h3⟩ := z
      rw [h2] at h3
      cases h3
    · exact z.elim
  · have z := h _ e1
    unfold HX at z ⊢
    split at z
    · obtain ⟨_, _, _, _, _, _, ⟨s, h3, _, _⟩, h6⟩ := z
      rw [h3] at h6
      cases h6
    · obtain ⟨h0, S, m, h1, ⟨h2, h4⟩, h3⟩ := z
      rw [h2] at h3
      cases h3
      rw [e2]
      exact ⟨h0, _, _, h1, h4, rfl⟩
    · exact z.elim
def rle (v v' : RV) : Prop := v = v' ∨ ∃ o, v = .o o ∧ v' = .v o.d
theorem rle_rel {v v' : RV} (h : rle v v') {r : RD} (hr : RVRel v r) : RVRel v' r := by
  rcases h with rfl | ⟨o, rfl, rfl⟩
  · exact hr
  · exact Or.inr ⟨o, hr, rfl⟩
theorem rl {v : RV} : rle v v := Or.inl rfl
theorem ro {o : Ob} : rle (.o o) (.v o.d) := Or.inr ⟨o, rfl, rfl⟩
theorem jx_cut {τ : Type} {f : M RD} {m1 : Y τ} {k : τ → Y β} (V : τ → RV) (T : τ → List SlR)
    (h : JX f S (fun c S' m' => m' = exY c ∧ E c S' (exY c)) (fun v S' m' => ∃ s, m' = okY s ∧ rle v (V s) ∧ Wk S' (T s)) m1) (hk : ∀ s, K (V s) (T s) (k s)) : JX f S E K (bY m1 k) := fun e he q hq =>
  hx_cut V T (fun q' hq' => by
    have z := h e he q' hq'
    unfold HX at z ⊢
    split at z
    · obtain ⟨h0, v, S, m, h1, h2, ⟨s, h3, h4, h5⟩, h6⟩ := z
      exact ⟨h0, v, S, m, h1, h2, ⟨s, h3, fun r hr => rle_rel h4 hr, h5⟩, h6⟩
    · exact z
    · exact z) hk hq
theorem jt_cut {τ : Type} {f : M Bool} {KT : Bool → List SlR → Y β → Prop} {m1 : Y τ} {k : τ → Y β} (V : τ → Bool) (T : τ → List SlR)
    (h : JT f S (fun c S' m' => m' = exY c ∧ E c S' (exY c)) (fun v S' m' => ∃ s, m' = okY s ∧ v = V s ∧ Wk S' (T s)) m1) (hk : ∀ s, KT (V s) (T s) (k s)) : JT f S E KT (bY m1 k) := fun e he q hq =>
  hx_cut V T (fun q' hq' => by
    have z := h e he q' hq'
    unfold HX at z ⊢
    split at z
    · obtain ⟨h0, v, S, m, h1, h2, ⟨s, h3, h4, h5⟩, h6⟩ := z
      exact ⟨h0, v, S, m, h1, h2, ⟨s, h3, fun r hr => h4 ▸ hr, h5⟩, h6⟩
    · exact z
    · exact z) hk hq
end
end Mr
namespace Mr
open PySem PySem.Spec PyProof.Rows L2 Pv
section
variable {β : Type} {S : List SlR} {E : KE β} {K : KX β} {m : Y β}
/-! arguments -/
section
variable {KA : List RV → List SlR → Y β → Prop}
theorem ja_nil (k : KA [] S m) : JA [] S E KA m := fun e he q hq => ⟨rfl, [], S, m, he, .nil, k, hq⟩
theorem ja_cons {f : M RD} {fs : List (M RD)} (h : JX f S E (fun rv S1 m1 => JA fs S1 E (fun rvs => KA (rv :: rvs)) m1) m) : JA (f :: fs) S E KA m := fun e he q hq =>
  hx_bnd (h e he q hq) fun r e1 v S1 m1 _ he1 hv h1 hq1 => hx_bnd (h1 e1 he1 q hq1) fun rs e2 vs S2 m2 _ he2 hvs k hq2 => ⟨rfl, v :: vs, S2, m2, he2, .cons hv hvs, k, hq2⟩
end
theorem jx_call {γ : Type} (F : RF γ) {op : List PyData → Option RD} {fs : List (M RD)} (h : JA fs S E (fun rvs S1 m1 => ∃ ds, rvds S1 rvs = some ds ∧ KO F (op ds) S1 K m1) m) : JX (fCall op fs) S E K m := fun e he q hq =>
  hx_bnd (h e he q hq) fun rs e1 vs S1 m1 _ he1 hvs ⟨ds, hd, ko⟩ hq1 => by
    simp only [rvds_ok he1 hvs hd]
    exact ko_ok ko he1 hq1
theorem ble_lim {n : Nat} (h : Nat.ble n 1000 = true) : n ≤ lim := Nat.le_trans (Nat.le_of_ble_eq_true h) (by decide)
theorem jx_lst {fs : List (M RD)} (h : JA fs S E (fun rvs S1 m1 => ∃ ds S2, rvzs rvs S1 = some (ds, S2) ∧ Nat.ble ds.length 1000 = true ∧ K (.o (.lst ds)) S2 m1) m) : JX (fLst fs) S E K m := fun e he q hq =>
  hx_bnd (h e he q hq) fun rs e1 vs S1 m1 _ he1 hvs ⟨ds, S2, hd, hl, k⟩ hq1 => by
    obtain ⟨e2, h2, h3, h4⟩ := rvzs_ok he1 hvs hd
    simp only [h2, if_pos (ble_lim hl)]
    rw [← h4]
    exact hx_o h3 k hq1
theorem jx_tup {fs : List (M RD)} (h : JA fs S E (fun rvs S1 m1 => ∃ ds S2, rvzs rvs S1 = some (ds, S2) ∧ Nat.ble ds.length 1000 = true ∧ K (.v (.tuple ds)) S2 m1) m) : JX (fTup fs) S E K m := fun e he q hq =>
  hx_bnd (h e he q hq) fun rs e1 vs S1 m1 _ he1 hvs ⟨ds, S2, hd, hl, k⟩ hq1 => by
    obtain ⟨e2, h2, h3, h4⟩ := rvzs_ok he1 hvs hd
    simp only [h2, if_pos (ble_lim hl)]
    rw [← h4]
    exact hx_v h3 k hq1
/-! slices -/
theorem jp_none {KP : Option Int → List SlR → Y β → Prop} (k : KP none S m) : JP none S E KP m := fun e he q hq => ⟨rfl, none, S, m, he, rfl, k, hq⟩
theorem val_int {r : RD} {d : PyData} {c : Int} (h : RVRel (.v d) r) (e : d = .int c) : r = .val (.int c) := by
  rcases h with rfl | ⟨o, rfl, z⟩
  · rw [e]
  · rw [← z] at e
    cases o <;> cases e
theorem jp_some {KP : Option Int → List SlR → Y β → Prop} {f : M RD} (h : JX f S E (fun va S1 m1 => ∃ d k, va = .v d ∧ m1 = bI d k ∧ ∀ i, KP (some i) S1 (k i)) m) : JP (some f) S E KP m := fun e he q hq =>
  hx_bnd (h e he q hq) fun r e1 v S1 m1 _ he1 hv ⟨d, k, e2, e3, hk⟩ hq1 => by
    subst e2
    rw [e3] at hq1
    obtain ⟨c, e4, hq2⟩ := bI_some hq1
    rw [val_int hv e4]
    exact ⟨rfl, some c, S1, k c, he1, rfl, hk c, hq2⟩
theorem jp_lit {KP : Option Int → List SlR → Y β → Prop} {i : Int} (k : KP (some i) S m) : JP (some (fVal (.int i))) S E KP m := fun e he q hq => ⟨rfl, some i, S, m, he, rfl, k, hq⟩
theorem jx_sl {γ : Type} (F : RF γ) {f : M RD} {lo hi : Option (M RD)} (h : JX f S E (fun va S1 m1 => JP lo S1 E (fun l S2 m2 => JP hi S2 E (fun hh S3 m3 => ∃ x, rvd S3 va = some x ∧ KO F (slD x l hh) S3 K m3) m2) m1) m) : JX (fSl f lo hi) S E K m := fun e he q hq =>
  hx_bnd (h e he q hq) fun r e1 v S1 m1 _ he1 hv h1 hq1 => hx_bnd (h1 e1 he1 q hq1) fun l e2 l' S2 m2 _ he2 hl h2 hq2 => hx_bnd (h2 e2 he2 q hq2) fun hh e3 h' S3 m3 _ he3 hhh ⟨x, hx, ko⟩ hq3 => by
    subst hl
    subst hhh
    simp only [rvd_ok he3 hv hx]
    exact ko_ok ko he3 hq3
/-! methods -/
theorem bG_some {γ : Type} {c : Bool} {m : Y γ} {q : Rs γ} (h : bG c m = some q) : c = true ∧ m = some q := by
  cases c with
  | true => exact ⟨rfl, h⟩
  | false => cases h
theorem jx_mtd {γ : Type} (F : RF γ) {T : String} {op : PyData → List PyData → Option RD} {f : M RD} {fs : List (M RD)}
    (h : JX f S E (fun va S1 m1 => ∃ x0 m1', rvd S1 va = some x0 ∧ m1 = bG (mtdOk T x0) m1' ∧ JA fs S1 E (fun rvs S2 m2 => ∃ x ds, rvd S2 va = some x ∧ rvds S2 rvs = some ds ∧ KO F (op x ds) S2 K m2) m1') m) : JX (fMtd T op f fs) S E K m := fun e he q hq =>
  hx_bnd (h e he q hq) fun r e1 v S1 m1 _ he1 hv ⟨x0, m1', hx0, e2, h1⟩ hq1 => by
    rw [e2] at hq1
    obtain ⟨h2, hq2⟩ := bG_some hq1
    simp only [rvd_ok he1 hv hx0, if_pos h2]
    refine hx_bnd (h1 e1 he1 q hq2) fun rs e3 vs S2 m2 _ he2 hvs ⟨x, ds, hx, hds, ko⟩ hq3 => ?_
    simp only [rvd_ok he2 hv hx, rvds_ok he2 hvs hds]
    exact ko_ok ko he2 hq3
structure OF (γ : Type) where
  pr : Ob → Option γ
  bd : γ → Ob
  ok : ∀ o a, pr o = some a → o = bd a
def ofL : OF (List PyData) := ⟨fun o => match o with
  | .lst xs => some xs
  | _ => none, Ob.lst, fun o a h => by
  cases o with
  | lst xs => cases h; rfl
  | dct t kvs => cases h⟩
def ofK (t : Bool) : OF (List (PyData × PyData)) := ⟨fun o => match o with
  | .dct t' kvs => if t' = t then some kvs else none
  | _ => none, Ob.dct t, fun o a h => by
  cases o with
  | lst xs => cases h
  | dct t' kvs =>
    simp only at h
    split at h
    · rename_i e
      cases h
      subst e
      rfl
    · cases h⟩
def bC {γ : Type} (F : OF γ) (x : Option (PyData × Ob)) (k : PyData → γ → Y β) : Y β := match x with
  | some (d, o) => bQ (F.pr o) (k d)
  | none => none
def bP {γ : Type} (F : OF γ) (x : Option Ob) (k : γ → Y β) : Y β := match x with
  | some o => bQ (F.pr o) k
  | none => none
theorem jx_mth {γ : Type} (F : OF γ) {l : Bool} {i : Nat} {ch : Ch} {fs : List (M RD)} {w0 : Bool} {o0 : Ob} (h0 : S[i]? = some (.m w0 o0)) (hl : obT o0 = l)
    (h : JA fs S E (fun rvs S1 m1 => ∃ ds S2 w o k, rvzs rvs S1 = some (ds, S2) ∧ S2[i]? = some (.m w o) ∧ m1 = bC F (ch o ds) k ∧ ∀ d a, ∃ S3, S2.set i (.m w (F.bd a)) = S3 ∧ K (.v d) S3 (k d a)) m) : JX (fMth l i ch fs) S E K m := fun e he q hq => by
  obtain ⟨s, h1, h2⟩ := he.at h0
  cases (show s = .m w0 o0 from h2)
  have z : isOb l i e = true := by
    unfold isOb
    rw [h1]
    simp [hl]
  unfold fMth
  rw [if_pos z]
  refine hx_bnd (h e he q hq) fun rs e1 vs S1 m1 _ he1 hvs ⟨ds, S2, w, o, k, hd, hi, e2, hk⟩ hq1 => ?_
  obtain ⟨e3, h3, h4, h5⟩ := rvzs_ok he1 hvs hd
  obtain ⟨s', h6, h7⟩ := h4.at hi
  cases (show s' = .m w o from h7)
  rw [e2] at hq1
  unfold bC at hq1
  split at hq1
  · rename_i d o' e4
    obtain ⟨a, h8, hq2⟩ := bQ_some hq1
    cases F.ok _ _ h8
    simp only [h3, h6, e4]
    rw [← h5, ← List.length_set (as := e3) (i := i) (a := Sl.m w (F.bd a))]
    obtain ⟨S3, h9, hk'⟩ := hk d a
    subst h9
    exact hx_v (h4.set i (r := .m w (F.bd a)) rfl) hk' hq2
  · cases hq1
/-! calls of defs -/
def GR {α : Type} (n : Nat) (o : Option Fo) (m : Y α) (rv : α → RV) (out : α → En) : Prop := ∀ q, m = some q → match q with
  | .ok a => ∃ r, o = some (.rt r (out a)) ∧ RVRel (rv a) r ∧ isPl r = false ∧ (out a).length = n
  | .ex c => ∃ out', o = some (.ex c out') ∧ out'.length = n
def mvd (v : RV) (mv : List Nat) : Bool := match v with
  | .p i => mv.contains i
  | _ => false
def bindR : List Mo → List RV → List Nat → List SlR → Option (En × List SlR)
  | [], [], _, S => some ([], S)
  | .d :: ms, v :: vs, mv, S => if mvd v mv = true then none else match rvz S v with
    | some (d, S1) => match bindR ms vs mv S1 with
      | some (as, S2) => some (.d d :: as, S2)
      | none => none
    | none => none
  | .m :: ms, v :: vs, mv, S => match v with
    | .p i => if mv.contains i = true then none else match S[i]? with
      | some (.m _ o) => match bindR ms vs (i :: mv) S with
        | some (as, S2) => some (.m false o :: as, S2)
        | none => none
      | _ => none
    | .o o => match bindR ms vs mv S with
      | some (as, S2) => some (.m false o :: as, S2)
      | none => none
    | _ => none
  | .f :: ms, v :: vs, mv, S => match v with
    | .fn a => match bindR ms vs mv S with
      | some (as, S2) => some (.f a :: as, S2)
      | none => none
    | _ => none
  | _, _, _, _ => none
def backR : List Mo → List RV → En → List SlR → Option (List SlR)
  | [], [], [], S => some S
  | .m :: ms, .p i :: vs, .m _ o :: out, S => match S[i]? with
    | some (.m w _) => backR ms vs out (S.set i (.m w o))
    | _ => none
  | .m :: ms, .o _ :: vs, .m _ _ :: out, S => backR ms vs out S
  | .d :: ms, _ :: vs, _ :: out, S => backR ms vs out S
  | .f :: ms, _ :: vs, _ :: out, S => backR ms vs out S
  | _, _, _, _ => none
theorem bind_ok : ∀ {ms : List Mo} {vs : List RV} {rs : List RD} {mv : List Nat} {S S1 : List SlR} {e as : En}, EnvR S e → RVs vs rs → bindR ms vs mv S = some (as, S1) → ∃ e1, bindA ms rs mv e = some (as, e1) ∧ EnvR S1 e1 ∧ e1.length = e.length
  | [], _, _, mv, S, S1, e, as, he, .nil, h => by
    cases h
    exact ⟨e, rfl, he, rfl⟩
  | _ :: _, _, _, mv, S, S1, e, as, he, .nil, h => by
    rename_i mo _
    cases mo <;> cases h
  | [], _, _, mv, S, S1, e, as, he, .cons _ _, h => by cases h
  | .d :: ms, v :: vs, r :: rs, mv, S, S1, e, as, he, .cons hv hvs, h => by
    unfold bindR at h
    split at h
    · cases h
    · rename_i hm
      split at h
      · rename_i d S2 e1
        split at h
        · rename_i as' S3 e2
          cases h
          obtain ⟨e3, h3, h4, h5⟩ := rvz_ok he hv e1
          obtain ⟨e4, h6, h7, h8⟩ := bind_ok h4 hvs e2
          refine ⟨e4, ?_, h7, h8.trans h5⟩
          have z : movedR r mv ≠ true := by
            cases v with
            | v x => rcases hv with rfl | ⟨o, rfl, _⟩ <;> exact Bool.false_ne_true
            | o o => cases (show r = .own o from hv); exact Bool.false_ne_true
            | p i => cases (show r = .pl i from hv); exact hm
            | fn a => cases (show r = .fn a from hv); exact Bool.false_ne_true
          unfold bindA
          rw [if_neg z]
          simp only [h3, h6]
        · cases h
      · cases h
  | .m :: ms, v :: vs, r :: rs, mv, S, S1, e, as, he, .cons hv hvs, h => by
    unfold bindR at h
    split at h
    · rename_i i
      cases (show r = .pl i from hv)
      split at h
      · cases h
      · rename_i hm
        split at h
        · rename_i w o e1
          split at h
          · rename_i as' S3 e2
            cases h
            obtain ⟨s, h1, h2⟩ := he.at e1
            cases (show s = .m w o from h2)
            obtain ⟨e4, h6, h7, h8⟩ := bind_ok he hvs e2
            refine ⟨e4, ?_, h7, h8⟩
            unfold bindA
            simp only
            rw [if_neg hm]
            simp only [h1, h6]
          · cases h
        · cases h
    · rename_i o
      cases (show r = .own o from hv)
      split at h
      · rename_i as' S3 e2
        cases h
        obtain ⟨e4, h6, h7, h8⟩ := bind_ok he hvs e2
        refine ⟨e4, ?_, h7, h8⟩
        unfold bindA
        simp only [h6]
      · cases h
    · cases h
  | .f :: ms, v :: vs, r :: rs, mv, S, S1, e, as, he, .cons hv hvs, h => by
    unfold bindR at h
    split at h
    · rename_i a
      cases (show r = .fn a from hv)
      split at h
      · rename_i as' S3 e2
        cases h
        obtain ⟨e4, h6, h7, h8⟩ := bind_ok he hvs e2
        refine ⟨e4, ?_, h7, h8⟩
        unfold bindA
        simp only [h6]
      · cases h
    · cases h
theorem back_ok : ∀ {ms : List Mo} {vs : List RV} {rs : List RD} {out : En} {S S1 : List SlR} {e : En}, EnvR S e → RVs vs rs → backR ms vs out S = some S1 → ∃ e1, backA ms rs out e = some e1 ∧ EnvR S1 e1 ∧ e1.length = e.length
  | [], _, _, [], S, S1, e, he, .nil, h => by
    cases h
    exact ⟨e, rfl, he, rfl⟩
  | .m :: ms, v :: vs, r :: rs, s :: out, S, S1, e, he, .cons hv hvs, h => by
    cases v with
    | p i =>
      cases (show r = .pl i from hv)
      cases s with
      | m w' o =>
        unfold backR at h
        split at h
        · rename_i w o' e1
          obtain ⟨s, h1, h2⟩ := he.at e1
          cases (show s = .m w o' from h2)
          obtain ⟨e4, h6, h7, h8⟩ := back_ok (he.set i (r := .m w o) (s := .m w o) rfl) hvs h
          refine ⟨e4, ?_, h7, h8.trans List.length_set⟩
          unfold backA
          simp only [h1, h6]
        · cases h
      | _ => cases h
    | o o =>
      cases (show r = .own o from hv)
      cases s with
      | m w' o =>
        obtain ⟨e4, h6, h7, h8⟩ := back_ok (ms := ms) (out := out) he hvs h
        exact ⟨e4, h6, h7, h8⟩
      | _ => cases h
    | _ => cases h
  | .d :: ms, v :: vs, r :: rs, s :: out, S, S1, e, he, .cons hv hvs, h => by
    obtain ⟨e4, h6, h7, h8⟩ := back_ok (ms := ms) (out := out) he hvs h
    exact ⟨e4, h6, h7, h8⟩
  | .f :: ms, v :: vs, r :: rs, s :: out, S, S1, e, he, .cons hv hvs, h => by
    obtain ⟨e4, h6, h7, h8⟩ := back_ok (ms := ms) (out := out) he hvs h
    exact ⟨e4, h6, h7, h8⟩
  | [], _, _, _ :: _, _, _, _, _, .nil, h => by cases h
  | [], _, _, _, _, _, _, _, .cons _ _, h => by cases h
  | mo :: _, _, _, _, _, _, _, _, .nil, h => by cases mo <;> cases h
  | mo :: _, v :: _, _, [], _, _, _, _, .cons _ _, h => by cases mo <;> cases v <;> cases h
/-- no place is handed in to be changed -/
def noM (ms : List Mo) : Bool := ms.all fun mo => match mo with
  | .m => false
  | _ => true
theorem back_noM : ∀ {ms : List Mo} {rs : List RD} {out e : En}, noM ms = true → ms.length = rs.length → out.length = ms.length → backA ms rs out e = some e
  | [], [], [], e, _, _, _ => rfl
  | .m :: _, _, _, _, h, _, _ => by cases h
  | .d :: ms, _ :: rs, _ :: out, e, h, h1, h2 => back_noM (ms := ms) (rs := rs) (out := out) h (Nat.succ.inj h1) (Nat.succ.inj h2)
  | .f :: ms, _ :: rs, _ :: out, e, h, h1, h2 => back_noM (ms := ms) (rs := rs) (out := out) h (Nat.succ.inj h1) (Nat.succ.inj h2)
  | [], [], _ :: _, _, _, _, h => by cases h
  | [], _ :: _, _, _, _, h, _ => by cases h
  | .d :: _, [], _, _, _, h, _ => by cases h
  | .f :: _, [], _, _, _, h, _ => by cases h
  | .d :: _, _ :: _, [], _, _, _, h => by cases h
  | .f :: _, _ :: _, [], _, _, _, h => by cases h
theorem bindA_len : ∀ {ms : List Mo} {rs : List RD} {mv : List Nat} {e e1 as : En}, bindA ms rs mv e = some (as, e1) → ms.length = rs.length ∧ as.length = ms.length
  | [], [], _, _, _, _, h => by
    cases h
    exact ⟨rfl, rfl⟩
  | .d :: ms, r :: rs, mv, e, e1, as, h => by
    unfold bindA at h
    split at h
    · cases h
    · split at h
      · split at h
        · rename_i e3
          cases h
          obtain ⟨h1, h2⟩ := bindA_len e3
          exact ⟨congrArg Nat.succ h1, congrArg Nat.succ h2⟩
        · cases h
      · cases h
  | .m :: ms, r :: rs, mv, e, e1, as, h => by
    unfold bindA at h
    split at h
    · split at h
      · cases h
      · split at h
        · split at h
          · rename_i e3
            cases h
            obtain ⟨h1, h2⟩ := bindA_len e3
            exact ⟨congrArg Nat.succ h1, congrArg Nat.succ h2⟩
          · cases h
        · cases h
    · split at h
      · rename_i e3
        cases h
        obtain ⟨h1, h2⟩ := bindA_len e3
        exact ⟨congrArg Nat.succ h1, congrArg Nat.succ h2⟩
      · cases h
    · cases h
  | .f :: ms, r :: rs, mv, e, e1, as, h => by
    unfold bindA at h
    split at h
    · split at h
      · rename_i e3
        cases h
        obtain ⟨h1, h2⟩ := bindA_len e3
        exact ⟨congrArg Nat.succ h1, congrArg Nat.succ h2⟩
      · cases h
    · cases h
  | [], _ :: _, _, _, _, _, h => by cases h
  | mo :: _, [], _, _, _, _, h => by cases mo <;> cases h
/-- a call: nothing is handed in to be changed; it may refuse -/
theorem jx_fun {ms : List Mo} {g : Fn} {fs : List (M RD)} (hm : noM ms = true)
    (h : JA fs S E (fun rvs S1 m1 => ∃ args S2, bindR ms rvs [] S1 = some (args, S2) ∧ ∃ (α : Type) (mg : Y α) (rv : α → RV) (out : α → En) (k : α → Y β), GR args.length (g args) mg rv out ∧ m1 = bY mg k ∧ (∀ a, K (rv a) S2 (k a)) ∧ ∀ c, E c S2 (exY c)) m) : JX (fFun ms g fs) S E K m := fun e he q hq =>
  hx_bnd (h e he q hq) fun rs e1 vs S1 m1 _ he1 hvs ⟨args, S2, hb, α, mg, rv, out, k, gr, e2, hk, hc⟩ hq1 => by
    obtain ⟨e3, h3, h4, h5⟩ := bind_ok he1 hvs hb
    obtain ⟨l1, l2⟩ := bindA_len h3
    rw [e2] at hq1
    simp only [h3]
    rcases bY_some hq1 with ⟨a, e4, hq2⟩ | ⟨c, e4, hq2⟩
    · obtain ⟨r, z1, z2, z3, z4⟩ := gr _ e4
      simp only [z1, z3, Bool.false_eq_true, if_false, back_noM (e := e3) hm l1 (z4.trans l2)]
      exact ⟨h5, _, _, _, h4, z2, hk a, hq2⟩
    · obtain ⟨out', z1, z4⟩ := gr _ e4
      simp only [z1, back_noM (e := e3) hm l1 (z4.trans l2)]
      subst hq2
      exact ⟨h5, _, _, h4, hc c, rfl⟩
/-- .. something may be handed in to be changed; it doesn't refuse -/
theorem jx_funM {ms : List Mo} {g : Fn} {fs : List (M RD)}
    (h : JA fs S E (fun rvs S1 m1 => ∃ args S2, bindR ms rvs [] S1 = some (args, S2) ∧ ∃ (α : Type) (mg : Y α) (rv : α → RV) (out : α → En) (k : α → Y β), GR args.length (g args) mg rv out ∧ m1 = bYn mg k ∧ ∀ a, ∃ S3, backR ms rvs (out a) S2 = some S3 ∧ K (rv a) S3 (k a)) m) : JX (fFun ms g fs) S E K m := fun e he q hq =>
  hx_bnd (h e he q hq) fun rs e1 vs S1 m1 _ he1 hvs ⟨args, S2, hb, α, mg, rv, out, k, gr, e2, hk⟩ hq1 => by
    obtain ⟨e3, h3, h4, h5⟩ := bind_ok he1 hvs hb
    rw [e2] at hq1
    simp only [h3]
    obtain ⟨a, e4, hq2⟩ := bYn_some hq1
    obtain ⟨r, z1, z2, z3, z4⟩ := gr _ e4
    obtain ⟨S3, hbk, hK⟩ := hk a
    obtain ⟨e5, h6, h7, h8⟩ := back_ok h4 hvs hbk
    simp only [z1, z3, Bool.false_eq_true, if_false, h6]
    exact ⟨h8.trans h5, _, _, _, h7, z2, hK, hq2⟩
/-- a def that a name stands for -/
theorem jx_funL {i : Nat} {a : Addr} {T : Addr → Option Fn} {ms : List Mo} {g : Fn} {fs : List (M RD)} (h0 : S[i]? = some (.f a)) (hT : T a = some g) (h : JX (fFun ms g fs) S E K m) : JX (fFunL i T ms fs) S E K m := fun e he q hq => by
  obtain ⟨s, h1, h2⟩ := he.at h0
  cases (show s = .f a from h2)
  unfold fFunL
  simp only [h1, hT]
  exact h e he q hq
/-! what is gone through -/
section
variable {KI : List PyData → List SlR → Y β → Prop}
theorem ji_it {sel : PyData → Option (List PyData)} {f : M RD} (h : JX f S E (fun rv S1 m1 => ∃ d S2 k, rvz S1 rv = some (d, S2) ∧ m1 = bQ (sel d) k ∧ ∀ xs, KI xs S2 (k xs)) m) : JI (fIt sel f) S E KI m := fun e he q hq =>
  hx_bnd (h e he q hq) fun r e1 v S1 m1 _ he1 hv ⟨d, S2, k, hz, e2, hk⟩ hq1 => by
    obtain ⟨e3, h3, h4, h5⟩ := rvz_ok he1 hv hz
    rw [e2] at hq1
    obtain ⟨xs, h6, hq2⟩ := bQ_some hq1
    simp only [h3, h6]
    exact ⟨h5, xs, _, _, h4, rfl, hk xs, hq2⟩
theorem ji_itA {sel : List PyData → Option (List PyData)} {fs : List (M RD)} (h : JA fs S E (fun rvs S1 m1 => ∃ ds S2 k, rvzs rvs S1 = some (ds, S2) ∧ m1 = bQ (sel ds) k ∧ ∀ xs, KI xs S2 (k xs)) m) : JI (fItA sel fs) S E KI m := fun e he q hq =>
  hx_bnd (h e he q hq) fun r e1 v S1 m1 _ he1 hv ⟨ds, S2, k, hz, e2, hk⟩ hq1 => by
    obtain ⟨e3, h3, h4, h5⟩ := rvzs_ok he1 hv hz
    rw [e2] at hq1
    obtain ⟨xs, h6, hq2⟩ := bQ_some hq1
    simp only [h3, h6]
    exact ⟨h5, xs, _, _, h4, rfl, hk xs, hq2⟩
end
def kvD : PyData → Option (List (PyData × PyData))
  | .dict kvs => if isRaw kvs = true then none else some kvs
  | _ => none
def keysD (kvs : List (PyData × PyData)) : List PyData := kvs.map fun kv => keyI kv.1
/-- the dict at a slot, to be walked -/
def JK (i : Nat) (S : List SlR) (K : List (PyData × PyData) → List SlR → Y β → Prop) (m : Y β) : Prop := ∀ e, EnvR S e → ∀ q, m = some q → ∃ kvs e1 S1 m1, kvsAt i e = some (kvs, e1) ∧ e1.length = e.length ∧ EnvR S1 e1 ∧ K kvs S1 m1 ∧ m1 = some q
theorem jk_d {i : Nat} {d : PyData} {k : List (PyData × PyData) → Y β} {K : List (PyData × PyData) → List SlR → Y β → Prop} (h : S[i]? = some (.d d)) (hk : ∀ kvs, K kvs S (k kvs)) : JK i S K (bQ (kvD d) k) := fun e he q hq => by
  obtain ⟨s, h1, h2⟩ := he.at h
  cases (show s = .d d from h2)
  obtain ⟨kvs, h3, hq2⟩ := bQ_some hq
  refine ⟨kvs, e, S, _, ?_, rfl, he, hk kvs, hq2⟩
  cases d with
  | dict ks =>
    have h3 : (if isRaw ks = true then none else some ks) = some kvs := h3
    unfold kvsAt
    simp only [h1]
    split at h3
    · cases h3
    · rename_i hr
      cases h3
      rw [if_neg hr]
  | _ => cases h3
theorem jk_m {i : Nat} {t : Bool} {kvs : List (PyData × PyData)} {K : List (PyData × PyData) → List SlR → Y β → Prop} (S1 : List SlR) (h : S[i]? = some (.m true (.dct t kvs))) (hs : S.set i (.d (.dict kvs)) = S1) (hk : K kvs S1 m) : JK i S K m := fun e he q hq => by
  subst hs
  obtain ⟨s, h1, h2⟩ := he.at h
  cases (show s = .m true (.dct t kvs) from h2)
  refine ⟨kvs, e.set i (.d (.dict kvs)), _, _, ?_, List.length_set, he.set i (r := .d (.dict kvs)) rfl, hk, hq⟩
  unfold kvsAt
  simp only [h1]
/-! targets -/
section
variable {KG : List SlR → Y β → Prop}
def notB (r : SlR) : Bool := match r with
  | .m false _ => false
  | _ => true
theorem notB_rel {r : SlR} {s : Sl} (h : notB r = true) (hr : SlRel r s) (o : Ob) : s ≠ .m false o := by
  intro z
  subst z
  cases r with
  | j => rcases hr with hr | ⟨_, hr⟩ <;> cases hr
  | q => rcases hr with hr | ⟨_, hr⟩ | ⟨_, hr⟩ | ⟨_, hr⟩ <;> cases hr
  | d x => cases (show Sl.m false o = .d x from hr)
  | m w o' =>
    cases (show Sl.m false o = .m w o' from hr)
    cases h
  | f a => cases (show Sl.m false o = .f a from hr)
theorem setR_of {e : En} {i : Nat} {r : SlR} (he : EnvR S e) (h : S[i]? = some r) (hn : notB r = true) (rd : RD) : setR i rd e = putR i rd e := by
  obtain ⟨s, h1, h2⟩ := he.at h
  have z := notB_rel hn h2
  unfold setR
  rw [h1]
  cases s with
  | m w o =>
    cases w with
    | false => exact absurd rfl (z o)
    | true => rfl
  | _ => rfl
theorem jg_nm {i : Nat} {d : PyData} {r : SlR} (S1 : List SlR) (h : S[i]? = some r) (hn : notB r = true) (hs : S.set i (.d d) = S1) (k : KG S1 m) : JG (gNm i) d S KG m := fun e he q hq => by
  subst hs
  refine ⟨e.set i (.d d), _, _, ?_, List.length_set, he.set i (r := .d d) rfl, k, hq⟩
  unfold gNm
  rw [setR_of he h hn]
  rfl
theorem at2_some {γ : Type} {o : Option (List PyData)} {k : PyData → PyData → Y γ} {q : Rs γ} (h : at2 o k = some q) : ∃ a b, o = some [a, b] ∧ k a b = some q := by
  unfold at2 at h
  split at h
  · exact ⟨_, _, rfl, h⟩
  · cases h
theorem at3_some {γ : Type} {o : Option (List PyData)} {k : PyData → PyData → PyData → Y γ} {q : Rs γ} (h : at3 o k = some q) : ∃ a b c, o = some [a, b, c] ∧ k a b c = some q := by
  unfold at3 at h
  split at h
  · exact ⟨_, _, _, rfl, h⟩
  · cases h
theorem at4_some {γ : Type} {o : Option (List PyData)} {k : PyData → PyData → PyData → PyData → Y γ} {q : Rs γ} (h : at4 o k = some q) : ∃ a b c d, o = some [a, b, c, d] ∧ k a b c d = some q := by
  unfold at4 at h
  split at h
  · exact ⟨_, _, _, _, rfl, h⟩
  · cases h
theorem gTu_un {gs : List (PyData → En → Option En)} {d : PyData} {ds : List PyData} (h : unT d = some ds) (e : En) : gTu gs d e = gAll gs ds e := by
  unfold unT at h
  split at h
  · cases h; rfl
  · cases h; rfl
  · cases h
theorem gLi_un {gs : List (PyData → En → Option En)} {d : PyData} {ds : List PyData} (h : unL d = some ds) (e : En) : gLi gs d e = gAll gs ds e := by
  unfold unL at h
  split at h
  · cases h; rfl
  · cases h
abbrev G1 := PyData → En → Option En
theorem ga_2 {g1 g2 : G1} {a b : PyData} (h : JG g1 a S (fun S1 m1 => JG g2 b S1 KG m1) m) {e : En} (he : EnvR S e) {q : Rs β} (hq : m = some q) : ∃ e1 S1 m1, gAll [g1, g2] [a, b] e = some e1 ∧ e1.length = e.length ∧ EnvR S1 e1 ∧ KG S1 m1 ∧ m1 = some q := by
  obtain ⟨e1, S1, m1, z1, z2, z3, z4, z5⟩ := h e he q hq
  obtain ⟨e2, S2, m2, y1, y2, y3, y4, y5⟩ := z4 e1 z3 q z5
  refine ⟨e2, S2, m2, ?_, y2.trans z2, y3, y4, y5⟩
  simp only [gAll, z1, y1]
theorem ga_3 {g1 g2 g3 : G1} {a b c : PyData} (h : JG g1 a S (fun S1 m1 => JG g2 b S1 (fun S2 m2 => JG g3 c S2 KG m2) m1) m) {e : En} (he : EnvR S e) {q : Rs β} (hq : m = some q) : ∃ e1 S1 m1, gAll [g1, g2, g3] [a, b, c] e = some e1 ∧ e1.length = e.length ∧ EnvR S1 e1 ∧ KG S1 m1 ∧ m1 = some q := by
  obtain ⟨e1, S1, m1, z1, z2, z3, z4, z5⟩ := h e he q hq
  obtain ⟨e2, S2, m2, y1, y2, y3, y4, y5⟩ := ga_2 z4 z3 z5
  refine ⟨e2, S2, m2, ?_, y2.trans z2, y3, y4, y5⟩
  unfold gAll
  simp only [z1]
  exact y1
theorem ga_4 {g1 g2 g3 g4 : G1} {a b c d : PyData} (h : JG g1 a S (fun S1 m1 => JG g2 b S1 (fun S2 m2 => JG g3 c S2 (fun S3 m3 => JG g4 d S3 KG m3) m2) m1) m) {e : En} (he : EnvR S e) {q : Rs β} (hq : m = some q) : ∃ e1 S1 m1, gAll [g1, g2, g3, g4] [a, b, c, d] e = some e1 ∧ e1.length = e.length ∧ EnvR S1 e1 ∧ KG S1 m1 ∧ m1 = some q := by
  obtain ⟨e1, S1, m1, z1, z2, z3, z4, z5⟩ := h e he q hq
  obtain ⟨e2, S2, m2, y1, y2, y3, y4, y5⟩ := ga_3 z4 z3 z5
  refine ⟨e2, S2, m2, ?_, y2.trans z2, y3, y4, y5⟩
  unfold gAll
  simp only [z1]
  exact y1
theorem jg_tu2 {g1 g2 : G1} {d : PyData} {k : PyData → PyData → Y β} (h : ∀ a b, JG g1 a S (fun S1 m1 => JG g2 b S1 KG m1) (k a b)) : JG (gTu [g1, g2]) d S KG (at2 (unT d) k) := fun e he q hq => by
  obtain ⟨a, b, h1, hq1⟩ := at2_some hq
  rw [gTu_un h1]
  exact ga_2 (h a b) he hq1
theorem jg_tu3 {g1 g2 g3 : G1} {d : PyData} {k : PyData → PyData → PyData → Y β} (h : ∀ a b c, JG g1 a S (fun S1 m1 => JG g2 b S1 (fun S2 m2 => JG g3 c S2 KG m2) m1) (k a b c)) : JG (gTu [g1, g2, g3]) d S KG (at3 (unT d) k) := fun e he q hq => by
  obtain ⟨a, b, c, h1, hq1⟩ := at3_some hq
  rw [gTu_un h1]
  exact ga_3 (h a b c) he hq1
theorem jg_tu4 {g1 g2 g3 g4 : G1} {d : PyData} {k : PyData → PyData → PyData → PyData → Y β} (h : ∀ a b c d, JG g1 a S (fun S1 m1 => JG g2 b S1 (fun S2 m2 => JG g3 c S2 (fun S3 m3 => JG g4 d S3 KG m3) m2) m1) (k a b c d)) : JG (gTu [g1, g2, g3, g4]) d S KG (at4 (unT d) k) := fun e he q hq => by
  obtain ⟨a, b, c, d, h1, hq1⟩ := at4_some hq
  rw [gTu_un h1]
  exact ga_4 (h a b c d) he hq1
theorem jg_li2 {g1 g2 : G1} {d : PyData} {k : PyData → PyData → Y β} (h : ∀ a b, JG g1 a S (fun S1 m1 => JG g2 b S1 KG m1) (k a b)) : JG (gLi [g1, g2]) d S KG (at2 (unL d) k) := fun e he q hq => by
  obtain ⟨a, b, h1, hq1⟩ := at2_some hq
  rw [gLi_un h1]
  exact ga_2 (h a b) he hq1
theorem jg_li3 {g1 g2 g3 : G1} {d : PyData} {k : PyData → PyData → PyData → Y β} (h : ∀ a b c, JG g1 a S (fun S1 m1 => JG g2 b S1 (fun S2 m2 => JG g3 c S2 KG m2) m1) (k a b c)) : JG (gLi [g1, g2, g3]) d S KG (at3 (unL d) k) := fun e he q hq => by
  obtain ⟨a, b, c, h1, hq1⟩ := at3_some hq
  rw [gLi_un h1]
  exact ga_3 (h a b c) he hq1
end
end
end Mr
namespace Mr
open PySem PySem.Spec PyProof.Rows L2 Pv
section
variable {β : Type} {S : List SlR} {E : KE β} {K : KX β} {m : Y β}
/-! comprehensions -/
def compStep (tg : G1) (tt : M Bool) (te : M RD) (x : PyData) (e : En) : Option (Option PyData × En) := match tg x e with
  | none => none
  | some e1 => match tt e1 with
    | some (.ok true e2) => match te e2 with
      | some (.ok r e3) => match frzR r e3 with
        | some (d, e4) => some (some d, e4)
        | none => none
      | _ => none
    | some (.ok false e2) => some (none, e2)
    | _ => none
theorem compF_step {vs : List Nat} {tg : G1} {tt : M Bool} {te : M RD} {x : PyData} {xs acc : List PyData} {e e4 : En} {o : Option PyData} (h : compStep tg tt te x e = some (o, e4)) (hl : acc.length < lim) : compF vs tg tt te (x :: xs) acc e = compF vs tg tt te xs (acc ++ optL o) (wipeE vs e4) := by
  unfold compStep at h
  split at h
  · cases h
  · rename_i e1 h1
    split at h
    · rename_i e2 h2
      split at h
      · rename_i r e3 h3
        split at h
        · rename_i d e5 h4
          cases h
          simp only [compF, h1, h2, h3, h4, if_pos hl, optL]
        · cases h
      · cases h
    · rename_i e2 h2
      cases h
      simp only [compF, h1, h2, optL, List.append_nil]
    · cases h
def JC (tg : G1) (tt : M Bool) (te : M RD) (x : PyData) {γ : Type} (S : List SlR) (K : Option PyData → List SlR → Y γ → Prop) (m : Y γ) : Prop := ∀ e, EnvR S e → ∀ q, m = some q → ∃ o e4 S4 m4, compStep tg tt te x e = some (o, e4) ∧ e4.length = e.length ∧ EnvR S4 e4 ∧ K o S4 m4 ∧ m4 = some q
abbrev noE {γ : Type} : KE γ := fun _ _ _ => False
theorem hx_noE {γ A α : Type} {R : A → α → Prop} {n : Nat} {o : Option (Ou α)} {K : A → List SlR → Y γ → Prop} {q : Rs γ} (h : HX A R n o noE K q) : ∃ r e, o = some (.ok r e) ∧ e.length = n ∧ ∃ v S m, EnvR S e ∧ R v r ∧ K v S m ∧ m = some q := by
  unfold HX at h
  split at h
  · obtain ⟨h0, h1⟩ := h
    exact ⟨_, _, rfl, h0, h1⟩
  · obtain ⟨_, _, _, _, h, _⟩ := h
    exact h.elim
  · exact h.elim
section
variable {γ : Type} {m : Y γ} {KC : Option PyData → List SlR → Y γ → Prop} {tg : G1} {tt : M Bool} {te : M RD} {x : PyData}
theorem jc_test (h : JG tg x S (fun S1 m1 => JT tt S1 noE (fun c S2 m2 => ∃ mT mF, m2 = (if c = true then mT else mF) ∧ JX te S2 noE (fun rv S3 m3 => ∃ d S4, rvz S3 rv = some (d, S4) ∧ KC (some d) S4 m3) mT ∧ KC none S2 mF) m1) m) : JC tg tt te x S KC m := fun e he q hq => by
  obtain ⟨e1, S1, m1, h1, h2, h3, h4, h5⟩ := h e he q hq
  obtain ⟨c, e2, z1, z2, c', S2, m2, z3, z4, ⟨mT, mF, z5, z6, z7⟩, z8⟩ := hx_noE (h4 e1 h3 q h5)
  subst z4
  unfold compStep
  rw [z5] at z8
  cases c' with
  | true =>
    obtain ⟨r, e3, y1, y2, v, S3, m3, y3, y4, ⟨d, S4, y5, y6⟩, y7⟩ := hx_noE (z6 e2 z3 q z8)
    obtain ⟨e4, w1, w2, w3⟩ := rvz_ok y3 y4 y5
    refine ⟨some d, e4, S4, m3, ?_, by rw [w3, y2, z2, h2], w2, y6, y7⟩
    simp only [h1, z1, y1, w1]
  | false =>
    refine ⟨none, e2, S2, mF, ?_, by rw [z2, h2], z3, z7, z8⟩
    simp only [h1, z1]
theorem jc_all (h : JG tg x S (fun S1 m1 => JX te S1 noE (fun rv S3 m3 => ∃ d S4, rvz S3 rv = some (d, S4) ∧ KC (some d) S4 m3) m1) m) : JC tg fYes te x S KC m := fun e he q hq => by
  obtain ⟨e1, S1, m1, h1, h2, h3, h4, h5⟩ := h e he q hq
  obtain ⟨r, e3, y1, y2, v, S3, m3, y3, y4, ⟨d, S4, y5, y6⟩, y7⟩ := hx_noE (h4 e1 h3 q h5)
  obtain ⟨e4, w1, w2, w3⟩ := rvz_ok y3 y4 y5
  refine ⟨some d, e4, S4, m3, ?_, by rw [w3, y2, h2], w2, y6, y7⟩
  unfold compStep
  simp only [h1, fYes, y1, w1]
end
def wipeR : List Nat → List SlR → List SlR
  | [], S => S
  | v :: vs, S => (wipeR vs S).set v .j
def mrgR : List Nat → List SlR → List SlR → List SlR
  | [], _, S => S
  | v :: vs, S0, S => match S0[v]? with
    | some s => (mrgR vs S0 S).set v s
    | none => mrgR vs S0 S
def okWR (vs : List Nat) (S : List SlR) : Bool := vs.all fun v => match S[v]? with
  | some .j => true
  | some (.d _) => true
  | _ => false
theorem wipe_rel : ∀ {vs : List Nat} {S : List SlR} {e : En}, EnvR S e → EnvR (wipeR vs S) (wipeE vs e)
  | [], _, _, h => h
  | v :: vs, _, _, h => (wipe_rel (vs := vs) h).set v (r := .j) (s := .un) (Or.inl rfl)
theorem mrg_rel : ∀ {vs : List Nat} {S0 S : List SlR} {e0 e : En}, EnvR S0 e0 → EnvR S e → EnvR (mrgR vs S0 S) (mrg vs e0 e)
  | [], _, _, _, _, _, h => h
  | v :: vs, S0, S, e0, e, h0, h => by
    unfold mrgR mrg
    have z := mrg_rel (vs := vs) h0 h
    cases q : S0[v]? with
    | none =>
      have : e0[v]? = none := by
        rw [List.getElem?_eq_none_iff] at q ⊢
        rw [← h0.len]
        exact q
      simp only [this]
      exact z
    | some s =>
      obtain ⟨s', h1, h2⟩ := h0.at q
      simp only [h1]
      exact z.set v h2
theorem mrg_same {vs : List Nat} {S : List SlR} {e0 e : En} (h0 : EnvR S e0) (h : EnvR (wipeR vs S) e) (hl : e.length = e0.length) : EnvR S (mrg vs e0 e) := by
  refine ⟨by rw [mrg_len, hl, h0.len], fun i r hi => ?_⟩
  by_cases q : i ∈ vs
  · obtain ⟨s, h1, h2⟩ := h0.at hi
    have hlt : i < e0.length := by
      rcases Nat.lt_or_ge i e0.length with z | z
      · exact z
      · rw [List.getElem?_eq_none z] at h1
        cases h1
    rw [mrg_in q hl hlt]
    exact ⟨s, h1, h2⟩
  · rw [mrg_out q]
    refine h.at ?_
    rw [← hi]
    have : ∀ {vs : List Nat}, i ∉ vs → (wipeR vs S)[i]? = S[i]? := fun {vs} q => by
      induction vs with
      | nil => rfl
      | cons v vs ih =>
        unfold wipeR
        rw [List.getElem?_set_ne (fun z => q (by rw [← z]; exact List.mem_cons_self))]
        exact ih fun z => q (List.mem_cons_of_mem _ z)
    exact this q
theorem okW_rel {vs : List Nat} {S : List SlR} {e : En} (he : EnvR S e) (h : okWR vs S = true) : okW vs e = true := by
  unfold okWR at h
  unfold okW
  rw [List.all_eq_true] at h ⊢
  intro v hv
  have z := h v hv
  split at z
  · rename_i q
    obtain ⟨s, h1, h2⟩ := he.at q
    rcases h2 with rfl | ⟨x, rfl⟩ <;> simp only [h1]
  · rename_i x q
    obtain ⟨s, h1, h2⟩ := he.at q
    cases (show s = .d x from h2)
    simp only [h1]
  · cases z
theorem compP_run {vs : List Nat} {tg : G1} {tt : M Bool} {te : M RD} {T : List SlR} {body : PyData → Y (Option PyData)} (hb : ∀ x, JC tg tt te x T (fun o S2 m2 => m2 = okY o ∧ Wk (wipeR vs S2) T) (body x)) :
    ∀ {xs : List PyData} {acc ys : List PyData} {e : En}, EnvR T e → compL body xs = some ys → acc.length + xs.length ≤ lim → ∃ e', compF vs tg tt te xs acc e = some (acc ++ ys, e') ∧ EnvR T e' ∧ e'.length = e.length
  | [], acc, ys, e, he, h, _ => by
    cases h
    exact ⟨e, by unfold compF; rw [List.append_nil], he, rfl⟩
  | x :: xs, acc, ys, e, he, h, hl => by
    unfold compL at h
    split at h
    · rename_i o hx
      cases h1 : compL body xs with
      | none => rw [h1] at h; cases h
      | some zs =>
        rw [h1] at h
        cases h
        obtain ⟨o', e4, S4, m4, q1, q2, q3, ⟨q4, q5⟩, q6⟩ := hb x e he _ hx
        rw [q4] at q6
        cases q6
        rw [List.length_cons] at hl
        obtain ⟨e', r1, r2, r3⟩ := compP_run hb (acc := acc ++ optL o) ((wipe_rel (vs := vs) q3).wk q5) h1 (by
          rw [List.length_append]
          have : (optL o).length ≤ 1 := by cases o <;> simp [optL]
          omega)
        refine ⟨e', ?_, r2, by rw [r3, wipeE_len, q2]⟩
        rw [compF_step q1 (by omega), r1, List.append_assoc]
    · cases h
theorem compT_run {σ : Type} {vs : List Nat} {tg : G1} {tt : M Bool} {te : M RD} {T : σ → List SlR} {body : PyData → σ → Y (Option PyData × σ)} (hb : ∀ x s, JC tg tt te x (T s) (fun o S2 m2 => ∃ s', m2 = okY (o, s') ∧ Wk (wipeR vs S2) (T s')) (body x s)) :
    ∀ {xs : List PyData} {acc ys : List PyData} {s s' : σ} {e : En}, EnvR (T s) e → compT body xs s = some (ys, s') → acc.length + xs.length ≤ lim → ∃ e', compF vs tg tt te xs acc e = some (acc ++ ys, e') ∧ EnvR (T s') e' ∧ e'.length = e.length
  | [], acc, ys, s, s', e, he, h, _ => by
    cases h
    exact ⟨e, by unfold compF; rw [List.append_nil], he, rfl⟩
  | x :: xs, acc, ys, s, s', e, he, h, hl => by
    unfold compT at h
    split at h
    · rename_i o s1 hx
      cases h1 : compT body xs s1 with
      | none => rw [h1] at h; cases h
      | some zs =>
        rw [h1] at h
        cases h
        obtain ⟨o', e4, S4, m4, q1, q2, q3, ⟨s2, q4, q5⟩, q6⟩ := hb x s e he _ hx
        rw [q4] at q6
        cases q6
        rw [List.length_cons] at hl
        obtain ⟨e', r1, r2, r3⟩ := compT_run hb (acc := acc ++ optL o) (s' := zs.2) (ys := zs.1) ((wipe_rel (vs := vs) q3).wk q5) h1 (by
          rw [List.length_append]
          have : (optL o).length ≤ 1 := by cases o <;> simp [optL]
          omega)
        refine ⟨e', ?_, r2, by rw [r3, wipeE_len, q2]⟩
        rw [compF_step q1 (by omega), r1, List.append_assoc]
    · cases h
/-- what is needed of a comprehension over xs -/
def KP1 (vs : List Nat) (tg : G1) (tt : M Bool) (te : M RD) (K : KX β) (xs : List PyData) (S : List SlR) (m : Y β) : Prop :=
  okWR vs S = true ∧ ∃ (body : PyData → Y (Option PyData)) (k : List PyData → Y β) (Sw : List SlR), m = bQ (compP xs body) k ∧ wipeR vs S = Sw ∧ (∀ x, JC tg tt te x Sw (fun o S2 m2 => m2 = okY o ∧ Wk (wipeR vs S2) Sw) (body x)) ∧ ∀ ys, K (.o (.lst ys)) S (k ys)
def KT1 (vs : List Nat) (tg : G1) (tt : M Bool) (te : M RD) (K : KX β) {σ : Type} (T : σ → List SlR) (xs : List PyData) (S : List SlR) (m : Y β) : Prop :=
  okWR vs S = true ∧ ∃ (s0 : σ) (body : PyData → σ → Y (Option PyData × σ)) (k : List PyData × σ → Y β), m = bQ (compS xs s0 body) k ∧ Wk (wipeR vs S) (T s0) ∧ (∀ x s, JC tg tt te x (T s) (fun o S2 m2 => ∃ s', m2 = okY (o, s') ∧ Wk (wipeR vs S2) (T s')) (body x s)) ∧ ∀ ys s, ∃ S3, mrgR vs S (T s) = S3 ∧ K (.o (.lst ys)) S3 (k (ys, s))
theorem compE_P {vs : List Nat} {tg : G1} {tt : M Bool} {te : M RD} {xs : List PyData} {e : En} {q : Rs β} (h : KP1 vs tg tt te K xs S m) (he : EnvR S e) (hq : m = some q) : HX RV RVRel e.length (fCompE vs tg tt te xs e) E K q := by
  obtain ⟨ho, body, k, Sw, h1, hw, h2, h3⟩ := h
  subst hw
  rw [h1] at hq
  obtain ⟨ys, h4, hq1⟩ := bQ_some hq
  unfold compP at h4
  split at h4
  · rename_i hl
    obtain ⟨e', r1, r2, r3⟩ := compP_run h2 (acc := []) (wipe_rel (vs := vs) he) h4 (by simpa using hl)
    unfold fCompE
    rw [if_pos (okW_rel he ho), r1]
    rw [wipeE_len] at r3
    have z : (mrg vs e e').length = e.length := by rw [mrg_len, r3]
    rw [← z]
    exact hx_o (mrg_same he r2 r3) (h3 ys) hq1
  · cases h4
theorem compE_T {σ : Type} {T : σ → List SlR} {vs : List Nat} {tg : G1} {tt : M Bool} {te : M RD} {xs : List PyData} {e : En} {q : Rs β} (h : KT1 vs tg tt te K T xs S m) (he : EnvR S e) (hq : m = some q) : HX RV RVRel e.length (fCompE vs tg tt te xs e) E K q := by
  obtain ⟨ho, s0, body, k, h1, h0, h2, h3⟩ := h
  rw [h1] at hq
  obtain ⟨⟨ys, s⟩, h4, hq1⟩ := bQ_some hq
  unfold compS at h4
  split at h4
  · rename_i hl
    obtain ⟨e', r1, r2, r3⟩ := compT_run h2 (acc := []) ((wipe_rel (vs := vs) he).wk h0) h4 (by simpa using hl)
    unfold fCompE
    rw [if_pos (okW_rel he ho), r1]
    rw [wipeE_len] at r3
    have z : (mrg vs e e').length = e.length := by rw [mrg_len, r3]
    rw [← z]
    obtain ⟨S3, hs, h3⟩ := h3 ys s
    subst hs
    exact hx_o (mrg_rel he r2) h3 hq1
  · cases h4
theorem fComp_eq {vs : List Nat} {it : M (List PyData)} {tg : G1} {tt : M Bool} {te : M RD} (e : En) : fComp vs it tg tt te e = bnd (it e) fun xs e1 => fCompE vs tg tt te xs e1 := rfl
theorem jx_compP {vs : List Nat} {it : M (List PyData)} {tg : G1} {tt : M Bool} {te : M RD} (h : JI it S E (KP1 vs tg tt te K) m) : JX (fComp vs it tg tt te) S E K m := fun e he q hq => by
  rw [fComp_eq]
  exact hx_bnd (h e he q hq) fun xs e1 xs' S1 m1 _ he1 hx h1 hq1 => by
    subst hx
    exact compE_P h1 he1 hq1
theorem jx_compT {σ : Type} (T : σ → List SlR) {vs : List Nat} {it : M (List PyData)} {tg : G1} {tt : M Bool} {te : M RD} (h : JI it S E (KT1 vs tg tt te K T) m) : JX (fComp vs it tg tt te) S E K m := fun e he q hq => by
  rw [fComp_eq]
  exact hx_bnd (h e he q hq) fun xs e1 xs' S1 m1 _ he1 hx h1 hq1 => by
    subst hx
    exact compE_T h1 he1 hq1
theorem hx_len {A α : Type} {R : A → α → Prop} {n n' : Nat} {o : Option (Ou α)} {K : A → List SlR → Y β → Prop} {q : Rs β} (e : n = n') (h : HX A R n o E K q) : HX A R n' o E K q := e ▸ h
theorem jx_compKP {i : Nat} {vs : List Nat} {tg : G1} {tt : M Bool} {te : M RD} (h : JK i S (fun kvs S1 m1 => KP1 vs tg tt te K (keysD kvs) S1 m1) m) : JX (fCompK i vs tg tt te) S E K m := fun e he q hq => by
  obtain ⟨kvs, e1, S1, m1, h1, h2, h3, h4, h5⟩ := h e he q hq
  unfold fCompK
  simp only [h1]
  exact hx_len h2 (compE_P h4 h3 h5)
theorem jx_compKT {σ : Type} (T : σ → List SlR) {i : Nat} {vs : List Nat} {tg : G1} {tt : M Bool} {te : M RD} (h : JK i S (fun kvs S1 m1 => KT1 vs tg tt te K T (keysD kvs) S1 m1) m) : JX (fCompK i vs tg tt te) S E K m := fun e he q hq => by
  obtain ⟨kvs, e1, S1, m1, h1, h2, h3, h4, h5⟩ := h e he q hq
  unfold fCompK
  simp only [h1]
  exact hx_len h2 (compE_T h4 h3 h5)
/-! list(range) -/
def lrg1 : PyData → Option (List PyData)
  | .int j => if -1000000 ≤ j ∧ j < 1000000 then some (rngD 0 j.toNat) else none
  | _ => none
def lrg2 : PyData → PyData → Option (List PyData)
  | .int i, .int j => if -1000000 ≤ i ∧ i < 1000000 ∧ -1000000 ≤ j ∧ j < 1000000 then some (rngD i (j - i).toNat) else none
  | _, _ => none
theorem jx_lrg1 {f : M RD} (h : JX f S E (fun va S1 m1 => ∃ x k, rvd S1 va = some x ∧ m1 = bQ (lrg1 x) k ∧ ∀ xs, K (.o (.lst xs)) S1 (k xs)) m) : JX (fLRg1 f) S E K m := fun e he q hq =>
  hx_bnd (h e he q hq) fun r e1 v S1 m1 _ he1 hv ⟨x, k, hx, e2, hk⟩ hq1 => by
    rw [e2] at hq1
    obtain ⟨xs, h6, hq2⟩ := bQ_some hq1
    simp only [rvd_ok he1 hv hx]
    cases x with
    | int j =>
      have h6 : (if -1000000 ≤ j ∧ j < 1000000 then some (rngD 0 j.toNat) else none) = some xs := h6
      split at h6
      · rename_i c
        cases h6
        simp only [if_pos c]
        exact hx_o he1 (hk _) hq2
      · cases h6
    | _ => cases h6
theorem jx_lrg2 {f f2 : M RD} (h : JX f S E (fun va S1 m1 => JX f2 S1 E (fun vb S2 m2 => ∃ x y k, rvd S2 va = some x ∧ rvd S2 vb = some y ∧ m2 = bQ (lrg2 x y) k ∧ ∀ xs, K (.o (.lst xs)) S2 (k xs)) m1) m) : JX (fLRg2 f f2) S E K m := fun e he q hq =>
  hx_bnd (h e he q hq) fun r e1 v S1 m1 _ he1 hv h1 hq1 => hx_bnd (h1 e1 he1 q hq1) fun r2 e2 v2 S2 m2 _ he2 hv2 ⟨x, y, k, hx, hy, e3, hk⟩ hq2 => by
    rw [e3] at hq2
    obtain ⟨xs, h6, hq3⟩ := bQ_some hq2
    simp only [rvd_ok he2 hv hx, rvd_ok he2 hv2 hy]
    cases x with
    | int i =>
      cases y with
      | int j =>
        have h6 : (if -1000000 ≤ i ∧ i < 1000000 ∧ -1000000 ≤ j ∧ j < 1000000 then some (rngD i (j - i).toNat) else none) = some xs := h6
        split at h6
        · rename_i c
          cases h6
          simp only [if_pos c]
          exact hx_o he2 (hk _) hq3
        · cases h6
      | _ => cases h6
    | _ => cases h6
end
/-! ### statements -/
section
variable {β : Type} {S : List SlR} {K : KS β} {m : Y β}
theorem hs_len {n n' : Nat} {o : Option Fl} {q : Rs β} (e : n = n') (h : HS n o K q) : HS n' o K q := e ▸ h
theorem js_nx (k : K.n S m) : JS fNx S K m := fun e he q hq => ⟨rfl, S, m, he, k, hq⟩
theorem js_seq {f g : MS} (h : JS f S { K with n := fun S1 m1 => JS g S1 K m1 } m) : JS (fSeq f g) S K m := fun e he q hq => by
  have z := h e he q hq
  unfold fSeq
  cases w : f e with
  | none =>
    rw [w] at z
    exact z.elim
  | some o =>
    rw [w] at z
    cases o with
    | nx e1 =>
      obtain ⟨h0, S1, m1, h1, h2, h3⟩ := z
      exact hs_len h0 (h2 e1 h1 q h3)
    | _ => exact z
theorem js_gen {γ : Type} {t : MS} {X : γ} {k : γ → Y β} (P : γ → List SlR) (h : ∀ v, JS t (P v) K (k v)) : JS t (P X) K (bY (okY X) k) := h X
theorem js_if {c : M Bool} {f g : MS} (h : JT c S K.x (fun t S1 m1 => ∃ mT mF, m1 = (if t = true then mT else mF) ∧ JS f S1 K mT ∧ JS g S1 K mF) m) : JS (fIfS c f g) S K m := fun e he q hq =>
  hs_bnd (h e he q hq) fun t e1 t' S1 m1 _ he1 ht ⟨mT, mF, e3, h1, h2⟩ hq1 => by
    subst ht
    rw [e3] at hq1
    cases t' with
    | true => exact h1 e1 he1 q hq1
    | false => exact h2 e1 he1 q hq1
theorem js_ret {f : M RD} (h : JX f S K.x K.r m) : JS (fRet f) S K m := fun e he q hq =>
  hs_bnd (h e he q hq) fun r e1 v S1 m1 _ he1 hv k hq1 => ⟨rfl, v, S1, m1, he1, hv, k, hq1⟩
theorem js_retN (k : K.r (.v .none) S m) : JS fRetN S K m := fun e he q hq => ⟨rfl, .v .none, S, m, he, Or.inl rfl, k, hq⟩
theorem js_do {f : M RD} (h : JX f S K.x (fun _ S1 m1 => K.n S1 m1) m) : JS (fDo f) S K m := fun e he q hq =>
  hs_bnd (h e he q hq) fun r e1 v S1 m1 _ he1 hv k hq1 => ⟨rfl, S1, m1, he1, k, hq1⟩
theorem js_cnt (k : K.c S m) : JS fCnt S K m := fun e he q hq => ⟨rfl, S, m, he, k, hq⟩
theorem js_brk (k : K.b S m) : JS fBrk S K m := fun e he q hq => ⟨rfl, S, m, he, k, hq⟩
theorem js_raise {c : Str} (k : K.x c S m) : JS (fRaise c) S K m := fun e he q hq => ⟨rfl, S, m, he, k, hq⟩
def putRR (i : Nat) (v : RV) (S : List SlR) : Option (List SlR) := match v with
  | .o o => some (S.set i (.m true o))
  | .fn a => some (S.set i (.f a))
  | .v _ => none
  | .p j => match S[j]? with
    | some (.d x) => some (S.set i (.d x))
    | some (.m true o) => some ((S.set j (.d o.d)).set i (.d o.d))
    | _ => none
theorem putR_ok {i : Nat} {v : RV} {r : RD} {S1 : List SlR} {e : En} (he : EnvR S e) (hv : RVRel v r) (h : putRR i v S = some S1) : ∃ e1, putR i r e = some e1 ∧ EnvR S1 e1 ∧ e1.length = e.length := by
  cases v with
  | v x => cases h
  | o o =>
    cases (show r = .own o from hv)
    cases h
    exact ⟨_, rfl, he.set i (r := .m true o) rfl, List.length_set⟩
  | fn a =>
    cases (show r = .fn a from hv)
    cases h
    exact ⟨_, rfl, he.set i (r := .f a) rfl, List.length_set⟩
  | p j =>
    cases (show r = .pl j from hv)
    unfold putRR at h
    unfold putR
    simp only at h ⊢
    cases q : S[j]? with
    | none => rw [q] at h; cases h
    | some s =>
      obtain ⟨s', h1, h2⟩ := he.at q
      rw [q] at h
      rw [h1]
      cases s with
      | d x =>
        cases (show s' = .d x from h2)
        cases h
        exact ⟨_, rfl, he.set i (r := .d x) rfl, List.length_set⟩
      | m w o =>
        cases (show s' = .m w o from h2)
        cases w with
        | true =>
          cases h
          exact ⟨_, rfl, (he.set j (r := .d o.d) (s := .d o.d) rfl).set i (r := .d o.d) rfl, by rw [List.length_set, List.length_set]⟩
        | false => cases h
      | _ => cases h
theorem js_set {i : Nat} {f : M RD} (h : JX f S K.x (fun rv S1 m1 => ∃ r S2, S1[i]? = some r ∧ notB r = true ∧ putRR i rv S1 = some S2 ∧ K.n S2 m1) m) : JS (fSet i f) S K m := fun e he q hq =>
  hs_bnd (h e he q hq) fun r e1 v S1 m1 _ he1 hv ⟨sr, S2, h1, h2, h3, k⟩ hq1 => by
    obtain ⟨e2, h4, h5, h6⟩ := putR_ok he1 hv h3
    rw [setR_of he1 h1 h2, h4]
    exact ⟨h6, S2, m1, h5, k, hq1⟩
theorem js_fz {i : Nat} {f : MS} (h : JS f S { K with n := fun S1 m1 => ∃ d S2, rvz S1 (.p i) = some (d, S2) ∧ K.n S2 m1 } m) : JS (fFz i f) S K m := fun e he q hq => by
  have z := h e he q hq
  unfold fFz
  cases w : f e with
  | none =>
    rw [w] at z
    exact z.elim
  | some o =>
    rw [w] at z
    cases o with
    | nx e1 =>
      obtain ⟨h0, S1, m1, h1, ⟨d, S2, h2, h3⟩, h4⟩ := z
      obtain ⟨e2, q1, q2, q3⟩ := rvz_ok (v := .p i) (r := .pl i) h1 rfl h2
      simp only [q1]
      exact ⟨q3.trans h0, S2, m1, q2, h3, h4⟩
    | _ => exact z
theorem js_asg {gt : G1} {f : M RD} (h : JX f S K.x (fun rv S1 m1 => ∃ d S2, rvz S1 rv = some (d, S2) ∧ JG gt d S2 K.n m1) m) : JS (fAsg gt f) S K m := fun e he q hq =>
  hs_bnd (h e he q hq) fun r e1 v S1 m1 _ he1 hv ⟨d, S2, h1, h2⟩ hq1 => by
    obtain ⟨e2, h3, h4, h5⟩ := rvz_ok he1 hv h1
    obtain ⟨e3, S3, m3, h6, h7, h8, h9, h10⟩ := h2 e2 h4 q hq1
    simp only [h3, h6]
    exact ⟨h7.trans h5, S3, m3, h8, h9, h10⟩
theorem js_put {γ : Type} (F : OF γ) {i : Nat} {fk fv : M RD} (h : JX fv S K.x (fun rv S1 m1 => ∃ d S2 w1 o1, rvz S1 rv = some (d, S2) ∧ S2[i]? = some (.m w1 o1) ∧
      JX fk S2 K.x (fun rk S3 m3 => ∃ y w o k, rvd S3 rk = some y ∧ S3[i]? = some (.m w o) ∧ m3 = bP F (putO o y d) k ∧ ∀ a, ∃ S4, S3.set i (.m w (F.bd a)) = S4 ∧ K.n S4 (k a)) m1) m) : JS (fPut i fk fv) S K m := fun e he q hq =>
  hs_bnd (h e he q hq) fun r e1 v S1 m1 _ he1 hv ⟨d, S2, w1, o1, h1, h2, h3⟩ hq1 => by
    obtain ⟨e2, h4, h5, h6⟩ := rvz_ok he1 hv h1
    obtain ⟨s, z1, z2⟩ := h5.at h2
    cases (show s = .m w1 o1 from z2)
    simp only [h4, z1]
    refine hs_len h6 (hs_bnd (h3 e2 h5 q hq1) fun rk e3 vk S3 m3 _ he3 hvk ⟨y, w, o, k, y1, y2, y3, y4⟩ hq3 => ?_)
    obtain ⟨s', x1, x2⟩ := he3.at y2
    cases (show s' = .m w o from x2)
    rw [y3] at hq3
    unfold bP at hq3
    split at hq3
    · rename_i o' x3
      obtain ⟨a, x4, hq4⟩ := bQ_some hq3
      cases F.ok _ _ x4
      simp only [rvd_ok he3 hvk y1, x1, x3]
      obtain ⟨S4, x5, x6⟩ := y4 a
      subst x5
      exact ⟨List.length_set, _, _, he3.set i (r := .m w (F.bd a)) rfl, x6, hq4⟩
    · cases hq3
def putT (kvs : List (PyData × PyData)) (ds : List PyData) (d : PyData) : Option (List (PyData × PyData)) := if (asKs ds).isSome = true ∧ kvs.length < lim ∧ ds.length ≤ lim then some (dPut kvs (.tuple ds) d) else none
theorem js_putT {i : Nat} {fks : List (M RD)} {fv : M RD} (h : JX fv S K.x (fun rv S1 m1 => ∃ d S2 w1 o1, rvz S1 rv = some (d, S2) ∧ S2[i]? = some (.m w1 o1) ∧
      JA fks S2 K.x (fun rks S3 m3 => ∃ ds S4 w kvs k, rvzs rks S3 = some (ds, S4) ∧ S4[i]? = some (.m w (.dct true kvs)) ∧ m3 = bQ (putT kvs ds d) k ∧ ∀ a, ∃ S5, S4.set i (.m w (.dct true a)) = S5 ∧ K.n S5 (k a)) m1) m) : JS (fPutT i fks fv) S K m := fun e he q hq =>
  hs_bnd (h e he q hq) fun r e1 v S1 m1 _ he1 hv ⟨d, S2, w1, o1, h1, h2, h3⟩ hq1 => by
    obtain ⟨e2, h4, h5, h6⟩ := rvz_ok he1 hv h1
    obtain ⟨s, z1, z2⟩ := h5.at h2
    cases (show s = .m w1 o1 from z2)
    simp only [h4, z1]
    have z := h3 e2 h5 q hq1
    unfold HX at z
    split at z
    · rename_i rs e3 q9
      obtain ⟨h0, vs, S3, m3, y1, y2, ⟨ds, S4, w, kvs, k, y3, y4, y5, y6⟩, y7⟩ := z
      obtain ⟨e4, x1, x2, x3⟩ := rvzs_ok y1 y2 y3
      obtain ⟨s', x4, x5⟩ := x2.at y4
      cases (show s' = .m w (.dct true kvs) from x5)
      rw [y5] at y7
      obtain ⟨a, x6, x7⟩ := bQ_some y7
      unfold putT at x6
      split at x6
      · rename_i c
        cases x6
        simp only [q9, x1, x4, if_pos c]
        obtain ⟨S5, x8, x9⟩ := y6 (dPut kvs (.tuple ds) d)
        subst x8
        exact ⟨by rw [List.length_set, x3, h0, h6], _, _, x2.set i (r := .m w (.dct true _)) rfl, x9, x7⟩
      · cases x6
    · rename_i c e3 q9
      obtain ⟨h0, y⟩ := z
      simp only [q9]
      exact ⟨h0.trans h6, y⟩
    · exact z.elim
/-! where ways join -/
theorem js_cut {τ : Type} {f : MS} {m1 : Y τ} {k : τ → Y β} (T : τ → List SlR)
    (h : JS f S ⟨fun S' m' => ∃ s, m' = okY s ∧ Wk S' (T s), fun _ _ _ => False, fun _ _ => False, fun _ _ => False, fun c S' m' => m' = exY c ∧ K.x c S' (exY c)⟩ m1) (hk : ∀ s, K.n (T s) (k s)) : JS f S K (bY m1 k) := fun e he q hq => by
  rcases bY_some hq with ⟨a, e1, e2⟩ | ⟨c, e1, e2⟩
  · have z := h e he _ e1
    unfold HS at z ⊢
    split at z
    · obtain ⟨h0, S', m', h1, ⟨s, h2, h3⟩, h4⟩ := z
      rw [h2] at h4
      cases h4
      exact ⟨h0, _, _, h1.wk h3, hk _, e2⟩
    · obtain ⟨_, _, _, _, _, _, h, _⟩ := z
      exact h.elim
    · obtain ⟨_, _, _, _, h, _⟩ := z
      exact h.elim
    · obtain ⟨_, _, _, _, h, _⟩ := z
      exact h.elim
    · obtain ⟨_, _, _, _, ⟨h2, _⟩, h3⟩ := z
      rw [h2] at h3
      cases h3
    · exact z.elim
  · have z := h e he _ e1
    unfold HS at z ⊢
    split at z
    · obtain ⟨_, _, _, _, ⟨_, h2, _⟩, h4⟩ := z
      rw [h2] at h4
      cases h4
    · obtain ⟨_, _, _, _, _, _, h, _⟩ := z
      exact h.elim
    · obtain ⟨_, _, _, _, h, _⟩ := z
      exact h.elim
    · obtain ⟨_, _, _, _, h, _⟩ := z
      exact h.elim
    · obtain ⟨h0, S', m', h1, ⟨h2, h4⟩, h3⟩ := z
      rw [h2] at h3
      cases h3
      rw [e2]
      exact ⟨h0, _, _, h1, h4, rfl⟩
    · exact z.elim
/-- a block that may return -/
abbrev KF (K : KS β) {τ ρ : Type} (T : τ → List SlR) (k : Fw ρ τ → Y β) : KS (Fw ρ τ) := ⟨fun S' m' => ∃ s, m' = okY (.go s) ∧ Wk S' (T s), fun v S' m' => ∃ a, m' = okY (.rt a) ∧ K.r v S' (k (.rt a)), fun _ _ => False, fun _ _ => False, fun c S' m' => m' = exY c ∧ K.x c S' (exY c)⟩
theorem hs_fw {τ ρ : Type} {T : τ → List SlR} {k : Fw ρ τ → Y β} {n : Nat} {o : Option Fl} {m1 : Y (Fw ρ τ)} {q : Rs β} (h : ∀ q', m1 = some q' → HS n o (KF K T k) q') (hk : ∀ s, K.n (T s) (k (.go s))) (hq : bY m1 k = some q) : HS n o K q := by
  rcases bY_some hq with ⟨a, e1, e2⟩ | ⟨c, e1, e2⟩
  · have z := h _ e1
    unfold HS at z ⊢
    split at z
    · obtain ⟨h0, S', m', h1, ⟨s, h2, h3⟩, h4⟩ := z
      rw [h2] at h4
      cases h4
      exact ⟨h0, _, _, h1.wk h3, hk _, e2⟩
    · obtain ⟨h0, v, S', m', h1, hv, ⟨s, h2, h3⟩, h4⟩ := z
      rw [h2] at h4
      cases h4
      exact ⟨h0, v, _, _, h1, hv, h3, e2⟩
    · obtain ⟨_, _, _, _, h, _⟩ := z
      exact h.elim
    · obtain ⟨_, _, _, _, h, _⟩ := z
      exact h.elim
    · obtain ⟨_, _, _, _, ⟨h2, _⟩, h3⟩ := z
      rw [h2] at h3
      cases h3
    · exact z.elim
  · have z := h _ e1
    unfold HS at z ⊢
    split at z
    · obtain ⟨_, _, _, _, ⟨_, h2, _⟩, h4⟩ := z
      rw [h2] at h4
      cases h4
    · obtain ⟨_, _, _, _, _, _, ⟨_, h2, _⟩, h4⟩ := z
      rw [h2] at h4
      cases h4
    · obtain ⟨_, _, _, _, h, _⟩ := z
      exact h.elim
    · obtain ⟨_, _, _, _, h, _⟩ := z
      exact h.elim
    · obtain ⟨h0, S', m', h1, ⟨h2, h4⟩, h3⟩ := z
      rw [h2] at h3
      cases h3
      rw [e2]
      exact ⟨h0, _, _, h1, h4, rfl⟩
    · exact z.elim
theorem js_cutR {τ ρ : Type} {f : MS} {m1 : Y (Fw ρ τ)} {k : Fw ρ τ → Y β} (T : τ → List SlR) (h : JS f S (KF K T k) m1) (hk : ∀ s, K.n (T s) (k (.go s))) : JS f S K (bY m1 k) := fun e he q hq => hs_fw (h e he) hk hq
/-! loops -/
abbrev KB (K : KS β) {τ ρ : Type} (T : τ → List SlR) (k : Fw ρ τ → Y β) : KS (Lp ρ τ) := ⟨fun S' m' => ∃ s, m' = okY (.go s) ∧ Wk S' (T s), fun v S' m' => ∃ a, m' = okY (.rt a) ∧ K.r v S' (k (.rt a)), fun S' m' => ∃ s, m' = okY (.bk s) ∧ Wk S' (T s), fun S' m' => ∃ s, m' = okY (.go s) ∧ Wk S' (T s), fun c S' m' => m' = exY c ∧ K.x c S' (exY c)⟩
abbrev KN (K : KS β) {τ : Type} (T : τ → List SlR) : KS τ := ⟨fun S' m' => ∃ s, m' = okY s ∧ Wk S' (T s), fun _ _ _ => False, fun _ _ => False, fun S' m' => ∃ s, m' = okY s ∧ Wk S' (T s), fun c S' m' => m' = exY c ∧ K.x c S' (exY c)⟩
section
variable {τ ρ : Type} {T : τ → List SlR} {tg : G1} {bd : MS}
theorem loopY_run {k : Fw ρ τ → Y β} {body : PyData → τ → Y (Lp ρ τ)} (hb : ∀ x s, JG tg x (T s) (fun S2 m2 => JS bd S2 (KB K T k) m2) (body x s)) : ∀ {xs : List PyData} {s : τ} {e : En}, EnvR (T s) e → ∀ q, forY xs s body = some q → HS e.length (loopF tg bd xs e) (KF K T k) q
  | [], s, e, he, q, h => ⟨rfl, T s, okY (.go s), he, ⟨s, rfl, Wk.refl _ fun r _ => wk_refl r⟩, h⟩
  | x :: xs, s, e, he, q, h => by
    have h : bY (body x s) (fun l => match l with
      | .go s => forY xs s body
      | .bk s => okY (.go s)
      | .rt r => okY (.rt r)) = some q := h
    have key : ∀ q', body x s = some q' → ∃ e1 e', tg x e = some e1 ∧ e1.length = e.length ∧ bd e1 = some e' ∧ HS e1.length (some e') (KB K T k) q' := fun q' hq' => by
      obtain ⟨e1, S1, m1, z1, z2, z3, z4, z5⟩ := hb x s e he q' hq'
      have y := z4 e1 z3 q' z5
      cases w : bd e1 with
      | none => rw [w] at y; exact y.elim
      | some e' => rw [w] at y; exact ⟨e1, e', z1, z2, w, y⟩
    unfold loopF
    rcases bY_some h with ⟨a, h1, h2⟩ | ⟨c, h1, h2⟩
    · obtain ⟨e1, e', z1, z2, z3, z4⟩ := key _ h1
      simp only [z1, z3]
      cases e' with
      | nx e2 =>
        obtain ⟨h0, S', m', y1, ⟨s', y2, y3⟩, y4⟩ := z4
        rw [y2] at y4
        cases y4
        exact hs_len (h0.trans z2) (loopY_run hb (y1.wk y3) q h2)
      | ct e2 =>
        obtain ⟨h0, S', m', y1, ⟨s', y2, y3⟩, y4⟩ := z4
        rw [y2] at y4
        cases y4
        exact hs_len (h0.trans z2) (loopY_run hb (y1.wk y3) q h2)
      | bk e2 =>
        obtain ⟨h0, S', m', y1, ⟨s', y2, y3⟩, y4⟩ := z4
        rw [y2] at y4
        cases y4
        exact ⟨h0.trans z2, S', _, y1, ⟨s', rfl, y3⟩, h2⟩
      | rt r e2 =>
        obtain ⟨h0, v, S', m', y1, hv, ⟨s', y2, y3⟩, y4⟩ := z4
        rw [y2] at y4
        cases y4
        exact ⟨h0.trans z2, v, S', _, y1, hv, ⟨s', rfl, y3⟩, h2⟩
      | ex c e2 =>
        obtain ⟨h0, S', m', y1, ⟨y2, y3⟩, y4⟩ := z4
        rw [y2] at y4
        cases y4
    · obtain ⟨e1, e', z1, z2, z3, z4⟩ := key _ h1
      simp only [z1, z3]
      cases e' with
      | nx e2 =>
        obtain ⟨h0, S', m', y1, ⟨s', y2, y3⟩, y4⟩ := z4
        rw [y2] at y4
        cases y4
      | ct e2 =>
        obtain ⟨h0, S', m', y1, ⟨s', y2, y3⟩, y4⟩ := z4
        rw [y2] at y4
        cases y4
      | bk e2 =>
        obtain ⟨h0, S', m', y1, ⟨s', y2, y3⟩, y4⟩ := z4
        rw [y2] at y4
        cases y4
      | rt r e2 =>
        obtain ⟨h0, v, S', m', y1, hv, ⟨s', y2, y3⟩, y4⟩ := z4
        rw [y2] at y4
        cases y4
      | ex c e2 =>
        obtain ⟨h0, S', m', y1, ⟨y2, y3⟩, y4⟩ := z4
        rw [y2] at y4
        cases y4
        subst h2
        exact ⟨h0.trans z2, S', _, y1, ⟨rfl, y3⟩, rfl⟩
theorem forS_Y {body : PyData → τ → Y τ} : ∀ {xs : List PyData} {s : τ}, forY xs s (fun x s => bY (body x s) fun s => okY (Lp.go (ρ := Empty) s)) = bY (forS xs s body) fun s => okY (Fw.go s)
  | [], s => rfl
  | x :: xs, s => by
    unfold forY forS
    simp only
    cases h : body x s with
    | none => rfl
    | some q =>
      cases q with
      | ok a => exact forS_Y (xs := xs) (s := a)
      | ex c => rfl
theorem loopS_run {body : PyData → τ → Y τ} (hb : ∀ x s, JG tg x (T s) (fun S2 m2 => JS bd S2 (KN K T) m2) (body x s)) {xs : List PyData} {s : τ} {e : En} (he : EnvR (T s) e) {k : τ → Y β} (hk : ∀ s, K.n (T s) (k s)) (q : Rs β) (h : bY (forS xs s body) k = some q) : HS e.length (loopF tg bd xs e) K q := by
  let k' : Fw Empty τ → Y β := fun w => match w with
    | .go s => k s
    | .rt r => nomatch r
  have z : bY (forY xs s (fun x s => bY (body x s) fun s => okY (Lp.go (ρ := Empty) s))) k' = some q := by
    rw [forS_Y, ← h]
    cases forS xs s body with
    | none => rfl
    | some q => cases q <;> rfl
  refine hs_fw (T := T) (k := k') (fun q' hq' => loopY_run (fun x s e he q hq => ?_) he q' hq') (fun s => hk s) z
  have gen : ∀ q0, body x s = some q0 → ∀ q1, (match q0 with | .ok s => (okY (Lp.go (ρ := Empty) s)) | .ex c => exY c) = some q1 → ∃ e1 S1 m1, tg x e = some e1 ∧ e1.length = e.length ∧ EnvR S1 e1 ∧ JS bd S1 (KB K T k') m1 ∧ m1 = some q1 := fun q0 h0 q1 h1 => by
    obtain ⟨e1, S1, m1, z1, z2, z3, z4, z5⟩ := hb x s e he q0 h0
    refine ⟨e1, S1, some q1, z1, z2, z3, fun e' he' q' hq' => ?_, rfl⟩
    cases hq'
    have y := z4 e' he' q0 z5
    unfold HS at y ⊢
    split at y
    · obtain ⟨w0, S', m', w1, ⟨s', w2, w3⟩, w4⟩ := y
      rw [w2] at w4
      cases w4
      cases h1
      exact ⟨w0, S', _, w1, ⟨s', rfl, w3⟩, rfl⟩
    · obtain ⟨_, _, _, _, _, _, h, _⟩ := y
      exact h.elim
    · obtain ⟨_, _, _, _, h, _⟩ := y
      exact h.elim
    · obtain ⟨w0, S', m', w1, ⟨s', w2, w3⟩, w4⟩ := y
      rw [w2] at w4
      cases w4
      cases h1
      exact ⟨w0, S', _, w1, ⟨s', rfl, w3⟩, rfl⟩
    · obtain ⟨w0, S', m', w1, ⟨w2, w3⟩, w4⟩ := y
      rw [w2] at w4
      cases w4
      cases h1
      exact ⟨w0, S', _, w1, ⟨rfl, w3⟩, rfl⟩
    · exact y.elim
  rcases bY_some hq with ⟨a, h1, h2⟩ | ⟨c, h1, h2⟩
  · exact gen _ h1 q h2
  · subst h2
    exact gen _ h1 _ rfl
/-- a loop that is gone through to its end -/
theorem js_forS (T : τ → List SlR) {it : M (List PyData)} (h : JI it S K.x (fun xs S1 m1 => ∃ (s0 : τ) (body : PyData → τ → Y τ) (k : τ → Y β), m1 = bY (forS xs s0 body) k ∧ Wk S1 (T s0) ∧ (∀ x s, JG tg x (T s) (fun S2 m2 => JS bd S2 (KN K T) m2) (body x s)) ∧ ∀ s, K.n (T s) (k s)) m) : JS (fFor it tg bd) S K m := fun e he q hq =>
  hs_bnd (h e he q hq) fun xs e1 xs' S1 m1 _ he1 hx ⟨s0, body, k, h1, h2, h3, h4⟩ hq1 => by
    subst hx
    rw [h1] at hq1
    exact loopS_run h3 (he1.wk h2) h4 q hq1
theorem js_forY (T : τ → List SlR) {it : M (List PyData)} (h : JI it S K.x (fun xs S1 m1 => ∃ (s0 : τ) (body : PyData → τ → Y (Lp ρ τ)) (k : Fw ρ τ → Y β), m1 = bY (forY xs s0 body) k ∧ Wk S1 (T s0) ∧ (∀ x s, JG tg x (T s) (fun S2 m2 => JS bd S2 (KB K T k) m2) (body x s)) ∧ ∀ s, K.n (T s) (k (.go s))) m) : JS (fFor it tg bd) S K m := fun e he q hq =>
  hs_bnd (h e he q hq) fun xs e1 xs' S1 m1 _ he1 hx ⟨s0, body, k, h1, h2, h3, h4⟩ hq1 => by
    subst hx
    rw [h1] at hq1
    exact hs_fw (fun q' hq' => loopY_run h3 (he1.wk h2) q' hq') h4 hq1
/-- .. over the keys of a dict -/
theorem js_forKS (T : τ → List SlR) {i : Nat} (h : JK i S (fun kvs S1 m1 => ∃ (s0 : τ) (body : PyData → τ → Y τ) (k : τ → Y β), m1 = bY (forS (keysD kvs) s0 body) k ∧ Wk S1 (T s0) ∧ (∀ x s, JG tg x (T s) (fun S2 m2 => JS bd S2 (KN { K with x := fun _ _ _ => False } T) m2) (body x s)) ∧ ∀ s, K.n (T s) (k s)) m) : JS (fForK i tg bd) S K m := fun e he q hq => by
  obtain ⟨kvs, e1, S1, m1, h1, h2, h3, ⟨s0, body, k, h4, h5, h6, h7⟩, h8⟩ := h e he q hq
  rw [h4] at h8
  have z := hs_len h2 (loopS_run (K := { K with x := fun _ _ _ => False }) h6 (h3.wk h5) h7 q h8)
  unfold fForK
  simp only [h1]
  unfold HS at z
  split at z
  · rename_i w
    rw [show loopF tg bd (kvs.map fun kv => keyI kv.1) e1 = _ from w]
    exact z
  · rename_i w
    rw [show loopF tg bd (kvs.map fun kv => keyI kv.1) e1 = _ from w]
    exact z
  · rename_i w
    rw [show loopF tg bd (kvs.map fun kv => keyI kv.1) e1 = _ from w]
    exact z
  · rename_i w
    rw [show loopF tg bd (kvs.map fun kv => keyI kv.1) e1 = _ from w]
    exact z
  · obtain ⟨_, _, _, _, h, _⟩ := z
    exact h.elim
  · exact z.elim
/-- a while: each turn with its test -/
theorem whY_run {c : M Bool} {k : Fw ρ τ → Y β} {step : τ → Y (Lp ρ τ)} (hb : ∀ s, JT c (T s) (fun c S' m' => m' = exY c ∧ K.x c S' (exY c)) (fun t S1 m1 => ∃ mT mF, m1 = (if t = true then mT else mF) ∧ JS bd S1 (KB K T k) mT ∧ ∃ s', mF = okY (.bk s') ∧ Wk S1 (T s')) (step s)) :
    ∀ {n : Nat} {s : τ} {e : En}, EnvR (T s) e → ∀ q, whY n s step = some q → ∃ o, whileF c bd n e = some o ∧ HS e.length (some o) (KF K T k) q
  | 0, _, _, _, _, h => by cases h
  | n + 1, s, e, he, q, h => by
    have h : bY (step s) (fun l => match l with
      | .go s => whY n s step
      | .bk s => okY (.go s)
      | .rt r => okY (.rt r)) = some q := h
    unfold whileF
    have start : ∀ q', step s = some q' → HX Bool Eq e.length (c e) (fun c S' m' => m' = exY c ∧ K.x c S' (exY c)) (fun t S1 m1 => ∃ mT mF, m1 = (if t = true then mT else mF) ∧ JS bd S1 (KB K T k) mT ∧ ∃ s', mF = okY (.bk s') ∧ Wk S1 (T s')) q' := fun q' hq' => hb s e he q' hq'
    rcases bY_some h with ⟨a, h1, h2⟩ | ⟨cc, h1, h2⟩
    · have z := start _ h1
      unfold HX at z
      split at z
      · rename_i t e1 w
        obtain ⟨h0, t', S1, m1, y1, y2, ⟨mT, mF, y3, y4, y5⟩, y6⟩ := z
        subst y2
        rw [y3] at y6
        cases t' with
        | true =>
          have x := y4 e1 y1 _ y6
          cases w2 : bd e1 with
          | none => rw [w2] at x; exact x.elim
          | some e' =>
            rw [w2] at x
            simp only [bndS, w, w2, if_true]
            cases e' with
            | nx e2 =>
              obtain ⟨h0', S', m', x1, ⟨s', x2, x3⟩, x4⟩ := x
              rw [x2] at x4
              cases x4
              obtain ⟨o, v1, v2⟩ := whY_run hb (x1.wk x3) q h2
              exact ⟨o, v1, hs_len (h0'.trans h0) v2⟩
            | ct e2 =>
              obtain ⟨h0', S', m', x1, ⟨s', x2, x3⟩, x4⟩ := x
              rw [x2] at x4
              cases x4
              obtain ⟨o, v1, v2⟩ := whY_run hb (x1.wk x3) q h2
              exact ⟨o, v1, hs_len (h0'.trans h0) v2⟩
            | bk e2 =>
              obtain ⟨h0', S', m', x1, ⟨s', x2, x3⟩, x4⟩ := x
              rw [x2] at x4
              cases x4
              exact ⟨_, rfl, h0'.trans h0, S', _, x1, ⟨s', rfl, x3⟩, h2⟩
            | rt r e2 =>
              obtain ⟨h0', v, S', m', x1, hv, ⟨s', x2, x3⟩, x4⟩ := x
              rw [x2] at x4
              cases x4
              exact ⟨_, rfl, h0'.trans h0, v, S', _, x1, hv, ⟨s', rfl, x3⟩, h2⟩
            | ex c e2 =>
              obtain ⟨h0', S', m', x1, ⟨x2, x3⟩, x4⟩ := x
              rw [x2] at x4
              cases x4
        | false =>
          obtain ⟨s', x1, x2⟩ := y5
          rw [x1] at y6
          cases y6
          simp only [bndS, w, Bool.false_eq_true, if_false]
          exact ⟨_, rfl, h0, S1, _, y1, ⟨s', rfl, x2⟩, h2⟩
      · obtain ⟨_, _, _, _, ⟨x1, _⟩, x2⟩ := z
        rw [x1] at x2
        cases x2
      · exact z.elim
    · have z := start _ h1
      unfold HX at z
      split at z
      · rename_i t e1 w
        obtain ⟨h0, t', S1, m1, y1, y2, ⟨mT, mF, y3, y4, y5⟩, y6⟩ := z
        subst y2
        rw [y3] at y6
        cases t' with
        | true =>
          have x := y4 e1 y1 _ y6
          cases w2 : bd e1 with
          | none => rw [w2] at x; exact x.elim
          | some e' =>
            rw [w2] at x
            simp only [bndS, w, w2, if_true]
            cases e' with
            | nx e2 =>
              obtain ⟨h0', S', m', x1, ⟨s', x2, x3⟩, x4⟩ := x
              rw [x2] at x4
              cases x4
            | ct e2 =>
              obtain ⟨h0', S', m', x1, ⟨s', x2, x3⟩, x4⟩ := x
              rw [x2] at x4
              cases x4
            | bk e2 =>
              obtain ⟨h0', S', m', x1, ⟨s', x2, x3⟩, x4⟩ := x
              rw [x2] at x4
              cases x4
            | rt r e2 =>
              obtain ⟨h0', v, S', m', x1, hv, ⟨s', x2, x3⟩, x4⟩ := x
              rw [x2] at x4
              cases x4
            | ex c e2 =>
              obtain ⟨h0', S', m', x1, ⟨x2, x3⟩, x4⟩ := x
              rw [x2] at x4
              cases x4
              subst h2
              exact ⟨_, rfl, h0'.trans h0, S', _, x1, ⟨rfl, x3⟩, rfl⟩
        | false =>
          obtain ⟨s', x1, x2⟩ := y5
          rw [x1] at y6
          cases y6
      · rename_i c' e1 w
        obtain ⟨h0, S', m', x0, ⟨x1, x3⟩, x2⟩ := z
        rw [x1] at x2
        cases x2
        subst h2
        simp only [bndS, w]
        exact ⟨_, rfl, h0, S', _, x0, ⟨rfl, x3⟩, rfl⟩
      · exact z.elim
theorem js_while (T : τ → List SlR) {c : M Bool} {k : Fw ρ τ → Y β} {step : τ → Y (Lp ρ τ)} {s0 : τ} (h0 : Wk S (T s0))
    (hb : ∀ s, JT c (T s) (fun c S' m' => m' = exY c ∧ K.x c S' (exY c)) (fun t S1 m1 => ∃ mT mF, m1 = (if t = true then mT else mF) ∧ JS bd S1 (KB K T k) mT ∧ ∃ s', mF = okY (.bk s') ∧ Wk S1 (T s')) (step s)) (hk : ∀ s, K.n (T s) (k (.go s))) : JS (fWhile c bd) S K (bY (whY WN s0 step) k) := fun e he q hq => by
  refine hs_fw (fun q' hq' => ?_) hk hq
  obtain ⟨o, h1, h2⟩ := whY_run hb (he.wk h0) q' hq'
  rw [fWhile_of h1]
  exact h2
end
/-! ### defs -/
def outR : En → List SlR → Option En
  | [], _ => some []
  | .m _ _ :: as, .m w o :: S => (outR as S).map (.m w o :: ·)
  | .m _ _ :: _, _ => none
  | a :: as, _ :: S => (outR as S).map (a :: ·)
  | _ :: _, [] => none
theorem EnvR.tail {r : SlR} {S : List SlR} {s : Sl} {e : En} (h : EnvR (r :: S) (s :: e)) : EnvR S e := ⟨Nat.succ.inj h.len, fun i r hi => h.sl (i + 1) r (by simpa using hi)⟩
theorem EnvR.head {r : SlR} {S : List SlR} {s : Sl} {e : En} (h : EnvR (r :: S) (s :: e)) : SlRel r s := by
  obtain ⟨s', h1, h2⟩ := h.sl 0 r rfl
  cases h1
  exact h2
theorem outs_ok : ∀ {args : En} {S : List SlR} {e l : En}, EnvR S e → outR args S = some l → outs args e = l ∧ l.length = args.length
  | [], _, _, l, _, h => by
    cases h
    exact ⟨by unfold outs; rfl, rfl⟩
  | a :: as, [], _, l, _, h => by cases a <;> cases h
  | a :: as, r :: S, [], l, he, h => by cases he.len
  | a :: as, r :: S, s :: e, l, he, h => by
    have hd := he.head
    cases a with
    | m w0 o0 =>
      cases r with
      | m w o =>
        cases (show s = .m w o from hd)
        have h : (outR as S).map (Sl.m w o :: ·) = some l := h
        cases q : outR as S with
        | none => rw [q] at h; cases h
        | some l' =>
          rw [q] at h
          cases h
          obtain ⟨h1, h2⟩ := outs_ok he.tail q
          exact ⟨by simp only [outs, h1], congrArg Nat.succ h2⟩
      | _ => cases h
    | un =>
      have h : (outR as S).map (Sl.un :: ·) = some l := h
      cases q : outR as S with
      | none => rw [q] at h; cases h
      | some l' =>
        rw [q] at h
        cases h
        obtain ⟨h1, h2⟩ := outs_ok he.tail q
        exact ⟨by simp only [outs, h1], congrArg Nat.succ h2⟩
    | d x =>
      have h : (outR as S).map (Sl.d x :: ·) = some l := h
      cases q : outR as S with
      | none => rw [q] at h; cases h
      | some l' =>
        rw [q] at h
        cases h
        obtain ⟨h1, h2⟩ := outs_ok he.tail q
        exact ⟨by simp only [outs, h1], congrArg Nat.succ h2⟩
    | f x =>
      have h : (outR as S).map (Sl.f x :: ·) = some l := h
      cases q : outR as S with
      | none => rw [q] at h; cases h
      | some l' =>
        rw [q] at h
        cases h
        obtain ⟨h1, h2⟩ := outs_ok he.tail q
        exact ⟨by simp only [outs, h1], congrArg Nat.succ h2⟩
def fin (S : List SlR) (v : RV) : Option RV := match v with
  | .v d => some (.v d)
  | .o o => some (.o o)
  | .fn a => some (.fn a)
  | .p i => match S[i]? with
    | some (.d x) => some (.v x)
    | some (.m true o) => some (.o o)
    | _ => none
theorem fin_ok {S : List SlR} {v v' : RV} {r : RD} {e : En} (he : EnvR S e) (hv : RVRel v r) (h : fin S v = some v') : ∃ r', expR r e = some r' ∧ RVRel v' r' ∧ isPl r' = false := by
  cases v with
  | v d =>
    cases h
    rcases hv with rfl | ⟨o, rfl, rfl⟩
    · exact ⟨_, rfl, Or.inl rfl, rfl⟩
    · exact ⟨_, rfl, Or.inr ⟨o, rfl, rfl⟩, rfl⟩
  | o o =>
    cases h
    cases (show r = .own o from hv)
    exact ⟨_, rfl, rfl, rfl⟩
  | fn a =>
    cases h
    cases (show r = .fn a from hv)
    exact ⟨_, rfl, rfl, rfl⟩
  | p i =>
    cases (show r = .pl i from hv)
    unfold fin at h
    unfold expR
    simp only at h ⊢
    cases q : S[i]? with
    | none => rw [q] at h; cases h
    | some s =>
      obtain ⟨s', h1, h2⟩ := he.at q
      rw [q] at h
      rw [h1]
      cases s with
      | d x =>
        cases (show s' = .d x from h2)
        cases h
        exact ⟨_, rfl, Or.inl rfl, rfl⟩
      | m w o =>
        cases (show s' = .m w o from h2)
        cases w with
        | true =>
          cases h
          exact ⟨_, rfl, rfl, rfl⟩
        | false => cases h
      | _ => cases h
abbrev KD {α : Type} (args : En) (rv : α → RV) (out : α → En) : KS α := ⟨fun S m => ∃ a, m = okY a ∧ rv a = .v .none ∧ outR args S = some (out a), fun v S m => ∃ a v', m = okY a ∧ fin S v = some v' ∧ rle v' (rv a) ∧ outR args S = some (out a), fun _ _ => False, fun _ _ => False, fun c S m => m = exY c ∧ Nat.ble args.length S.length = true⟩
theorem gr_fn {α : Type} {n : Nat} {b : MS} {args : En} {S0 : List SlR} {m : Y α} {rv : α → RV} {out : α → En} (h0 : EnvR S0 (args ++ List.replicate (n - args.length) .un)) (h : JS b S0 (KD args rv out) m) : GR args.length (mkFn n b args) m rv out := fun q hq => by
  have z := h _ h0 q hq
  unfold HS at z
  unfold mkFn
  split at z
  · rename_i e w
    obtain ⟨_, S, m', h1, ⟨a, h2, h3, h4⟩, h5⟩ := z
    rw [h2] at h5
    cases h5
    obtain ⟨h6, h7⟩ := outs_ok h1 h4
    rw [w]
    exact ⟨.val .none, by simp only [h6], by rw [h3]; exact Or.inl rfl, rfl, h7⟩
  · rename_i r e w
    obtain ⟨_, v, S, m', h1, hv, ⟨a, v', h2, h3, h4, h5⟩, h6⟩ := z
    rw [h2] at h6
    cases h6
    obtain ⟨h7, h8⟩ := outs_ok h1 h5
    obtain ⟨r', h9, h10, h11⟩ := fin_ok h1 hv h3
    rw [w]
    exact ⟨r', by simp only [h9, h7], rle_rel h4 h10, h11, h8⟩
  · obtain ⟨_, _, _, _, h, _⟩ := z
    exact h.elim
  · obtain ⟨_, _, _, _, h, _⟩ := z
    exact h.elim
  · rename_i c e w
    obtain ⟨_, S, m', h1, ⟨h2, h3⟩, h4⟩ := z
    rw [h2] at h4
    cases h4
    rw [w]
    exact ⟨_, rfl, outs_len _ _ (by rw [← h1.len]; exact Nat.le_of_ble_eq_true h3)⟩
  · exact z.elim
def toR : Sl → SlR
  | .un => .j
  | .d x => .d x
  | .m w o => .m w o
  | .f a => .f a
theorem toR_rel (s : Sl) : SlRel (toR s) s := by
  cases s with
  | un => exact Or.inl rfl
  | _ => rfl
theorem envR_to (e : En) : EnvR (e.map toR) e := ⟨List.length_map .., fun i r hi => by
  rw [List.getElem?_map] at hi
  cases q : e[i]? with
  | none => rw [q] at hi; cases hi
  | some s =>
    rw [q] at hi
    cases hi
    exact ⟨s, rfl, toR_rel s⟩⟩
theorem envR_is {S : List SlR} {e : En} (h : e.map toR = S) : EnvR S e := h ▸ envR_to e
/-- a law's def that comes to True -/
theorem gr_true {g : Option Fo} {n : Nat} {m : Y PyData} {out : PyData → En} (h : GR n g m RV.v out) (hm : m = okY (.bool true)) : ∃ out, g = some (.rt (.val (.bool true)) out) := by
  obtain ⟨r, h1, h2, _⟩ := h _ hm
  have z := val_bool h2 rfl
  subst z
  exact ⟨_, h1⟩
end
end Mr
namespace Mr
open PySem PySem.Spec PyProof.Rows L2 PySem.W Pv
section
variable {β : Type} {S : List SlR} {E : KE β} {K : KX β} {m : Y β}
/-- a call with arguments that lie fast while it runs -/
theorem jx_funB {n : Nat} {g : Fn} {fs : List (M RD)}
    (h : JA fs S E (fun rvs S1 m1 => ∃ ds, rvds S1 rvs = some ds ∧ ds.length = n ∧ ∃ (mg : Y PyData) (out : PyData → En) (k : PyData → Y β), GR ds.length (g (ds.map .d)) mg (fun a => RV.v a) out ∧ m1 = bY mg (fun a => bG (atomD a) (k a)) ∧ (∀ a, K (.v a) S1 (k a)) ∧ ∀ c, E c S1 (exY c)) m) : JX (fFunB n g fs) S E K m := fun e he q hq =>
  hx_bnd (h e he q hq) fun rs e1 vs S1 m1 _ he1 hvs ⟨ds, hd, hn, mg, out, k, gr, e2, hk, hc⟩ hq1 => by
    rw [e2] at hq1
    simp only [rvds_ok he1 hvs hd, if_pos hn]
    rcases bY_some hq1 with ⟨a, e4, hq2⟩ | ⟨c, e4, hq2⟩
    · obtain ⟨ha, hq3⟩ := bG_some hq2
      obtain ⟨r, z1, z2, z3, z4⟩ := gr _ e4
      rcases (show r = .val a ∨ ∃ o, r = .own o ∧ o.d = a from z2) with rfl | ⟨o, rfl, rfl⟩
      · simp only [z1, if_pos ha]
        exact ⟨rfl, _, _, _, he1, (show RVRel (.v a) (.val a) from Or.inl rfl), hk _, hq3⟩
      · cases o <;> cases ha
    · obtain ⟨out', z1, z4⟩ := gr _ e4
      simp only [z1]
      subst hq2
      exact ⟨rfl, _, _, he1, hc c, rfl⟩
theorem jx_funBn {n : Nat} {g : Fn} {fs : List (M RD)}
    (h : JA fs S E (fun rvs S1 m1 => ∃ ds, rvds S1 rvs = some ds ∧ ds.length = n ∧ ∃ (mg : Y PyData) (out : PyData → En) (k : PyData → Y β), GR ds.length (g (ds.map .d)) mg (fun a => RV.v a) out ∧ m1 = bYn mg (fun a => bG (atomD a) (k a)) ∧ (∀ a, K (.v a) S1 (k a))) m) : JX (fFunB n g fs) S E K m := fun e he q hq =>
  hx_bnd (h e he q hq) fun rs e1 vs S1 m1 _ he1 hvs ⟨ds, hd, hn, mg, out, k, gr, e2, hk⟩ hq1 => by
    rw [e2] at hq1
    simp only [rvds_ok he1 hvs hd, if_pos hn]
    obtain ⟨a, e4, hq2⟩ := bYn_some hq1
    obtain ⟨ha, hq3⟩ := bG_some hq2
    obtain ⟨r, z1, z2, z3, z4⟩ := gr _ e4
    rcases (show r = .val a ∨ ∃ o, r = .own o ∧ o.d = a from z2) with rfl | ⟨o, rfl, rfl⟩
    · simp only [z1, if_pos ha]
      exact ⟨rfl, _, _, _, he1, (show RVRel (.v a) (.val a) from Or.inl rfl), hk _, hq3⟩
    · cases o <;> cases ha
end
end Mr
namespace Mr
open PySem PySem.Spec PyProof.Rows L2 PySem.W Pv
section
variable {β : Type} {S : List SlR} {E : KE β} {K : KX β} {m : Y β}
/-- a call with arguments that lie fast while it runs -/
theorem jx_funT {n : Nat} {g : Fn} {fs : List (M RD)}
    (h : JA fs S E (fun rvs S1 m1 => ∃ ds, rvds S1 rvs = some ds ∧ ds.length = n ∧ ∃ (mg : Y PyData) (out : PyData → En) (k : PyData → Y β), GR ds.length (g (ds.map .d)) mg (fun a => RV.v a) out ∧ m1 = bY mg (fun a => bG (tupD a) (k a)) ∧ (∀ a, K (.v a) S1 (k a)) ∧ ∀ c, E c S1 (exY c)) m) : JX (fFunT n g fs) S E K m := fun e he q hq =>
  hx_bnd (h e he q hq) fun rs e1 vs S1 m1 _ he1 hvs ⟨ds, hd, hn, mg, out, k, gr, e2, hk, hc⟩ hq1 => by
    rw [e2] at hq1
    simp only [rvds_ok he1 hvs hd, if_pos hn]
    rcases bY_some hq1 with ⟨a, e4, hq2⟩ | ⟨c, e4, hq2⟩
    · obtain ⟨ha, hq3⟩ := bG_some hq2
      obtain ⟨r, z1, z2, z3, z4⟩ := gr _ e4
      rcases (show r = .val a ∨ ∃ o, r = .own o ∧ o.d = a from z2) with rfl | ⟨o, rfl, rfl⟩
      · simp only [z1, if_pos ha]
        exact ⟨rfl, _, _, _, he1, (show RVRel (.v a) (.val a) from Or.inl rfl), hk _, hq3⟩
      · cases o <;> simp [Ob.d, tupD] at ha
    · obtain ⟨out', z1, z4⟩ := gr _ e4
      simp only [z1]
      subst hq2
      exact ⟨rfl, _, _, he1, hc c, rfl⟩
theorem jx_funTn {n : Nat} {g : Fn} {fs : List (M RD)}
    (h : JA fs S E (fun rvs S1 m1 => ∃ ds, rvds S1 rvs = some ds ∧ ds.length = n ∧ ∃ (mg : Y PyData) (out : PyData → En) (k : PyData → Y β), GR ds.length (g (ds.map .d)) mg (fun a => RV.v a) out ∧ m1 = bYn mg (fun a => bG (tupD a) (k a)) ∧ (∀ a, K (.v a) S1 (k a))) m) : JX (fFunT n g fs) S E K m := fun e he q hq =>
  hx_bnd (h e he q hq) fun rs e1 vs S1 m1 _ he1 hvs ⟨ds, hd, hn, mg, out, k, gr, e2, hk⟩ hq1 => by
    rw [e2] at hq1
    simp only [rvds_ok he1 hvs hd, if_pos hn]
    obtain ⟨a, e4, hq2⟩ := bYn_some hq1
    obtain ⟨ha, hq3⟩ := bG_some hq2
    obtain ⟨r, z1, z2, z3, z4⟩ := gr _ e4
    rcases (show r = .val a ∨ ∃ o, r = .own o ∧ o.d = a from z2) with rfl | ⟨o, rfl, rfl⟩
    · simp only [z1, if_pos ha]
      exact ⟨rfl, _, _, _, he1, (show RVRel (.v a) (.val a) from Or.inl rfl), hk _, hq3⟩
    · cases o <;> simp [Ob.d, tupD] at ha
end
end Mr
namespace Law
open PySem PySem.Spec PyProof.Rows L2 PySem.W Pv Mr
def topS (i : Nat) : Stmt := PySem.Challenge.pw_heapwise_k76_common.main.body.getD i (.Pass ⟨0, 0, 0, 0⟩)
abbrev FnP (K : PySem.W.Frag) (x : Str) (st : Stmt) (f : Addr) (fd : FuncData) : Prop := FunD K x x (defArgs st) (defBody st) (defScope st) [] [] f fd
abbrev Fx (K : PySem.W.Frag) (mg : Str → Option Value) (x : Str) (st : Stmt) : Prop := ∃ f fd, FnP K x st f fd ∧ mg x = some (.ref f)
abbrev ltD : PyData → PyData → Option RD := cmpD cAl PySem.W.dataLt
abbrev gtD : PyData → PyData → Option RD := cmpD cAl fun x y => PySem.W.dataLt y x
abbrev leD : PyData → PyData → Option RD := cmpD cAl fun x y => !PySem.W.dataLt y x
abbrev geD : PyData → PyData → Option RD := cmpD cAl fun x y => !PySem.W.dataLt x y
abbrev s__law_begun : Stmt := topS 20
abbrev s__law_next : Stmt := topS 21
abbrev s__law_names : Stmt := topS 22
abbrev s__law_joined_heaps : Stmt := topS 23
abbrev s__law_nest : Stmt := topS 24
abbrev s__law_cross : Stmt := topS 25
abbrev s__law_fits : Stmt := topS 26
abbrev s__law_near : Stmt := topS 27
abbrev s__law_nests : Stmt := topS 28
abbrev s__law_due : Stmt := topS 29
abbrev s_is_name : Stmt := topS 8
abbrev s_do_rise : Stmt := topS 9
abbrev s_is_heap : Stmt := topS 10
abbrev s_do_cross : Stmt := topS 12
abbrev s_first_crossing : Stmt := topS 13
abbrev s_is_nest : Stmt := topS 14
abbrev s_top_of : Stmt := topS 15
abbrev s_need_nests : Stmt := topS 17
abbrev s_common : Stmt := topS 18
abbrev s__law_as : Stmt := topS 30
abbrev s__law_right : Stmt := topS 31
abbrev s_law : Stmt := topS 32
/-- what is known of the module -/
structure Facts (S : Sx) (mg : Str → Option Value) : Prop where
  f__law_begun : Fx S.K mg "_law_begun" s__law_begun
  f__law_next : Fx S.K mg "_law_next" s__law_next
  f__law_names : Fx S.K mg "_law_names" s__law_names
  f__law_joined_heaps : Fx S.K mg "_law_joined_heaps" s__law_joined_heaps
  f__law_nest : Fx S.K mg "_law_nest" s__law_nest
  f__law_cross : Fx S.K mg "_law_cross" s__law_cross
  f__law_fits : Fx S.K mg "_law_fits" s__law_fits
  f__law_near : Fx S.K mg "_law_near" s__law_near
  f__law_nests : Fx S.K mg "_law_nests" s__law_nests
  f__law_due : Fx S.K mg "_law_due" s__law_due
  f_is_name : Fx S.K mg "is_name" s_is_name
  f_do_rise : Fx S.K mg "do_rise" s_do_rise
  f_is_heap : Fx S.K mg "is_heap" s_is_heap
  f_do_cross : Fx S.K mg "do_cross" s_do_cross
  f_first_crossing : Fx S.K mg "first_crossing" s_first_crossing
  f_is_nest : Fx S.K mg "is_nest" s_is_nest
  f_top_of : Fx S.K mg "top_of" s_top_of
  f_need_nests : Fx S.K mg "need_nests" s_need_nests
  f_common : Fx S.K mg "common" s_common
  f__law_as : Fx S.K mg "_law_as" s__law_as
  f__law_right : Fx S.K mg "_law_right" s__law_right
  f_law : Fx S.K mg "law" s_law
  n_all : mg "all" = none
  n_any : mg "any" = none
  n_dict : mg "dict" = none
  n_enumerate : mg "enumerate" = none
  n_isinstance : mg "isinstance" = none
  n_len : mg "len" = none
  n_list : mg "list" = none
  n_max : mg "max" = none
  n_min : mg "min" = none
  n_range : mg "range" = none
  n_sorted : mg "sorted" = none
  n_str : mg "str" = none
  n_tuple : mg "tuple" = none
  m_LETTERS : ∃ t, mg "LETTERS" = some (.str "abcdefghijklmnopqrstuvwxyz" t)
  m_MOST_LETTERS : ∃ t, mg "MOST_LETTERS" = some (.int 6 t)
  m_MOST_NAMES : ∃ t, mg "MOST_NAMES" = some (.int 12 t)
  e_NoName : PySem.W.excIn S.K (S.cl "NoName") [.type "ValueError", .type "Exception", .type "BaseException", .type "object"] "ValueError.__new__" = true ∧ mg "NoName" = some (.ref (S.cl "NoName")) ∧ PySem.W.keepIn S.K (.ref (S.cl "NoName")) = true ∧ PySem.W.subIn S.K (.ref (S.cl "NoName")) (.type "BaseException") = some true ∧ PySem.W.typeIn S.K (.ref (S.cl "NoName")) = some (.type "type")
  e_NoNest : PySem.W.excIn S.K (S.cl "NoNest") [.type "ValueError", .type "Exception", .type "BaseException", .type "object"] "ValueError.__new__" = true ∧ mg "NoNest" = some (.ref (S.cl "NoNest")) ∧ PySem.W.keepIn S.K (.ref (S.cl "NoNest")) = true ∧ PySem.W.subIn S.K (.ref (S.cl "NoNest")) (.type "BaseException") = some true ∧ PySem.W.typeIn S.K (.ref (S.cl "NoNest")) = some (.type "type")
section
variable {S : Sx} {P : Program} {w : World} {mg : Str → Option Value} {base : Heap}
theorem pickA {K : PySem.W.Frag} {mg : Str → Option Value} {x : Str} {st : Stmt} {a : Addr} (h : Fx K mg x st) (e : mg x = some (.ref a)) : ∃ fd, FnP K x st a fd := by
  obtain ⟨f, fd, F, hm⟩ := h
  rw [e] at hm
  cases hm
  exact ⟨fd, F⟩
theorem sc__law_begun : FnScope ["_law_cell", "_law_k", "_law_mixed"] ["_law_cell", "_law_k"] (defScope s__law_begun) := ⟨rfl, rfl, rfl, by decide +kernel, rfl, by decide +kernel, by decide +kernel⟩
theorem sc__law_next : FnScope ["_law_draw", "_law_size", "_law_number", "_law_mixed"] ["_law_draw", "_law_size"] (defScope s__law_next) := ⟨rfl, rfl, rfl, by decide +kernel, rfl, by decide +kernel, by decide +kernel⟩
theorem sc__law_names : FnScope ["_law_draw", "_law_many", "_law_letters", "_law_shift", "_law_way", "_law_found", "_law_k", "_law_letter", "_law_alike", "_law_run"] ["_law_draw", "_law_many"] (defScope s__law_names) := ⟨rfl, rfl, rfl, by decide +kernel, rfl, by decide +kernel, by decide +kernel⟩
theorem sc__law_joined_heaps : FnScope ["_law_draw", "_law_left", "_law_found", "_law_many", "_law_joined", "_law_turn"] ["_law_draw", "_law_left", "_law_found"] (defScope s__law_joined_heaps) := ⟨rfl, rfl, rfl, by decide +kernel, rfl, by decide +kernel, by decide +kernel⟩
theorem sc__law_nest : FnScope ["_law_draw", "_law_names_here", "_law_name"] ["_law_draw", "_law_names_here"] (defScope s__law_nest) := ⟨rfl, rfl, rfl, by decide +kernel, rfl, by decide +kernel, by decide +kernel⟩
theorem sc__law_cross : FnScope ["_law_one", "_law_other", "_law_both", "_law_name"] ["_law_one", "_law_other"] (defScope s__law_cross) := ⟨rfl, rfl, rfl, by decide +kernel, rfl, by decide +kernel, by decide +kernel⟩
theorem sc__law_fits : FnScope ["_law_nest_here", "_law_heap", "_law_one"] ["_law_nest_here", "_law_heap"] (defScope s__law_fits) := ⟨rfl, rfl, rfl, by decide +kernel, rfl, by decide +kernel, by decide +kernel⟩
theorem sc__law_near : FnScope ["_law_draw", "_law_nest_here", "_law_inner", "_law_found", "_law_turn", "_law_one", "_law_other", "_law_joined", "_law_heap", "_law_name"] ["_law_draw", "_law_nest_here"] (defScope s__law_near) := ⟨rfl, rfl, rfl, by decide +kernel, rfl, by decide +kernel, by decide +kernel⟩
theorem sc__law_nests : FnScope ["_law_draw", "_law_most", "_law_many", "_law_names_here", "_law_found", "_law_turn", "_law_base"] ["_law_draw", "_law_most", "_law_many"] (defScope s__law_nests) := ⟨rfl, rfl, rfl, by decide +kernel, rfl, by decide +kernel, by decide +kernel⟩
theorem sc__law_due : FnScope ["_law_nests_here", "_law_found", "_law_heap", "_law_nest_here"] ["_law_nests_here"] (defScope s__law_due) := ⟨rfl, rfl, rfl, by decide +kernel, rfl, by decide +kernel, by decide +kernel⟩
theorem sc_is_name : FnScope ["thing"] ["thing"] (defScope s_is_name) := ⟨rfl, rfl, rfl, by decide +kernel, rfl, by decide +kernel, by decide +kernel⟩
theorem sc_do_rise : FnScope ["things", "place"] ["things"] (defScope s_do_rise) := ⟨rfl, rfl, rfl, by decide +kernel, rfl, by decide +kernel, by decide +kernel⟩
theorem sc_is_heap : FnScope ["thing", "one"] ["thing"] (defScope s_is_heap) := ⟨rfl, rfl, rfl, by decide +kernel, rfl, by decide +kernel, by decide +kernel⟩
theorem sc_do_cross : FnScope ["one", "other", "both", "name"] ["one", "other"] (defScope s_do_cross) := ⟨rfl, rfl, rfl, by decide +kernel, rfl, by decide +kernel, by decide +kernel⟩
theorem sc_first_crossing : FnScope ["heaps", "first", "one", "last"] ["heaps"] (defScope s_first_crossing) := ⟨rfl, rfl, rfl, by decide +kernel, rfl, by decide +kernel, by decide +kernel⟩
theorem sc_is_nest : FnScope ["thing", "names", "heap", "name"] ["thing"] (defScope s_is_nest) := ⟨rfl, rfl, rfl, by decide +kernel, rfl, by decide +kernel, by decide +kernel⟩
theorem sc_top_of : FnScope ["nest"] ["nest"] (defScope s_top_of) := ⟨rfl, rfl, rfl, by decide +kernel, rfl, by decide +kernel, by decide +kernel⟩
theorem sc_need_nests : FnScope ["nests", "nest"] ["nests"] (defScope s_need_nests) := ⟨rfl, rfl, rfl, by decide +kernel, rfl, by decide +kernel, by decide +kernel⟩
theorem sc_common : FnScope ["nests", "heap", "nest"] ["nests"] (defScope s_common) := ⟨rfl, rfl, rfl, by decide +kernel, rfl, by decide +kernel, by decide +kernel⟩
theorem sc__law_as : FnScope ["_law_found", "_law_due_here"] ["_law_found", "_law_due_here"] (defScope s__law_as) := ⟨rfl, rfl, rfl, by decide +kernel, rfl, by decide +kernel, by decide +kernel⟩
theorem sc__law_right : FnScope ["_law_cell", "_law_k", "_law_draw", "_law_nests_here", "_law_more", "_law_due_here", "_law_handed", "_law_answer", "_law_many"] ["_law_cell", "_law_k"] (defScope s__law_right) := ⟨rfl, rfl, rfl, by decide +kernel, rfl, by decide +kernel, by decide +kernel⟩
theorem sc_law : FnScope ["_law_script", "_law_k", "_law_cell"] ["_law_script"] (defScope s_law) := ⟨rfl, rfl, rfl, by decide +kernel, rfl, by decide +kernel, by decide +kernel⟩
/-! ### _law_begun -/
noncomputable def b__law_begun (cl : Str → Addr) : MS := (fSeq (fIfS (fB (fBin geD (fVar 0) (fBin powD (fVal (.int 10)) (fVal (.int 18))))) (fRet (fLst [(fBin subD (fVar 0) (fBin powD (fVal (.int 10)) (fVal (.int 18)))), (fVal (.int 0))])) fNx)
  (fSeq (fAsg (gNm 2) (fBin modD (fBin addD (fBin mulD (fVar 0) (fVal (.int 48271))) (fBin mulD (fVal (.int 104729)) (fBin addD (fVar 1) (fVal (.int 1))))) (fVal (.int 2147483647))))
  (fRet (fLst [(fBin addD (fVal (.int 1)) (fBin modD (fBin addD (fBin mulD (fVar 2) (fVar 2)) (fBin mulD (fVal (.int 40692)) (fVar 2))) (fVal (.int 2147483629)))), (fVal (.int 1))]))))
noncomputable def g__law_begun (cl : Str → Addr) : Fn := mkFn 3 (b__law_begun cl)
theorem ok__law_begun (h : Facts S mg) : Df S P w mg base 1 "_law_begun" 2 (g__law_begun S.cl) := by
  obtain ⟨f, fd, F, hm⟩ := h.f__law_begun
  exact ⟨f, fd, ["_law_cell", "_law_k"], fn_def (k := 0) F sc__law_begun (fun cdv A outer s H E B g => (pf_cons (pf_if (pb_cmp (op_geD g.room) opd_dd g (pv_var 0) (pv_bin op_pow opd_pow g pv_int pv_int) (by first | rfl | exact nomark _)) (pf_one (pf_ret (pv_lst (pav_cons (pv_bin op_sub opd_sub g (pv_var 0) (pv_bin op_pow opd_pow g pv_int pv_int)) (pav_cons pv_int pav_nil))))) pf_nil)
  (pf_cons (pf_asg (pv_bin op_mod opd_mod g (pv_bin op_addD opd_add g (pv_bin op_mulD opd_mul g (pv_var 0) pv_int) (pv_bin op_mulD opd_mul g pv_int (pv_bin op_addD opd_add g (pv_var 1) pv_int))) pv_int) (pgv_name 2 g))
  (pf_one (pf_ret (pv_lst (pav_cons (pv_bin op_addD opd_add g pv_int (pv_bin op_mod opd_mod g (pv_bin op_addD opd_add g (pv_bin op_mulD opd_mul g (pv_var 2) (pv_var 2)) (pv_bin op_mulD opd_mul g pv_int (pv_var 2))) pv_int)) (pav_cons pv_int pav_nil)))))))) (by decide), hm, F.kp, F.bindsN fun _ _ _ _ _ _ us hl => match us, hl with | [_, _], _ => rfl⟩
def m__law_begun (cell : PyData) (k : PyData) : Y ((List PyData)) := (bO (powD (.int 10) (.int 18)) fun t =>
  (bO (geD cell t) fun t1 =>
  (bB t1 fun c =>
  (if c = true then
  (bO (powD (.int 10) (.int 18)) fun t2 =>
  (bO (subD cell t2) fun t3 =>
  (okY [t3, (.int 0)]))) else
  (bO (mulD cell (.int 48271)) fun t4 =>
  (bO (addD k (.int 1)) fun t5 =>
  (bO (mulD (.int 104729) t5) fun t6 =>
  (bO (addD t4 t6) fun t7 =>
  (bO (modD t7 (.int 2147483647)) fun mixed =>
  (bO (mulD mixed mixed) fun t8 =>
  (bO (mulD (.int 40692) mixed) fun t9 =>
  (bO (addD t8 t9) fun t10 =>
  (bO (modD t10 (.int 2147483629)) fun t11 =>
  (bO (addD (.int 1) t11) fun t12 =>
  (okY [t12, (.int 1)])))))))))))))))
theorem jm__law_begun (cl : Str → Addr) (cell : PyData) (k : PyData) : GR 2 (g__law_begun cl [.d cell, .d k]) (m__law_begun cell k) (fun a => RV.o (.lst a)) (fun a => [.d cell, .d k]) := by
  unfold m__law_begun
  exact gr_fn (b := b__law_begun cl) (S0 := [.d cell, .d k, .j]) (envR_is rfl) (js_seq (js_if (jt_b (jx_bin rfD (jx_d rfl (jx_bin rfD (jx_val (jx_val ⟨_, _, rfl, rfl, _, rfl, fun t => ⟨_, _, rfl, rfl, _, rfl, fun t1 => ⟨_, _, rfl, rfl, fun c => ⟨_, _, rfl, (js_ret (jx_lst (ja_cons (jx_bin rfD (jx_d rfl (jx_bin rfD (jx_val (jx_val ⟨_, _, rfl, rfl, _, rfl, fun t2 => ⟨_, _, rfl, rfl, _, rfl, fun t3 => (ja_cons (jx_val (ja_nil ⟨[t3, (.int 0)], [.d cell, .d k, .j], rfl, rfl, ⟨_, _, rfl, rfl, rl, rfl⟩⟩)))⟩⟩)))))))), (js_nx (js_seq (js_asg (jx_bin rfD (jx_bin rfD (jx_bin rfD (jx_d rfl (jx_val ⟨_, _, rfl, rfl, _, rfl, fun t4 => (jx_bin rfD (jx_val (jx_bin rfD (jx_d rfl (jx_val ⟨_, _, rfl, rfl, _, rfl, fun t5 => ⟨_, _, rfl, rfl, _, rfl, fun t6 => ⟨_, _, rfl, rfl, _, rfl, fun t7 => (jx_val ⟨_, _, rfl, rfl, _, rfl, fun mixed => ⟨mixed, [.d cell, .d k, .j], rfl, (jg_nm [.d cell, .d k, .d mixed] rfl rfl rfl (js_ret (jx_lst (ja_cons (jx_bin rfD (jx_val (jx_bin rfD (jx_bin rfD (jx_bin rfD (jx_d rfl (jx_d rfl ⟨_, _, rfl, rfl, _, rfl, fun t8 => (jx_bin rfD (jx_val (jx_d rfl ⟨_, _, rfl, rfl, _, rfl, fun t9 => ⟨_, _, rfl, rfl, _, rfl, fun t10 => (jx_val ⟨_, _, rfl, rfl, _, rfl, fun t11 => ⟨_, _, rfl, rfl, _, rfl, fun t12 => (ja_cons (jx_val (ja_nil ⟨[t12, (.int 1)], [.d cell, .d k, .d mixed], rfl, rfl, ⟨_, _, rfl, rfl, rl, rfl⟩⟩)))⟩⟩)⟩⟩)))⟩)))))))))))⟩⟩)⟩⟩⟩)))))⟩))))))))⟩⟩⟩⟩))))))))
/-! ### _law_next -/
noncomputable def b__law_next (cl : Str → Addr) : MS := (fSeq (fIfS (fB (fBin eqA (fBin ixD (fVar 0) (fVal (.int 1))) (fVal (.int 0)))) (fSeq (fAsg (gNm 2) (fBin modD (fBin ixD (fVar 0) (fVal (.int 0))) (fVar 1)))
  (fSeq (fPut 0 (fVal (.int 0)) (fBin fdivD (fBin ixD (fVar 0) (fVal (.int 0))) (fVar 1)))
  (fRet (fVar 2)))) fNx)
  (fSeq (fPut 0 (fVal (.int 0)) (fBin modD (fBin addD (fBin mulD (fBin ixD (fVar 0) (fVal (.int 0))) (fVal (.int 48271))) (fVal (.int 11))) (fVal (.int 2147483647))))
  (fSeq (fAsg (gNm 3) (fBin modD (fBin addD (fBin mulD (fBin ixD (fVar 0) (fVal (.int 0))) (fBin ixD (fVar 0) (fVal (.int 0)))) (fBin mulD (fVal (.int 16807)) (fBin ixD (fVar 0) (fVal (.int 0))))) (fVal (.int 2147483629))))
  (fRet (fBin modD (fBin fdivD (fBin modD (fBin addD (fBin mulD (fVar 3) (fVar 3)) (fBin mulD (fVal (.int 7)) (fVar 3))) (fVal (.int 2147483587))) (fVal (.int 5))) (fVar 1))))))
noncomputable def g__law_next (cl : Str → Addr) : Fn := mkFn 4 (b__law_next cl)
theorem ok__law_next (h : Facts S mg) : Df S P w mg base 1 "_law_next" 2 (g__law_next S.cl) := by
  obtain ⟨f, fd, F, hm⟩ := h.f__law_next
  exact ⟨f, fd, ["_law_draw", "_law_size"], fn_def (k := 0) F sc__law_next (fun cdv A outer s H E B g => (pf_cons (pf_if (pb_cmp (op_eqA g.room) opd_eqA g (pv_ix (ix_D g.room) opd_ix g (pv_var 0) pv_int (fun _ _ => rfl)) pv_int (by first | rfl | exact nomark _)) (pf_cons (pf_asg (pv_bin op_mod opd_mod g (pv_ix (ix_D g.room) opd_ix g (pv_var 0) pv_int (fun _ _ => rfl)) (pv_var 1)) (pgv_name 2 g))
  (pf_cons (pf_put 0 g pv_int (pv_bin op_fdivW opd_fdiv g (pv_ix (ix_D g.room) opd_ix g (pv_var 0) pv_int (fun _ _ => rfl)) (pv_var 1)))
  (pf_one (pf_ret (pv_var 2))))) pf_nil)
  (pf_cons (pf_put 0 g pv_int (pv_bin op_mod opd_mod g (pv_bin op_addD opd_add g (pv_bin op_mulD opd_mul g (pv_ix (ix_D g.room) opd_ix g (pv_var 0) pv_int (fun _ _ => rfl)) pv_int) pv_int) pv_int))
  (pf_cons (pf_asg (pv_bin op_mod opd_mod g (pv_bin op_addD opd_add g (pv_bin op_mulD opd_mul g (pv_ix (ix_D g.room) opd_ix g (pv_var 0) pv_int (fun _ _ => rfl)) (pv_ix (ix_D g.room) opd_ix g (pv_var 0) pv_int (fun _ _ => rfl))) (pv_bin op_mulD opd_mul g pv_int (pv_ix (ix_D g.room) opd_ix g (pv_var 0) pv_int (fun _ _ => rfl)))) pv_int) (pgv_name 3 g))
  (pf_one (pf_ret (pv_bin op_mod opd_mod g (pv_bin op_fdivW opd_fdiv g (pv_bin op_mod opd_mod g (pv_bin op_addD opd_add g (pv_bin op_mulD opd_mul g (pv_var 3) (pv_var 3)) (pv_bin op_mulD opd_mul g pv_int (pv_var 3))) pv_int) pv_int) (pv_var 1)))))))) (by decide), hm, F.kp, F.bindsN fun _ _ _ _ _ _ us hl => match us, hl with | [_, _], _ => rfl⟩
def m__law_next (draw : List PyData) (size : PyData) : Y (PyData × (List PyData)) := (bO (ixD (.list draw) (.int 1)) fun t =>
  (bO (eqA t (.int 0)) fun t1 =>
  (bB t1 fun c =>
  (if c = true then
  (bO (ixD (.list draw) (.int 0)) fun t2 =>
  (bO (modD t2 size) fun number =>
  (bO (ixD (.list draw) (.int 0)) fun t3 =>
  (bO (fdivD t3 size) fun t4 =>
  (bP ofL (putO (.lst draw) (.int 0) t4) fun draw1 =>
  (okY (number, draw1))))))) else
  (bO (ixD (.list draw) (.int 0)) fun t5 =>
  (bO (mulD t5 (.int 48271)) fun t6 =>
  (bO (addD t6 (.int 11)) fun t7 =>
  (bO (modD t7 (.int 2147483647)) fun t8 =>
  (bP ofL (putO (.lst draw) (.int 0) t8) fun draw2 =>
  (bO (ixD (.list draw2) (.int 0)) fun t9 =>
  (bO (ixD (.list draw2) (.int 0)) fun t10 =>
  (bO (mulD t9 t10) fun t11 =>
  (bO (ixD (.list draw2) (.int 0)) fun t12 =>
  (bO (mulD (.int 16807) t12) fun t13 =>
  (bO (addD t11 t13) fun t14 =>
  (bO (modD t14 (.int 2147483629)) fun mixed =>
  (bO (mulD mixed mixed) fun t15 =>
  (bO (mulD (.int 7) mixed) fun t16 =>
  (bO (addD t15 t16) fun t17 =>
  (bO (modD t17 (.int 2147483587)) fun t18 =>
  (bO (fdivD t18 (.int 5)) fun t19 =>
  (bO (modD t19 size) fun t20 =>
  (okY (t20, draw2))))))))))))))))))))))))
theorem jm__law_next (cl : Str → Addr) (draw : List PyData) (size : PyData) : GR 2 (g__law_next cl [.m false (.lst draw), .d size]) (m__law_next draw size) (fun a => RV.v a.1) (fun a => [.m false (.lst a.2), .d size]) := by
  unfold m__law_next
  exact gr_fn (b := b__law_next cl) (S0 := [.m false (.lst draw), .d size, .j, .j]) (envR_is rfl) (js_seq (js_if (jt_b (jx_bin rfD (jx_bin rfD (jx_m rfl (jx_val ⟨_, _, rfl, rfl, _, rfl, fun t => (jx_val ⟨_, _, rfl, rfl, _, rfl, fun t1 => ⟨_, _, rfl, rfl, fun c => ⟨_, _, rfl, (js_seq (js_asg (jx_bin rfD (jx_bin rfD (jx_m rfl (jx_val ⟨_, _, rfl, rfl, _, rfl, fun t2 => (jx_d rfl ⟨_, _, rfl, rfl, _, rfl, fun number => ⟨number, [.m false (.lst draw), .d size, .j, .j], rfl, (jg_nm [.m false (.lst draw), .d size, .d number, .j] rfl rfl rfl (js_seq (js_put ofL (jx_bin rfD (jx_bin rfD (jx_m rfl (jx_val ⟨_, _, rfl, rfl, _, rfl, fun t3 => (jx_d rfl ⟨_, _, rfl, rfl, _, rfl, fun t4 => ⟨t4, [.m false (.lst draw), .d size, .d number, .j], _, _, rfl, rfl, (jx_val ⟨_, _, _, _, rfl, rfl, rfl, fun draw1 => ⟨[.m false (.lst draw1), .d size, .d number, .j], rfl, (js_ret (jx_d rfl ⟨_, _, rfl, rfl, rl, rfl⟩))⟩⟩)⟩⟩)⟩)))))))⟩⟩)⟩)))))), (js_nx (js_seq (js_put ofL (jx_bin rfD (jx_bin rfD (jx_bin rfD (jx_bin rfD (jx_m rfl (jx_val ⟨_, _, rfl, rfl, _, rfl, fun t5 => (jx_val ⟨_, _, rfl, rfl, _, rfl, fun t6 => (jx_val ⟨_, _, rfl, rfl, _, rfl, fun t7 => (jx_val ⟨_, _, rfl, rfl, _, rfl, fun t8 => ⟨t8, [.m false (.lst draw), .d size, .j, .j], _, _, rfl, rfl, (jx_val ⟨_, _, _, _, rfl, rfl, rfl, fun draw2 => ⟨[.m false (.lst draw2), .d size, .j, .j], rfl, (js_seq (js_asg (jx_bin rfD (jx_bin rfD (jx_bin rfD (jx_bin rfD (jx_m rfl (jx_val ⟨_, _, rfl, rfl, _, rfl, fun t9 => (jx_bin rfD (jx_m rfl (jx_val ⟨_, _, rfl, rfl, _, rfl, fun t10 => ⟨_, _, rfl, rfl, _, rfl, fun t11 => (jx_bin rfD (jx_val (jx_bin rfD (jx_m rfl (jx_val ⟨_, _, rfl, rfl, _, rfl, fun t12 => ⟨_, _, rfl, rfl, _, rfl, fun t13 => ⟨_, _, rfl, rfl, _, rfl, fun t14 => (jx_val ⟨_, _, rfl, rfl, _, rfl, fun mixed => ⟨mixed, [.m false (.lst draw2), .d size, .j, .j], rfl, (jg_nm [.m false (.lst draw2), .d size, .j, .d mixed] rfl rfl rfl (js_ret (jx_bin rfD (jx_bin rfD (jx_bin rfD (jx_bin rfD (jx_bin rfD (jx_d rfl (jx_d rfl ⟨_, _, rfl, rfl, _, rfl, fun t15 => (jx_bin rfD (jx_val (jx_d rfl ⟨_, _, rfl, rfl, _, rfl, fun t16 => ⟨_, _, rfl, rfl, _, rfl, fun t17 => (jx_val ⟨_, _, rfl, rfl, _, rfl, fun t18 => (jx_val ⟨_, _, rfl, rfl, _, rfl, fun t19 => (jx_d rfl ⟨_, _, rfl, rfl, _, rfl, fun t20 => ⟨_, _, rfl, rfl, rl, rfl⟩⟩)⟩)⟩)⟩⟩)))⟩)))))))))⟩⟩)⟩⟩⟩)))))⟩⟩)))⟩))))))))⟩⟩)⟩⟩)⟩)⟩)⟩)))))))))⟩⟩⟩)⟩)))))))
/-! ### _law_names -/
noncomputable def b__law_names (cl : Str → Addr) : MS := (fSeq (fAsg (gNm 2) (fVal (.str "abcdefghijklmnopqrstuvwxyz")))
  (fSeq (fAsg (gNm 3) (fFun [.m, .d] (g__law_next cl) [(fVar 0), (fVal (.int 26))]))
  (fSeq (fAsg (gNm 4) (fFun [.m, .d] (g__law_next cl) [(fVar 0), (fVal (.int 4))]))
  (fSeq (fSet 5 (fLst []))
  (fSeq (fFor (fItA rg1 [(fVar 1)]) (gNm 6) (fSeq (fAsg (gNm 7) (fBin ixD (fVar 2) (fBin modD (fBin addD (fVar 3) (fBin mulD (fVal (.int 5)) (fVar 6))) (fVal (.int 26)))))
  (fSeq (fAsg (gNm 8) (fBin mulD (fBin ixD (fVar 2) (fVar 3)) (fBin modD (fVar 6) (fVal (.int 5)))))
  (fSeq (fAsg (gNm 9) (fBin mulD (fBin ixD (fVar 2) (fBin addD (fBin modD (fVar 3) (fVal (.int 11))) (fBin fdivD (fVar 6) (fVal (.int 5))))) (fBin addD (fVal (.int 1)) (fBin modD (fVar 6) (fVal (.int 5))))))
  (fDo (fMth true 5 chApp [(fBin ixD (fLst [(fVar 7), (fBin addD (fVar 7) (fVar 8)), (fBin addD (fVar 8) (fVar 7)), (fVar 9)]) (fVar 4))]))))))
  (fRet (fCall tupleD [(fCall sortedA [(fVar 5)])])))))))
noncomputable def g__law_names (cl : Str → Addr) : Fn := mkFn 10 (b__law_names cl)
theorem ok__law_names (h : Facts S mg) : Df S P w mg base 2 "_law_names" 2 (g__law_names S.cl) := by
  obtain ⟨f, fd, F, hm⟩ := h.f__law_names
  exact ⟨f, fd, ["_law_draw", "_law_many"], fn_def (k := 1) F sc__law_names (fun cdv A outer s H E B g => (pf_cons (pf_asg pv_str (pgv_name 2 g))
  (pf_cons (pf_asg (pv_fun (ok__law_next h) g (pav_cons (pv_var 0) (pav_cons pv_int pav_nil))) (pgv_name 3 g))
  (pf_cons (pf_asg (pv_fun (ok__law_next h) g (pav_cons (pv_var 0) (pav_cons pv_int pav_nil))) (pgv_name 4 g))
  (pf_cons (pf_set 5 g (pv_lst pav_nil))
  (pf_cons (pf_for g (pi_rg1 g h.n_range (pav_cons (pv_var 1) pav_nil)) (pgv_name 6 g) (pf_cons (pf_asg (pv_ix (ix_D g.room) opd_ix g (pv_var 2) (pv_bin op_mod opd_mod g (pv_bin op_addD opd_add g (pv_var 3) (pv_bin op_mulD opd_mul g pv_int (pv_var 6))) pv_int) (fun _ _ => rfl)) (pgv_name 7 g))
  (pf_cons (pf_asg (pv_bin op_mulD opd_mul g (pv_ix (ix_D g.room) opd_ix g (pv_var 2) (pv_var 3) (fun _ _ => rfl)) (pv_bin op_mod opd_mod g (pv_var 6) pv_int)) (pgv_name 8 g))
  (pf_cons (pf_asg (pv_bin op_mulD opd_mul g (pv_ix (ix_D g.room) opd_ix g (pv_var 2) (pv_bin op_addD opd_add g (pv_bin op_mod opd_mod g (pv_var 3) pv_int) (pv_bin op_fdivW opd_fdiv g (pv_var 6) pv_int)) (fun _ _ => rfl)) (pv_bin op_addD opd_add g pv_int (pv_bin op_mod opd_mod g (pv_var 6) pv_int))) (pgv_name 9 g))
  (pf_one (pf_do (pv_mth 5 true PySem.F.plainAttrs_list PySem.F.slot_list_append PySem.F.type_list_append mt_append chd_app g (pav_cons (pv_ix (ix_D g.room) opd_ix g (pv_lst (pav_cons (pv_var 7) (pav_cons (pv_bin op_addD opd_add g (pv_var 7) (pv_var 8)) (pav_cons (pv_bin op_addD opd_add g (pv_var 8) (pv_var 7)) (pav_cons (pv_var 9) pav_nil))))) (pv_var 4) (fun _ _ => rfl)) pav_nil))))))))
  (pf_one (pf_ret (pv_callT call_tupleX cald_tuple g h.n_tuple (pav_cons (pv_callB (call_sortedA g.calm g.room) cald_sorted g h.n_sorted (pav_cons (pv_var 5) pav_nil)) pav_nil)))))))))) (by decide), hm, F.kp, F.bindsN fun _ _ _ _ _ _ us hl => match us, hl with | [_, _], _ => rfl⟩
def m__law_names (draw : List PyData) (many : PyData) : Y (PyData × (List PyData)) := (bY (okY ((.str "abcdefghijklmnopqrstuvwxyz") : PyData)) fun letters =>
  (bYn (m__law_next draw (.int 26)) fun ⟨shift, draw1⟩ =>
  (bYn (m__law_next draw1 (.int 4)) fun ⟨way, draw2⟩ =>
  (bQ (rg1 [many]) fun xs =>
  (bY (forS xs ([] : List PyData) fun k found =>
  (bO (mulD (.int 5) k) fun t =>
  (bO (addD shift t) fun t1 =>
  (bO (modD t1 (.int 26)) fun t2 =>
  (bO (ixD letters t2) fun letter =>
  (bO (ixD letters shift) fun t3 =>
  (bO (modD k (.int 5)) fun t4 =>
  (bO (mulD t3 t4) fun alike =>
  (bO (modD shift (.int 11)) fun t5 =>
  (bO (fdivD k (.int 5)) fun t6 =>
  (bO (addD t5 t6) fun t7 =>
  (bO (ixD letters t7) fun t8 =>
  (bO (modD k (.int 5)) fun t9 =>
  (bO (addD (.int 1) t9) fun t10 =>
  (bO (mulD t8 t10) fun run =>
  (bO (addD letter alike) fun t11 =>
  (bO (addD alike letter) fun t12 =>
  (bO (ixD (.list [letter, t11, t12, run]) way) fun t13 =>
  (bC ofL (chApp (.lst found) [t13]) fun r found1 =>
  (okY found1)))))))))))))))))))) fun found =>
  (bO (sortedA [(.list found)]) fun t14 =>
  (bO (tupleD [t14]) fun t15 =>
  (okY (t15, draw2)))))))))
theorem jm__law_names (cl : Str → Addr) (draw : List PyData) (many : PyData) : GR 2 (g__law_names cl [.m false (.lst draw), .d many]) (m__law_names draw many) (fun a => RV.v a.1) (fun a => [.m false (.lst a.2), .d many]) := by
  unfold m__law_names
  exact gr_fn (b := b__law_names cl) (S0 := [.m false (.lst draw), .d many, .j, .j, .j, .j, .j, .j, .j, .j]) (envR_is rfl) (js_seq (js_asg (jx_val ⟨(.str "abcdefghijklmnopqrstuvwxyz"), [.m false (.lst draw), .d many, .j, .j, .j, .j, .j, .j, .j, .j], rfl, (jg_nm [.m false (.lst draw), .d many, .d (.str "abcdefghijklmnopqrstuvwxyz"), .j, .j, .j, .j, .j, .j, .j] rfl rfl rfl (js_gen (fun letters => [.m false (.lst draw), .d many, .d letters, .j, .j, .j, .j, .j, .j, .j]) fun letters => (js_seq (js_asg (jx_funM (ja_cons (jx_m rfl (ja_cons (jx_val (ja_nil ⟨[.m false (.lst draw), .d (.int 26)], [.m false (.lst draw), .d many, .d letters, .j, .j, .j, .j, .j, .j, .j], rfl, _, _, _, _, _, (jm__law_next cl draw (.int 26)), rfl, fun ⟨shift, draw1⟩ => ⟨[.m false (.lst draw1), .d many, .d letters, .j, .j, .j, .j, .j, .j, .j], rfl, ⟨shift, [.m false (.lst draw1), .d many, .d letters, .j, .j, .j, .j, .j, .j, .j], rfl, (jg_nm [.m false (.lst draw1), .d many, .d letters, .d shift, .j, .j, .j, .j, .j, .j] rfl rfl rfl (js_seq (js_asg (jx_funM (ja_cons (jx_m rfl (ja_cons (jx_val (ja_nil ⟨[.m false (.lst draw1), .d (.int 4)], [.m false (.lst draw1), .d many, .d letters, .d shift, .j, .j, .j, .j, .j, .j], rfl, _, _, _, _, _, (jm__law_next cl draw1 (.int 4)), rfl, fun ⟨way, draw2⟩ => ⟨[.m false (.lst draw2), .d many, .d letters, .d shift, .j, .j, .j, .j, .j, .j], rfl, ⟨way, [.m false (.lst draw2), .d many, .d letters, .d shift, .j, .j, .j, .j, .j, .j], rfl, (jg_nm [.m false (.lst draw2), .d many, .d letters, .d shift, .d way, .j, .j, .j, .j, .j] rfl rfl rfl (js_seq (js_set (jx_lst (ja_nil ⟨[], [.m false (.lst draw2), .d many, .d letters, .d shift, .d way, .j, .j, .j, .j, .j], rfl, rfl, ⟨_, [.m false (.lst draw2), .d many, .d letters, .d shift, .d way, .m true (.lst []), .j, .j, .j, .j], rfl, rfl, rfl, (js_seq (js_forS (fun s => [.m false (.lst draw2), .d many, .d letters, .d shift, .d way, .m true (.lst s), .j, .j, .j, .j]) (ji_itA (ja_cons (jx_d rfl (ja_nil ⟨[many], [.m false (.lst draw2), .d many, .d letters, .d shift, .d way, .m true (.lst []), .j, .j, .j, .j], _, rfl, rfl, fun xs => ⟨([] : List PyData), _, _, rfl, (wkr _), fun k found => (jg_nm [.m false (.lst draw2), .d many, .d letters, .d shift, .d way, .m true (.lst found), .d k, .j, .j, .j] rfl rfl rfl (js_seq (js_asg (jx_bin rfD (jx_d rfl (jx_bin rfD (jx_bin rfD (jx_d rfl (jx_bin rfD (jx_val (jx_d rfl ⟨_, _, rfl, rfl, _, rfl, fun t => ⟨_, _, rfl, rfl, _, rfl, fun t1 => (jx_val ⟨_, _, rfl, rfl, _, rfl, fun t2 => ⟨_, _, rfl, rfl, _, rfl, fun letter => ⟨letter, [.m false (.lst draw2), .d many, .d letters, .d shift, .d way, .m true (.lst found), .d k, .j, .j, .j], rfl, (jg_nm [.m false (.lst draw2), .d many, .d letters, .d shift, .d way, .m true (.lst found), .d k, .d letter, .j, .j] rfl rfl rfl (js_seq (js_asg (jx_bin rfD (jx_bin rfD (jx_d rfl (jx_d rfl ⟨_, _, rfl, rfl, _, rfl, fun t3 => (jx_bin rfD (jx_d rfl (jx_val ⟨_, _, rfl, rfl, _, rfl, fun t4 => ⟨_, _, rfl, rfl, _, rfl, fun alike => ⟨alike, [.m false (.lst draw2), .d many, .d letters, .d shift, .d way, .m true (.lst found), .d k, .d letter, .j, .j], rfl, (jg_nm [.m false (.lst draw2), .d many, .d letters, .d shift, .d way, .m true (.lst found), .d k, .d letter, .d alike, .j] rfl rfl rfl (js_seq (js_asg (jx_bin rfD (jx_bin rfD (jx_d rfl (jx_bin rfD (jx_bin rfD (jx_d rfl (jx_val ⟨_, _, rfl, rfl, _, rfl, fun t5 => (jx_bin rfD (jx_d rfl (jx_val ⟨_, _, rfl, rfl, _, rfl, fun t6 => ⟨_, _, rfl, rfl, _, rfl, fun t7 => ⟨_, _, rfl, rfl, _, rfl, fun t8 => (jx_bin rfD (jx_val (jx_bin rfD (jx_d rfl (jx_val ⟨_, _, rfl, rfl, _, rfl, fun t9 => ⟨_, _, rfl, rfl, _, rfl, fun t10 => ⟨_, _, rfl, rfl, _, rfl, fun run => ⟨run, [.m false (.lst draw2), .d many, .d letters, .d shift, .d way, .m true (.lst found), .d k, .d letter, .d alike, .j], rfl, (jg_nm [.m false (.lst draw2), .d many, .d letters, .d shift, .d way, .m true (.lst found), .d k, .d letter, .d alike, .d run] rfl rfl rfl (js_do (jx_mth ofL rfl rfl (ja_cons (jx_bin rfD (jx_lst (ja_cons (jx_d rfl (ja_cons (jx_bin rfD (jx_d rfl (jx_d rfl ⟨_, _, rfl, rfl, _, rfl, fun t11 => (ja_cons (jx_bin rfD (jx_d rfl (jx_d rfl ⟨_, _, rfl, rfl, _, rfl, fun t12 => (ja_cons (jx_d rfl (ja_nil ⟨[letter, t11, t12, run], [.m false (.lst draw2), .d many, .d letters, .d shift, .d way, .m true (.lst found), .d k, .d letter, .d alike, .d run], rfl, rfl, (jx_d rfl ⟨_, _, rfl, rfl, _, rfl, fun t13 => (ja_nil ⟨[t13], [.m false (.lst draw2), .d many, .d letters, .d shift, .d way, .m true (.lst found), .d k, .d letter, .d alike, .d run], _, _, _, rfl, rfl, rfl, fun r found1 => ⟨[.m false (.lst draw2), .d many, .d letters, .d shift, .d way, .m true (.lst found1), .d k, .d letter, .d alike, .d run], rfl, ⟨_, rfl, (wkc (wk_refl _) (wkc (wk_refl _) (wkc (wk_refl _) (wkc (wk_refl _) (wkc (wk_refl _) (wkc (wk_refl _) (wkc trivial (wkc trivial (wkc trivial (wkc trivial wkn))))))))))⟩⟩⟩)⟩)⟩)))⟩))))⟩))))))))))))⟩⟩⟩⟩)))))⟩⟩⟩)))⟩))))))))))⟩⟩⟩)))⟩)))))))⟩⟩⟩)⟩⟩))))))))))), fun found => (js_ret (jx_call rfD (ja_cons (jx_call rfD (ja_cons (jx_m rfl (ja_nil ⟨_, rfl, _, rfl, fun t14 => (ja_nil ⟨_, rfl, _, rfl, fun t15 => ⟨_, _, rfl, rfl, rl, rfl⟩⟩)⟩)))))))⟩⟩))))))⟩⟩)))))⟩⟩⟩)))))))))⟩⟩⟩))))))))))⟩)))
/-! ### _law_joined_heaps -/
noncomputable def b__law_joined_heaps (cl : Str → Addr) : MS := (fSeq (fWhile (fB (fBin gtD (fCall lenD [(fVar 1)]) (fVal (.int 1)))) (fSeq (fAsg (gNm 3) (fCall minD1 [(fCall lenD [(fVar 1)]), (fBin addD (fVal (.int 2)) (fBin ixD (fLst [(fVal (.int 0)), (fVal (.int 0)), (fVal (.int 0)), (fVal (.int 1)), (fVal (.int 2)), (fVal (.int 9))]) (fFun [.m, .d] (g__law_next cl) [(fVar 0), (fVal (.int 6))])))]))
  (fSeq (fAsg (gNm 4) (fTup []))
  (fSeq (fFor (fItA rg1 [(fVar 3)]) (gNm 5) (fAsg (gNm 4) (fBin addTD (fVar 4) (fMth true 1 chPopA [(fFun [.m, .d] (g__law_next cl) [(fVar 0), (fCall lenD [(fVar 1)])])]))))
  (fSeq (fDo (fMth true 1 chApp [(fCall tupleD [(fCall sortedTp [(fVar 4)])])]))
  (fDo (fMth true 2 chApp [(fBin ixD (fVar 1) (fUn negD (fVal (.int 1))))])))))))
  (fRet (fCall tupleD [(fCall sortedA [(fVar 2)])])))
noncomputable def g__law_joined_heaps (cl : Str → Addr) : Fn := mkFn 6 (b__law_joined_heaps cl)
theorem ok__law_joined_heaps (h : Facts S mg) : Df S P w mg base 2 "_law_joined_heaps" 3 (g__law_joined_heaps S.cl) := by
  obtain ⟨f, fd, F, hm⟩ := h.f__law_joined_heaps
  exact ⟨f, fd, ["_law_draw", "_law_left", "_law_found"], fn_def (k := 1) F sc__law_joined_heaps (fun cdv A outer s H E B g => (pf_cons (pf_while g (pb_cmp (op_gtD g.room) opd_dd g (pv_callB call_lenD cald_len g h.n_len (pav_cons (pv_var 1) pav_nil)) pv_int (by first | rfl | exact nomark _)) (pf_cons (pf_asg (pv_callB (call_minD g.calm) cald_min g h.n_min (pav_cons (pv_callB call_lenD cald_len g h.n_len (pav_cons (pv_var 1) pav_nil)) (pav_cons (pv_bin op_addD opd_add g pv_int (pv_ix (ix_D g.room) opd_ix g (pv_lst (pav_cons pv_int (pav_cons pv_int (pav_cons pv_int (pav_cons pv_int (pav_cons pv_int (pav_cons pv_int pav_nil))))))) (pv_fun (ok__law_next h) g (pav_cons (pv_var 0) (pav_cons pv_int pav_nil))) (fun _ _ => rfl))) pav_nil))) (pgv_name 3 g))
  (pf_cons (pf_asg (pv_tup pav_nil) (pgv_name 4 g))
  (pf_cons (pf_for g (pi_rg1 g h.n_range (pav_cons (pv_var 3) pav_nil)) (pgv_name 5 g) (pf_one (pf_asg (pv_bin op_addT opd_addT g (pv_var 4) (pv_mth 1 true PySem.F.plainAttrs_list PySem.F.slot_list_pop PySem.F.type_list_pop mt_popAt chd_popA g (pav_cons (pv_fun (ok__law_next h) g (pav_cons (pv_var 0) (pav_cons (pv_callB call_lenD cald_len g h.n_len (pav_cons (pv_var 1) pav_nil)) pav_nil))) pav_nil))) (pgv_name 4 g))))
  (pf_cons (pf_do (pv_mth 1 true PySem.F.plainAttrs_list PySem.F.slot_list_append PySem.F.type_list_append mt_append chd_app g (pav_cons (pv_callT call_tupleX cald_tuple g h.n_tuple (pav_cons (pv_callB (call_sortTp g.room) cald_sortTp g h.n_sorted (pav_cons (pv_var 4) pav_nil)) pav_nil)) pav_nil)))
  (pf_one (pf_do (pv_mth 2 true PySem.F.plainAttrs_list PySem.F.slot_list_append PySem.F.type_list_append mt_append chd_app g (pav_cons (pv_ix (ix_D g.room) opd_ix g (pv_var 1) (pv_un un_neg und_neg g pv_int) (fun _ _ => rfl)) pav_nil)))))))))
  (pf_one (pf_ret (pv_callT call_tupleX cald_tuple g h.n_tuple (pav_cons (pv_callB (call_sortedA g.calm g.room) cald_sorted g h.n_sorted (pav_cons (pv_var 2) pav_nil)) pav_nil)))))) (by decide), hm, F.kp, F.bindsN fun _ _ _ _ _ _ us hl => match us, hl with | [_, _, _], _ => rfl⟩
def m__law_joined_heaps (draw : List PyData) (left : List PyData) (found : List PyData) : Y (PyData × (List PyData) × (List PyData) × (List PyData)) := (bY (whY (ρ := (PyData × (List PyData) × (List PyData) × (List PyData))) WN (draw, left, found) fun ⟨draw1, left1, found1⟩ =>
  (bO (lenD [(.list left1)]) fun t =>
  (bO (gtD t (.int 1)) fun t1 =>
  (bB t1 fun c =>
  (if c = true then
  (bO (lenD [(.list left1)]) fun t2 =>
  (bYn (m__law_next draw1 (.int 6)) fun ⟨r, draw2⟩ =>
  (bO (ixD (.list [(.int 0), (.int 0), (.int 0), (.int 1), (.int 2), (.int 9)]) r) fun t3 =>
  (bO (addD (.int 2) t3) fun t4 =>
  (bO (minD1 [t2, t4]) fun many =>
  (bQ (rg1 [many]) fun xs =>
  (bY (forS xs (draw2, left1, (.tuple [])) fun turn ⟨draw3, left2, joined⟩ =>
  (bO (lenD [(.list left2)]) fun t5 =>
  (bYn (m__law_next draw3 t5) fun ⟨r1, draw4⟩ =>
  (bC ofL (chPopA (.lst left2) [r1]) fun t6 left3 =>
  (bO (addTD joined t6) fun joined1 =>
  (okY (draw4, left3, joined1))))))) fun ⟨draw3, left2, joined⟩ =>
  (bO (sortedTp [joined]) fun t7 =>
  (bO (tupleD [t7]) fun t8 =>
  (bC ofL (chApp (.lst left2) [t8]) fun r2 left4 =>
  (bO (ixD (.list left4) (.int (-1))) fun t9 =>
  (bC ofL (chApp (.lst found1) [t9]) fun r3 found2 =>
  (okY (.go (draw3, left4, found2))))))))))))))) else
  (okY (.bk (draw1, left1, found1)))))))) fun w => match w with
  | .go ⟨draw1, left1, found1⟩ =>
  (bO (sortedA [(.list found1)]) fun t10 =>
  (bO (tupleD [t10]) fun t11 =>
  (okY (t11, draw1, left1, found1))))
  | .rt w => none)
theorem jm__law_joined_heaps (cl : Str → Addr) (draw : List PyData) (left : List PyData) (found : List PyData) : GR 3 (g__law_joined_heaps cl [.m false (.lst draw), .m false (.lst left), .m false (.lst found)]) (m__law_joined_heaps draw left found) (fun a => RV.v a.1) (fun a => [.m false (.lst a.2.1), .m false (.lst a.2.2.1), .m false (.lst a.2.2.2)]) := by
  unfold m__law_joined_heaps
  exact gr_fn (b := b__law_joined_heaps cl) (S0 := [.m false (.lst draw), .m false (.lst left), .m false (.lst found), .j, .j, .j]) (envR_is rfl) (js_seq (js_while (fun s => [.m false (.lst s.1), .m false (.lst s.2.1), .m false (.lst s.2.2), .j, .j, .j]) (wkr _) (fun ⟨draw1, left1, found1⟩ => (jt_b (jx_bin rfD (jx_call rfD (ja_cons (jx_m rfl (ja_nil ⟨_, rfl, _, rfl, fun t => (jx_val ⟨_, _, rfl, rfl, _, rfl, fun t1 => ⟨_, _, rfl, rfl, fun c => ⟨_, _, rfl, (js_seq (js_asg (jx_call rfD (ja_cons (jx_call rfD (ja_cons (jx_m rfl (ja_nil ⟨_, rfl, _, rfl, fun t2 => (ja_cons (jx_bin rfD (jx_val (jx_bin rfD (jx_lst (ja_cons (jx_val (ja_cons (jx_val (ja_cons (jx_val (ja_cons (jx_val (ja_cons (jx_val (ja_cons (jx_val (ja_nil ⟨[(.int 0), (.int 0), (.int 0), (.int 1), (.int 2), (.int 9)], [.m false (.lst draw1), .m false (.lst left1), .m false (.lst found1), .j, .j, .j], rfl, rfl, (jx_funM (ja_cons (jx_m rfl (ja_cons (jx_val (ja_nil ⟨[.m false (.lst draw1), .d (.int 6)], [.m false (.lst draw1), .m false (.lst left1), .m false (.lst found1), .j, .j, .j], rfl, _, _, _, _, _, (jm__law_next cl draw1 (.int 6)), rfl, fun ⟨r, draw2⟩ => ⟨[.m false (.lst draw2), .m false (.lst left1), .m false (.lst found1), .j, .j, .j], rfl, ⟨_, _, rfl, rfl, _, rfl, fun t3 => ⟨_, _, rfl, rfl, _, rfl, fun t4 => (ja_nil ⟨_, rfl, _, rfl, fun many => ⟨many, [.m false (.lst draw2), .m false (.lst left1), .m false (.lst found1), .j, .j, .j], rfl, (jg_nm [.m false (.lst draw2), .m false (.lst left1), .m false (.lst found1), .d many, .j, .j] rfl rfl rfl (js_seq (js_asg (jx_tup (ja_nil ⟨[], [.m false (.lst draw2), .m false (.lst left1), .m false (.lst found1), .d many, .j, .j], rfl, rfl, ⟨(.tuple []), [.m false (.lst draw2), .m false (.lst left1), .m false (.lst found1), .d many, .j, .j], rfl, (jg_nm [.m false (.lst draw2), .m false (.lst left1), .m false (.lst found1), .d many, .d (.tuple []), .j] rfl rfl rfl (js_seq (js_forS (fun s => [.m false (.lst s.1), .m false (.lst s.2.1), .m false (.lst found1), .d many, .d s.2.2, .j]) (ji_itA (ja_cons (jx_d rfl (ja_nil ⟨[many], [.m false (.lst draw2), .m false (.lst left1), .m false (.lst found1), .d many, .d (.tuple []), .j], _, rfl, rfl, fun xs => ⟨(draw2, left1, (.tuple [])), _, _, rfl, (wkr _), fun turn ⟨draw3, left2, joined⟩ => (jg_nm [.m false (.lst draw3), .m false (.lst left2), .m false (.lst found1), .d many, .d joined, .d turn] rfl rfl rfl (js_asg (jx_bin rfD (jx_d rfl (jx_mth ofL rfl rfl (ja_cons (jx_funM (ja_cons (jx_m rfl (ja_cons (jx_call rfD (ja_cons (jx_m rfl (ja_nil ⟨_, rfl, _, rfl, fun t5 => (ja_nil ⟨[.m false (.lst draw3), .d t5], [.m false (.lst draw3), .m false (.lst left2), .m false (.lst found1), .d many, .d joined, .d turn], rfl, _, _, _, _, _, (jm__law_next cl draw3 t5), rfl, fun ⟨r1, draw4⟩ => ⟨[.m false (.lst draw4), .m false (.lst left2), .m false (.lst found1), .d many, .d joined, .d turn], rfl, (ja_nil ⟨[r1], [.m false (.lst draw4), .m false (.lst left2), .m false (.lst found1), .d many, .d joined, .d turn], _, _, _, rfl, rfl, rfl, fun t6 left3 => ⟨[.m false (.lst draw4), .m false (.lst left3), .m false (.lst found1), .d many, .d joined, .d turn], rfl, ⟨_, _, rfl, rfl, _, rfl, fun joined1 => ⟨joined1, [.m false (.lst draw4), .m false (.lst left3), .m false (.lst found1), .d many, .d joined, .d turn], rfl, (jg_nm [.m false (.lst draw4), .m false (.lst left3), .m false (.lst found1), .d many, .d joined1, .d turn] rfl rfl rfl ⟨_, rfl, (wkc (wk_refl _) (wkc (wk_refl _) (wkc (wk_refl _) (wkc (wk_refl _) (wkc (wk_refl _) (wkc trivial wkn))))))⟩)⟩⟩⟩⟩)⟩⟩)⟩)))))))))))))), fun ⟨draw3, left2, joined⟩ => (js_seq (js_do (jx_mth ofL rfl rfl (ja_cons (jx_call rfD (ja_cons (jx_call rfD (ja_cons (jx_d rfl (ja_nil ⟨_, rfl, _, rfl, fun t7 => (ja_nil ⟨_, rfl, _, rfl, fun t8 => (ja_nil ⟨[t8], [.m false (.lst draw3), .m false (.lst left2), .m false (.lst found1), .d many, .d joined, .j], _, _, _, rfl, rfl, rfl, fun r2 left4 => ⟨[.m false (.lst draw3), .m false (.lst left4), .m false (.lst found1), .d many, .d joined, .j], rfl, (js_do (jx_mth ofL rfl rfl (ja_cons (jx_bin rfD (jx_m rfl (jx_neg ⟨_, _, rfl, rfl, _, rfl, fun t9 => (ja_nil ⟨[t9], [.m false (.lst draw3), .m false (.lst left4), .m false (.lst found1), .d many, .d joined, .j], _, _, _, rfl, rfl, rfl, fun r3 found2 => ⟨[.m false (.lst draw3), .m false (.lst left4), .m false (.lst found2), .d many, .d joined, .j], rfl, ⟨_, rfl, (wkc (wk_refl _) (wkc (wk_refl _) (wkc (wk_refl _) (wkc trivial (wkc trivial (wkc trivial wkn))))))⟩⟩⟩)⟩))))))⟩⟩)⟩)⟩))))))))))⟩⟩)))))))⟩⟩)))))⟩⟩)⟩⟩⟩⟩))))))⟩))))))))))))))))))⟩)))))))), ⟨_, rfl, (wkr _)⟩⟩⟩⟩)⟩))))))) (fun ⟨draw1, left1, found1⟩ => (js_ret (jx_call rfD (ja_cons (jx_call rfD (ja_cons (jx_m rfl (ja_nil ⟨_, rfl, _, rfl, fun t10 => (ja_nil ⟨_, rfl, _, rfl, fun t11 => ⟨_, _, rfl, rfl, rl, rfl⟩⟩)⟩))))))))))
/-! ### _law_nest -/
noncomputable def b__law_nest (cl : Str → Addr) : MS := (fRet (fFun [.m, .m, .m] (g__law_joined_heaps cl) [(fVar 0), (fComp [2] (fIt selA (fVar 1)) (gNm 2) fYes (fTup [(fVar 2)])), (fComp [2] (fIt selA (fVar 1)) (gNm 2) fYes (fTup [(fVar 2)]))]))
noncomputable def g__law_nest (cl : Str → Addr) : Fn := mkFn 3 (b__law_nest cl)
theorem ok__law_nest (h : Facts S mg) : Df S P w mg base 3 "_law_nest" 2 (g__law_nest S.cl) := by
  obtain ⟨f, fd, F, hm⟩ := h.f__law_nest
  exact ⟨f, fd, ["_law_draw", "_law_names_here"], fn_def (k := 2) F sc__law_nest (fun cdv A outer s H E B g => (pf_one (pf_ret (pv_fun (ok__law_joined_heaps h) g (pav_cons (pv_var 0) (pav_cons (pv_comp (own := [("_law_name", 2)]) g (pi_any g (pv_var 1)) (by kernel_rfl) (fun _ _ _ _ _ => (pgv_name 2 g.blk)) (fun _ _ _ _ _ => ptv_nil) (fun _ _ _ _ _ => (pv_tup (pav_cons (pv_var 2) pav_nil)))) (pav_cons (pv_comp (own := [("_law_name", 2)]) g (pi_any g (pv_var 1)) (by kernel_rfl) (fun _ _ _ _ _ => (pgv_name 2 g.blk)) (fun _ _ _ _ _ => ptv_nil) (fun _ _ _ _ _ => (pv_tup (pav_cons (pv_var 2) pav_nil)))) pav_nil))))))) (by decide), hm, F.kp, F.bindsN fun _ _ _ _ _ _ us hl => match us, hl with | [_, _], _ => rfl⟩
def m__law_nest (draw : List PyData) (names_here : PyData) : Y (PyData × (List PyData)) := (bQ (selA names_here) fun xs =>
  (bQ (compP xs fun name =>
  (okY (some (.tuple [name])))) fun ys =>
  (bQ (selA names_here) fun xs1 =>
  (bQ (compP xs1 fun name1 =>
  (okY (some (.tuple [name1])))) fun ys1 =>
  (bYn (m__law_joined_heaps draw ys ys1) fun ⟨r, draw1, _, _⟩ =>
  (okY (r, draw1)))))))
theorem jm__law_nest (cl : Str → Addr) (draw : List PyData) (names_here : PyData) : GR 2 (g__law_nest cl [.m false (.lst draw), .d names_here]) (m__law_nest draw names_here) (fun a => RV.v a.1) (fun a => [.m false (.lst a.2), .d names_here]) := by
  unfold m__law_nest
  exact gr_fn (b := b__law_nest cl) (S0 := [.m false (.lst draw), .d names_here, .j]) (envR_is rfl) (js_ret (jx_funM (ja_cons (jx_m rfl (ja_cons (jx_compP (ji_it (jx_d rfl ⟨names_here, [.m false (.lst draw), .d names_here, .j], _, rfl, rfl, fun xs => ⟨rfl, _, _, [.m false (.lst draw), .d names_here, .j], rfl, rfl, fun name => (jc_all (jg_nm [.m false (.lst draw), .d names_here, .d name] rfl rfl rfl (jx_tup (ja_cons (jx_d rfl (ja_nil ⟨[name], [.m false (.lst draw), .d names_here, .d name], rfl, rfl, ⟨(.tuple [name]), [.m false (.lst draw), .d names_here, .d name], rfl, ⟨rfl, (wkr _)⟩⟩⟩)))))), fun ys => (ja_cons (jx_compP (ji_it (jx_d rfl ⟨names_here, [.m false (.lst draw), .d names_here, .j], _, rfl, rfl, fun xs1 => ⟨rfl, _, _, [.m false (.lst draw), .d names_here, .j], rfl, rfl, fun name1 => (jc_all (jg_nm [.m false (.lst draw), .d names_here, .d name1] rfl rfl rfl (jx_tup (ja_cons (jx_d rfl (ja_nil ⟨[name1], [.m false (.lst draw), .d names_here, .d name1], rfl, rfl, ⟨(.tuple [name1]), [.m false (.lst draw), .d names_here, .d name1], rfl, ⟨rfl, (wkr _)⟩⟩⟩)))))), fun ys1 => (ja_nil ⟨[.m false (.lst draw), .m false (.lst ys), .m false (.lst ys1)], [.m false (.lst draw), .d names_here, .j], rfl, _, _, _, _, _, (jm__law_joined_heaps cl draw ys ys1), rfl, fun ⟨r, draw1, _, _⟩ => ⟨[.m false (.lst draw1), .d names_here, .j], rfl, ⟨_, _, rfl, rfl, rl, rfl⟩⟩⟩)⟩⟩))))⟩⟩))))))))
/-! ### _law_cross -/
noncomputable def b__law_cross (cl : Str → Addr) : MS := (fSeq (fFz 2 (fSet 2 (fComp [3] (fIt selA (fVar 0)) (gNm 3) (fB (fBin (inD false) (fVar 3) (fVar 1))) (fVar 3))))
  (fRet (fChn ltD ltD (fVal (.int 0)) (fCall lenD [(fVar 2)]) (fCall minD1 [(fCall lenD [(fVar 0)]), (fCall lenD [(fVar 1)])]))))
noncomputable def g__law_cross (cl : Str → Addr) : Fn := mkFn 4 (b__law_cross cl)
theorem ok__law_cross (h : Facts S mg) : Df S P w mg base 1 "_law_cross" 2 (g__law_cross S.cl) := by
  obtain ⟨f, fd, F, hm⟩ := h.f__law_cross
  exact ⟨f, fd, ["_law_one", "_law_other"], fn_def (k := 0) F sc__law_cross (fun cdv A outer s H E B g => (pf_cons (pf_fz 2 (pf_setC 2 (own := [("_law_name", 3)]) g (pi_any g (pv_var 0)) (by kernel_rfl) (fun _ _ _ _ _ => (pgv_name 3 g.blk)) (fun _ _ _ _ _ => (ptv_one (pb_cmp (op_inD g.blk.room) (opd_in false) g.blk (pv_var 3) (pv_var 1) (by first | rfl | exact nomark _)))) (fun _ _ _ _ _ => (pv_var 3))))
  (pf_one (pf_ret (pv_chn (op_ltD g.room) (op_ltD g.room) opd_dd opd_dd g pv_int (pv_callB call_lenD cald_len g h.n_len (pav_cons (pv_var 2) pav_nil)) (pv_callB (call_minD g.calm) cald_min g h.n_min (pav_cons (pv_callB call_lenD cald_len g h.n_len (pav_cons (pv_var 0) pav_nil)) (pav_cons (pv_callB call_lenD cald_len g h.n_len (pav_cons (pv_var 1) pav_nil)) pav_nil)))))))) (by decide), hm, F.kp, F.bindsN fun _ _ _ _ _ _ us hl => match us, hl with | [_, _], _ => rfl⟩
def m__law_cross (one : PyData) (other : PyData) : Y (PyData) := (bQ (selA one) fun xs =>
  (bQ (compP xs fun name =>
  (bO ((inD false) name other) fun t =>
  (bB t fun c =>
  (if c = true then
  (okY (some name)) else
  (okY none))))) fun both =>
  (bY (bO (lenD [(.list both)]) fun t2 =>
  (bO (ltD (.int 0) t2) fun t3 => bB t3 fun c1 => if c1 = true then
  (bO (lenD [one]) fun t4 =>
  (bO (lenD [other]) fun t5 =>
  (bO (minD1 [t4, t5]) fun t6 =>
  (bO (ltD t2 t6) fun t7 =>
  (okY t7))))) else
  (okY (.bool false)))) fun t1 =>
  (okY t1))))
theorem jm__law_cross (cl : Str → Addr) (one : PyData) (other : PyData) : GR 2 (g__law_cross cl [.d one, .d other]) (m__law_cross one other) (fun a => RV.v a) (fun a => [.d one, .d other]) := by
  unfold m__law_cross
  exact gr_fn (b := b__law_cross cl) (S0 := [.d one, .d other, .j, .j]) (envR_is rfl) (js_seq (js_fz (js_set (jx_compP (ji_it (jx_d rfl ⟨one, [.d one, .d other, .j, .j], _, rfl, rfl, fun xs => ⟨rfl, _, _, [.d one, .d other, .j, .j], rfl, rfl, fun name => (jc_test (jg_nm [.d one, .d other, .j, .d name] rfl rfl rfl (jt_b (jx_bin rfD (jx_d rfl (jx_d rfl ⟨_, _, rfl, rfl, _, rfl, fun t => ⟨_, _, rfl, rfl, fun c => ⟨_, _, rfl, (jx_d rfl ⟨name, [.d one, .d other, .j, .d name], rfl, ⟨rfl, (wkr _)⟩⟩), ⟨rfl, (wkr _)⟩⟩⟩⟩)))))), fun both => ⟨_, [.d one, .d other, .m true (.lst both), .j], rfl, rfl, rfl, ⟨_, [.d one, .d other, .d (.list both), .j], rfl, (js_ret (jx_cut (fun s => RV.v s) (fun _ => [.d one, .d other, .d (.list both), .j]) (jx_chn rfD (jx_val (jx_call rfD (ja_cons (jx_d rfl (ja_nil ⟨_, rfl, _, rfl, fun t2 => ⟨_, _, rfl, rfl, _, rfl, fun t3 => ⟨_, _, rfl, (jx_call rfD (ja_cons (jx_call rfD (ja_cons (jx_d rfl (ja_nil ⟨_, rfl, _, rfl, fun t4 => (ja_cons (jx_call rfD (ja_cons (jx_d rfl (ja_nil ⟨_, rfl, _, rfl, fun t5 => (ja_nil ⟨_, rfl, _, rfl, fun t6 => ⟨_, _, rfl, rfl, _, rfl, fun t7 => ⟨_, rfl, rl, (wkr _)⟩⟩⟩)⟩)))))⟩)))))), ⟨_, rfl, rl, (wkr _)⟩⟩⟩⟩)))))) (fun t1 => ⟨_, _, rfl, rfl, rl, rfl⟩)))⟩⟩⟩⟩))))))
/-! ### _law_fits -/
noncomputable def b__law_fits (cl : Str → Addr) : MS := (fRet (fBin eqA (fComp [2] (fIt selA (fVar 0)) (gNm 2) (fTru (fFun [.d, .d] (g__law_cross cl) [(fVar 2), (fVar 1)])) (fVar 2)) (fLst [])))
noncomputable def g__law_fits (cl : Str → Addr) : Fn := mkFn 3 (b__law_fits cl)
theorem ok__law_fits (h : Facts S mg) : Df S P w mg base 2 "_law_fits" 2 (g__law_fits S.cl) := by
  obtain ⟨f, fd, F, hm⟩ := h.f__law_fits
  exact ⟨f, fd, ["_law_nest_here", "_law_heap"], fn_def (k := 1) F sc__law_fits (fun cdv A outer s H E B g => (pf_one (pf_ret (pv_cmp (op_eqA g.room) opd_eqA g (pv_comp (own := [("_law_one", 2)]) g (pi_any g (pv_var 0)) (by kernel_rfl) (fun _ _ _ _ _ => (pgv_name 2 g.blk)) (fun _ _ _ _ _ => (ptv_one (pb_tru g.blk (pv_fun (ok__law_cross h) g.blk (pav_cons (pv_var 2) (pav_cons (pv_var 1) pav_nil)))))) (fun _ _ _ _ _ => (pv_var 2))) (pv_lst pav_nil) (by first | rfl | exact nomark _))))) (by decide), hm, F.kp, F.bindsN fun _ _ _ _ _ _ us hl => match us, hl with | [_, _], _ => rfl⟩
def m__law_fits (nest_here : PyData) (heap : PyData) : Y (PyData) := (bQ (selA nest_here) fun xs =>
  (bQ (compP xs fun one =>
  (bYn (m__law_cross one heap) fun r =>
  (bQ (truD r) fun c =>
  (if c = true then
  (okY (some one)) else
  (okY none))))) fun ys =>
  (bO (eqA (.list ys) (.list [])) fun t =>
  (okY t))))
theorem jm__law_fits (cl : Str → Addr) (nest_here : PyData) (heap : PyData) : GR 2 (g__law_fits cl [.d nest_here, .d heap]) (m__law_fits nest_here heap) (fun a => RV.v a) (fun a => [.d nest_here, .d heap]) := by
  unfold m__law_fits
  exact gr_fn (b := b__law_fits cl) (S0 := [.d nest_here, .d heap, .j]) (envR_is rfl) (js_ret (jx_bin rfD (jx_compP (ji_it (jx_d rfl ⟨nest_here, [.d nest_here, .d heap, .j], _, rfl, rfl, fun xs => ⟨rfl, _, _, [.d nest_here, .d heap, .j], rfl, rfl, fun one => (jc_test (jg_nm [.d nest_here, .d heap, .d one] rfl rfl rfl (jt_tru (jx_funM (ja_cons (jx_d rfl (ja_cons (jx_d rfl (ja_nil ⟨[.d one, .d heap], [.d nest_here, .d heap, .d one], rfl, _, _, _, _, _, (jm__law_cross cl one heap), rfl, fun r => ⟨[.d nest_here, .d heap, .d one], rfl, ⟨_, _, rfl, rfl, fun c => ⟨_, _, rfl, (jx_d rfl ⟨one, [.d nest_here, .d heap, .d one], rfl, ⟨rfl, (wkr _)⟩⟩), ⟨rfl, (wkr _)⟩⟩⟩⟩⟩))))))))), fun ys => (jx_lst (ja_nil ⟨[], [.d nest_here, .d heap, .j], rfl, rfl, ⟨_, _, rfl, rfl, _, rfl, fun t => ⟨_, _, rfl, rfl, rl, rfl⟩⟩⟩))⟩⟩)))))
/-! ### _law_near -/
noncomputable def b__law_near (cl : Str → Addr) : MS := (fSeq (fFz 2 (fSet 2 (fComp [8] (fIt selA (fVar 1)) (gNm 8) (fAnd (fB (fBin ltD (fVal (.int 1)) (fCall lenD [(fVar 8)]))) (fB (fBin ltD (fCall lenD [(fVar 8)]) (fCall maxD1 [(fComp [5] (fIt selA (fVar 1)) (gNm 5) fYes (fCall lenD [(fVar 5)]))])))) (fVar 8))))
  (fSeq (fSet 3 (fCall listD [(fVar 1)]))
  (fSeq (fIfS (fAnd (fB (fBin neA (fVar 2) (fLst []))) (fB (fBin gtD (fFun [.m, .d] (g__law_next cl) [(fVar 0), (fVal (.int 4))]) (fVal (.int 0))))) (fDo (fMth true 3 chRem [(fBin ixD (fVar 2) (fFun [.m, .d] (g__law_next cl) [(fVar 0), (fCall lenD [(fVar 2)])]))])) fNx)
  (fSeq (fFor (fItA rg1 [(fFun [.m, .d] (g__law_next cl) [(fVar 0), (fVal (.int 4))])]) (gNm 4) (fSeq (fAsg (gNm 5) (fBin ixD (fVar 1) (fFun [.m, .d] (g__law_next cl) [(fVar 0), (fCall lenD [(fVar 1)])])))
  (fSeq (fAsg (gNm 6) (fBin ixD (fVar 1) (fFun [.m, .d] (g__law_next cl) [(fVar 0), (fCall lenD [(fVar 1)])])))
  (fSeq (fAsg (gNm 7) (fCall tupleD [(fCall sortedTp [(fBin addTD (fVar 5) (fCall tupleD [(fComp [9] (fIt selA (fVar 6)) (gNm 9) (fB (fBin (inD true) (fVar 9) (fVar 5))) (fVar 9))]))])]))
  (fIfS (fAnd (fB (fBin (inD true) (fVar 7) (fVar 3))) (fTru (fFunB 2 (g__law_fits cl) [(fVar 3), (fVar 7)]))) (fDo (fMth true 3 chApp [(fVar 7)])) fNx)))))
  (fRet (fCall tupleD [(fCall sortedA [(fVar 3)])]))))))
noncomputable def g__law_near (cl : Str → Addr) : Fn := mkFn 10 (b__law_near cl)
theorem ok__law_near (h : Facts S mg) : Df S P w mg base 3 "_law_near" 2 (g__law_near S.cl) := by
  obtain ⟨f, fd, F, hm⟩ := h.f__law_near
  exact ⟨f, fd, ["_law_draw", "_law_nest_here"], fn_def (k := 2) F sc__law_near (fun cdv A outer s H E B g => (pf_cons (pf_fz 2 (pf_setC 2 (own := [("_law_heap", 8)]) g (pi_any g (pv_var 1)) (by kernel_rfl) (fun _ _ _ _ _ => (pgv_name 8 g.blk)) (fun _ _ _ _ _ => (ptv_one (Pv.PBW.pb (Pv.pw_and (pb_cmp (op_ltD g.blk.room) opd_dd g.blk pv_int (pv_callB call_lenD cald_len g.blk h.n_len (pav_cons (pv_var 8) pav_nil)) (by first | rfl | exact nomark _)) (Pv.pw_and1 (pb_cmp (op_ltD g.blk.room) opd_dd g.blk (pv_callB call_lenD cald_len g.blk h.n_len (pav_cons (pv_var 8) pav_nil)) (pv_callB (call_maxD g.blk.calm) cald_max g.blk h.n_max (pav_cons (pv_comp (own := [("_law_one", 5)]) g.blk (pi_any g.blk (pv_var 1)) (by kernel_rfl) (fun _ _ _ _ _ => (pgv_name 5 g.blk.blk)) (fun _ _ _ _ _ => ptv_nil) (fun _ _ _ _ _ => (pv_callB call_lenD cald_len g.blk.blk h.n_len (pav_cons (pv_var 5) pav_nil)))) pav_nil)) (by first | rfl | exact nomark _))))))) (fun _ _ _ _ _ => (pv_var 8))))
  (pf_cons (pf_set 3 g (pv_callT call_list_of cald_list g h.n_list (pav_cons (pv_var 1) pav_nil)))
  (pf_cons (pf_if (Pv.PBW.pb (Pv.pw_and (pb_cmp (op_neA g.room) opd_neA g (pv_var 2) (pv_lst pav_nil) (by first | rfl | exact nomark _)) (Pv.pw_and1 (pb_cmp (op_gtD g.room) opd_dd g (pv_fun (ok__law_next h) g (pav_cons (pv_var 0) (pav_cons pv_int pav_nil))) pv_int (by first | rfl | exact nomark _))))) (pf_one (pf_do (pv_mth 3 true PySem.F.plainAttrs_list PySem.F.slot_list_remove PySem.F.type_list_remove (mt_remove g.room) chd_rem g (pav_cons (pv_ix (ix_D g.room) opd_ix g (pv_var 2) (pv_fun (ok__law_next h) g (pav_cons (pv_var 0) (pav_cons (pv_callB call_lenD cald_len g h.n_len (pav_cons (pv_var 2) pav_nil)) pav_nil))) (fun _ _ => rfl)) pav_nil)))) pf_nil)
  (pf_cons (pf_for g (pi_rg1 g h.n_range (pav_cons (pv_fun (ok__law_next h) g (pav_cons (pv_var 0) (pav_cons pv_int pav_nil))) pav_nil)) (pgv_name 4 g) (pf_cons (pf_asg (pv_ix (ix_D g.room) opd_ix g (pv_var 1) (pv_fun (ok__law_next h) g (pav_cons (pv_var 0) (pav_cons (pv_callB call_lenD cald_len g h.n_len (pav_cons (pv_var 1) pav_nil)) pav_nil))) (fun _ _ => rfl)) (pgv_name 5 g))
  (pf_cons (pf_asg (pv_ix (ix_D g.room) opd_ix g (pv_var 1) (pv_fun (ok__law_next h) g (pav_cons (pv_var 0) (pav_cons (pv_callB call_lenD cald_len g h.n_len (pav_cons (pv_var 1) pav_nil)) pav_nil))) (fun _ _ => rfl)) (pgv_name 6 g))
  (pf_cons (pf_asg (pv_callT call_tupleX cald_tuple g h.n_tuple (pav_cons (pv_callB (call_sortTp g.room) cald_sortTp g h.n_sorted (pav_cons (pv_bin op_addT opd_addT g (pv_var 5) (pv_callT call_tupleX cald_tuple g h.n_tuple (pav_cons (pv_comp (own := [("_law_name", 9)]) g (pi_any g (pv_var 6)) (by kernel_rfl) (fun _ _ _ _ _ => (pgv_name 9 g.blk)) (fun _ _ _ _ _ => (ptv_one (pb_cmp (op_notInD g.blk.room) (opd_in true) g.blk (pv_var 9) (pv_var 5) (by first | rfl | exact nomark _)))) (fun _ _ _ _ _ => (pv_var 9))) pav_nil))) pav_nil)) pav_nil)) (pgv_name 7 g))
  (pf_one (pf_if (Pv.PBW.pb (Pv.pw_and (pb_cmp (op_notInD g.room) (opd_in true) g (pv_var 7) (pv_var 3) (by first | rfl | exact nomark _)) (Pv.pw_and1 (pb_tru g (pv_funB (ok__law_fits h) g (pav_cons (pv_var 3) (pav_cons (pv_var 7) pav_nil))))))) (pf_one (pf_do (pv_mth 3 true PySem.F.plainAttrs_list PySem.F.slot_list_append PySem.F.type_list_append mt_append chd_app g (pav_cons (pv_var 7) pav_nil)))) pf_nil))))))
  (pf_one (pf_ret (pv_callT call_tupleX cald_tuple g h.n_tuple (pav_cons (pv_callB (call_sortedA g.calm g.room) cald_sorted g h.n_sorted (pav_cons (pv_var 3) pav_nil)) pav_nil))))))))) (by decide), hm, F.kp, F.bindsN fun _ _ _ _ _ _ us hl => match us, hl with | [_, _], _ => rfl⟩
def m__law_near (draw : List PyData) (nest_here : PyData) : Y (PyData × (List PyData)) := (bQ (selA nest_here) fun xs =>
  (bQ (compP xs fun heap =>
  (bY (bO (lenD [heap]) fun t =>
  (bO (ltD (.int 1) t) fun t1 =>
  (bB t1 fun c1 =>
  (if c1 = true then
  (bO (lenD [heap]) fun t2 =>
  (bQ (selA nest_here) fun xs1 =>
  (bQ (compP xs1 fun one =>
  (bO (lenD [one]) fun t3 =>
  (okY (some t3)))) fun ys =>
  (bO (maxD1 [(.list ys)]) fun t4 =>
  (bO (ltD t2 t4) fun t5 =>
  (bB t5 fun c2 =>
  (okY c2))))))) else
  (okY false))))) fun c =>
  (if c = true then
  (okY (some heap)) else
  (okY none)))) fun inner =>
  (bOL (listD [nest_here]) fun found =>
  (bY (bY (bO (neA (.list inner) (.list [])) fun t6 =>
  (bB t6 fun c4 =>
  (if c4 = true then
  (bYn (m__law_next draw (.int 4)) fun ⟨r, draw3⟩ =>
  (bO (gtD r (.int 0)) fun t7 =>
  (bB t7 fun c5 =>
  (okY (c5, draw3))))) else
  (okY (false, draw))))) fun ⟨c3, draw2⟩ =>
  (if c3 = true then
  (bO (lenD [(.list inner)]) fun t8 =>
  (bYn (m__law_next draw2 t8) fun ⟨r1, draw4⟩ =>
  (bO (ixD (.list inner) r1) fun t9 =>
  (bC ofL (chRem (.lst found) [t9]) fun r2 found2 =>
  (okY (draw4, found2)))))) else
  (okY (draw2, found)))) fun ⟨draw1, found1⟩ =>
  (bYn (m__law_next draw1 (.int 4)) fun ⟨r3, draw5⟩ =>
  (bQ (rg1 [r3]) fun xs2 =>
  (bY (forS xs2 (draw5, found1) fun turn ⟨draw6, found3⟩ =>
  (bO (lenD [nest_here]) fun t10 =>
  (bYn (m__law_next draw6 t10) fun ⟨r4, draw7⟩ =>
  (bO (ixD nest_here r4) fun one1 =>
  (bO (lenD [nest_here]) fun t11 =>
  (bYn (m__law_next draw7 t11) fun ⟨r5, draw8⟩ =>
  (bO (ixD nest_here r5) fun other =>
  (bQ (selA other) fun xs3 =>
  (bQ (compP xs3 fun name =>
  (bO ((inD true) name one1) fun t12 =>
  (bB t12 fun c6 =>
  (if c6 = true then
  (okY (some name)) else
  (okY none))))) fun ys1 =>
  (bO (tupleD [(.list ys1)]) fun t13 =>
  (bO (addTD one1 t13) fun t14 =>
  (bO (sortedTp [t14]) fun t15 =>
  (bO (tupleD [t15]) fun joined =>
  (bY (bO ((inD true) joined (.list found3)) fun t16 =>
  (bB t16 fun c8 =>
  (if c8 = true then
  (bY (m__law_fits (.list found3) joined) fun r6 => bG (atomD r6)
  (bQ (truD r6) fun c9 =>
  (okY c9))) else
  (okY false)))) fun c7 =>
  (if c7 = true then
  (bC ofL (chApp (.lst found3) [joined]) fun r7 found4 =>
  (okY (draw8, found4))) else
  (okY (draw8, found3))))))))))))))))) fun ⟨draw6, found3⟩ =>
  (bO (sortedA [(.list found3)]) fun t17 =>
  (bO (tupleD [t17]) fun t18 =>
  (okY (t18, draw6)))))))))))
theorem jm__law_near (cl : Str → Addr) (draw : List PyData) (nest_here : PyData) : GR 2 (g__law_near cl [.m false (.lst draw), .d nest_here]) (m__law_near draw nest_here) (fun a => RV.v a.1) (fun a => [.m false (.lst a.2), .d nest_here]) := by
  unfold m__law_near
  exact gr_fn (b := b__law_near cl) (S0 := [.m false (.lst draw), .d nest_here, .j, .j, .j, .j, .j, .j, .j, .j]) (envR_is rfl) (js_seq (js_fz (js_set (jx_compP (ji_it (jx_d rfl ⟨nest_here, [.m false (.lst draw), .d nest_here, .j, .j, .j, .j, .j, .j, .j, .j], _, rfl, rfl, fun xs => ⟨rfl, _, _, [.m false (.lst draw), .d nest_here, .j, .j, .j, .j, .j, .j, .j, .j], rfl, rfl, fun heap => (jc_test (jg_nm [.m false (.lst draw), .d nest_here, .j, .j, .j, .j, .j, .j, .d heap, .j] rfl rfl rfl (jt_cut (fun s => s) (fun s => [.m false (.lst draw), .d nest_here, .j, .j, .j, .j, .j, .j, .d heap, .j]) (jt_and (jt_b (jx_bin rfD (jx_val (jx_call rfD (ja_cons (jx_d rfl (ja_nil ⟨_, rfl, _, rfl, fun t => ⟨_, _, rfl, rfl, _, rfl, fun t1 => ⟨_, _, rfl, rfl, fun c1 => ⟨_, _, rfl, (jt_b (jx_bin rfD (jx_call rfD (ja_cons (jx_d rfl (ja_nil ⟨_, rfl, _, rfl, fun t2 => (jx_call rfD (ja_cons (jx_compP (ji_it (jx_d rfl ⟨nest_here, [.m false (.lst draw), .d nest_here, .j, .j, .j, .j, .j, .j, .d heap, .j], _, rfl, rfl, fun xs1 => ⟨rfl, _, _, [.m false (.lst draw), .d nest_here, .j, .j, .j, .j, .j, .j, .d heap, .j], rfl, rfl, fun one => (jc_all (jg_nm [.m false (.lst draw), .d nest_here, .j, .j, .j, .d one, .j, .j, .d heap, .j] rfl rfl rfl (jx_call rfD (ja_cons (jx_d rfl (ja_nil ⟨_, rfl, _, rfl, fun t3 => ⟨t3, [.m false (.lst draw), .d nest_here, .j, .j, .j, .d one, .j, .j, .d heap, .j], rfl, ⟨rfl, (wkr _)⟩⟩⟩)))))), fun ys => (ja_nil ⟨_, rfl, _, rfl, fun t4 => ⟨_, _, rfl, rfl, _, rfl, fun t5 => ⟨_, _, rfl, rfl, fun c2 => ⟨_, rfl, rfl, (wkr _)⟩⟩⟩⟩)⟩⟩)))))⟩)))))), ⟨_, rfl, rfl, (wkr _)⟩⟩⟩⟩⟩)))))))) (fun c => ⟨_, _, rfl, (jx_d rfl ⟨heap, [.m false (.lst draw), .d nest_here, .j, .j, .j, .j, .j, .j, .d heap, .j], rfl, ⟨rfl, (wkr _)⟩⟩), ⟨rfl, (wkr _)⟩⟩)))), fun inner => ⟨_, [.m false (.lst draw), .d nest_here, .m true (.lst inner), .j, .j, .j, .j, .j, .j, .j], rfl, rfl, rfl, ⟨_, [.m false (.lst draw), .d nest_here, .d (.list inner), .j, .j, .j, .j, .j, .j, .j], rfl, (js_seq (js_set (jx_call rfL (ja_cons (jx_d rfl (ja_nil ⟨_, rfl, _, rfl, fun found => ⟨_, [.m false (.lst draw), .d nest_here, .d (.list inner), .m true (.lst found), .j, .j, .j, .j, .j, .j], rfl, rfl, rfl, (js_seq (js_cut (fun s => [.m false (.lst s.1), .d nest_here, .d (.list inner), .m true (.lst s.2), .j, .j, .j, .j, .j, .j]) (js_if (jt_cut (fun s => s.1) (fun s => [.m false (.lst s.2), .d nest_here, .d (.list inner), .m true (.lst found), .j, .j, .j, .j, .j, .j]) (jt_and (jt_b (jx_bin rfD (jx_d rfl (jx_lst (ja_nil ⟨[], [.m false (.lst draw), .d nest_here, .d (.list inner), .m true (.lst found), .j, .j, .j, .j, .j, .j], rfl, rfl, ⟨_, _, rfl, rfl, _, rfl, fun t6 => ⟨_, _, rfl, rfl, fun c4 => ⟨_, _, rfl, (jt_b (jx_bin rfD (jx_funM (ja_cons (jx_m rfl (ja_cons (jx_val (ja_nil ⟨[.m false (.lst draw), .d (.int 4)], [.m false (.lst draw), .d nest_here, .d (.list inner), .m true (.lst found), .j, .j, .j, .j, .j, .j], rfl, _, _, _, _, _, (jm__law_next cl draw (.int 4)), rfl, fun ⟨r, draw3⟩ => ⟨[.m false (.lst draw3), .d nest_here, .d (.list inner), .m true (.lst found), .j, .j, .j, .j, .j, .j], rfl, (jx_val ⟨_, _, rfl, rfl, _, rfl, fun t7 => ⟨_, _, rfl, rfl, fun c5 => ⟨_, rfl, rfl, (wkr _)⟩⟩⟩)⟩⟩)))))))), ⟨_, rfl, rfl, (wkr _)⟩⟩⟩⟩⟩)))))) (fun ⟨c3, draw2⟩ => ⟨_, _, rfl, (js_do (jx_mth ofL rfl rfl (ja_cons (jx_bin rfD (jx_d rfl (jx_funM (ja_cons (jx_m rfl (ja_cons (jx_call rfD (ja_cons (jx_d rfl (ja_nil ⟨_, rfl, _, rfl, fun t8 => (ja_nil ⟨[.m false (.lst draw2), .d t8], [.m false (.lst draw2), .d nest_here, .d (.list inner), .m true (.lst found), .j, .j, .j, .j, .j, .j], rfl, _, _, _, _, _, (jm__law_next cl draw2 t8), rfl, fun ⟨r1, draw4⟩ => ⟨[.m false (.lst draw4), .d nest_here, .d (.list inner), .m true (.lst found), .j, .j, .j, .j, .j, .j], rfl, ⟨_, _, rfl, rfl, _, rfl, fun t9 => (ja_nil ⟨[t9], [.m false (.lst draw4), .d nest_here, .d (.list inner), .m true (.lst found), .j, .j, .j, .j, .j, .j], _, _, _, rfl, rfl, rfl, fun r2 found2 => ⟨[.m false (.lst draw4), .d nest_here, .d (.list inner), .m true (.lst found2), .j, .j, .j, .j, .j, .j], rfl, ⟨_, rfl, (wkr _)⟩⟩⟩)⟩⟩⟩)⟩))))))))))))), (js_nx ⟨_, rfl, (wkr _)⟩)⟩))) (fun ⟨draw1, found1⟩ => (js_seq (js_forS (fun s => [.m false (.lst s.1), .d nest_here, .d (.list inner), .m true (.lst s.2), .j, .j, .j, .j, .j, .j]) (ji_itA (ja_cons (jx_funM (ja_cons (jx_m rfl (ja_cons (jx_val (ja_nil ⟨[.m false (.lst draw1), .d (.int 4)], [.m false (.lst draw1), .d nest_here, .d (.list inner), .m true (.lst found1), .j, .j, .j, .j, .j, .j], rfl, _, _, _, _, _, (jm__law_next cl draw1 (.int 4)), rfl, fun ⟨r3, draw5⟩ => ⟨[.m false (.lst draw5), .d nest_here, .d (.list inner), .m true (.lst found1), .j, .j, .j, .j, .j, .j], rfl, (ja_nil ⟨[r3], [.m false (.lst draw5), .d nest_here, .d (.list inner), .m true (.lst found1), .j, .j, .j, .j, .j, .j], _, rfl, rfl, fun xs2 => ⟨(draw5, found1), _, _, rfl, (wkr _), fun turn ⟨draw6, found3⟩ => (jg_nm [.m false (.lst draw6), .d nest_here, .d (.list inner), .m true (.lst found3), .d turn, .j, .j, .j, .j, .j] rfl rfl rfl (js_seq (js_asg (jx_bin rfD (jx_d rfl (jx_funM (ja_cons (jx_m rfl (ja_cons (jx_call rfD (ja_cons (jx_d rfl (ja_nil ⟨_, rfl, _, rfl, fun t10 => (ja_nil ⟨[.m false (.lst draw6), .d t10], [.m false (.lst draw6), .d nest_here, .d (.list inner), .m true (.lst found3), .d turn, .j, .j, .j, .j, .j], rfl, _, _, _, _, _, (jm__law_next cl draw6 t10), rfl, fun ⟨r4, draw7⟩ => ⟨[.m false (.lst draw7), .d nest_here, .d (.list inner), .m true (.lst found3), .d turn, .j, .j, .j, .j, .j], rfl, ⟨_, _, rfl, rfl, _, rfl, fun one1 => ⟨one1, [.m false (.lst draw7), .d nest_here, .d (.list inner), .m true (.lst found3), .d turn, .j, .j, .j, .j, .j], rfl, (jg_nm [.m false (.lst draw7), .d nest_here, .d (.list inner), .m true (.lst found3), .d turn, .d one1, .j, .j, .j, .j] rfl rfl rfl (js_seq (js_asg (jx_bin rfD (jx_d rfl (jx_funM (ja_cons (jx_m rfl (ja_cons (jx_call rfD (ja_cons (jx_d rfl (ja_nil ⟨_, rfl, _, rfl, fun t11 => (ja_nil ⟨[.m false (.lst draw7), .d t11], [.m false (.lst draw7), .d nest_here, .d (.list inner), .m true (.lst found3), .d turn, .d one1, .j, .j, .j, .j], rfl, _, _, _, _, _, (jm__law_next cl draw7 t11), rfl, fun ⟨r5, draw8⟩ => ⟨[.m false (.lst draw8), .d nest_here, .d (.list inner), .m true (.lst found3), .d turn, .d one1, .j, .j, .j, .j], rfl, ⟨_, _, rfl, rfl, _, rfl, fun other => ⟨other, [.m false (.lst draw8), .d nest_here, .d (.list inner), .m true (.lst found3), .d turn, .d one1, .j, .j, .j, .j], rfl, (jg_nm [.m false (.lst draw8), .d nest_here, .d (.list inner), .m true (.lst found3), .d turn, .d one1, .d other, .j, .j, .j] rfl rfl rfl (js_seq (js_asg (jx_call rfD (ja_cons (jx_call rfD (ja_cons (jx_bin rfD (jx_d rfl (jx_call rfD (ja_cons (jx_compP (ji_it (jx_d rfl ⟨other, [.m false (.lst draw8), .d nest_here, .d (.list inner), .m true (.lst found3), .d turn, .d one1, .d other, .j, .j, .j], _, rfl, rfl, fun xs3 => ⟨rfl, _, _, [.m false (.lst draw8), .d nest_here, .d (.list inner), .m true (.lst found3), .d turn, .d one1, .d other, .j, .j, .j], rfl, rfl, fun name => (jc_test (jg_nm [.m false (.lst draw8), .d nest_here, .d (.list inner), .m true (.lst found3), .d turn, .d one1, .d other, .j, .j, .d name] rfl rfl rfl (jt_b (jx_bin rfD (jx_d rfl (jx_d rfl ⟨_, _, rfl, rfl, _, rfl, fun t12 => ⟨_, _, rfl, rfl, fun c6 => ⟨_, _, rfl, (jx_d rfl ⟨name, [.m false (.lst draw8), .d nest_here, .d (.list inner), .m true (.lst found3), .d turn, .d one1, .d other, .j, .j, .d name], rfl, ⟨rfl, (wkr _)⟩⟩), ⟨rfl, (wkr _)⟩⟩⟩⟩)))))), fun ys1 => (ja_nil ⟨_, rfl, _, rfl, fun t13 => ⟨_, _, rfl, rfl, _, rfl, fun t14 => (ja_nil ⟨_, rfl, _, rfl, fun t15 => (ja_nil ⟨_, rfl, _, rfl, fun joined => ⟨joined, [.m false (.lst draw8), .d nest_here, .d (.list inner), .m true (.lst found3), .d turn, .d one1, .d other, .j, .j, .j], rfl, (jg_nm [.m false (.lst draw8), .d nest_here, .d (.list inner), .m true (.lst found3), .d turn, .d one1, .d other, .d joined, .j, .j] rfl rfl rfl (js_if (jt_cut (fun s => s) (fun s => [.m false (.lst draw8), .d nest_here, .d (.list inner), .m true (.lst found3), .d turn, .d one1, .d other, .d joined, .j, .j]) (jt_and (jt_b (jx_bin rfD (jx_d rfl (jx_m rfl ⟨_, _, rfl, rfl, _, rfl, fun t16 => ⟨_, _, rfl, rfl, fun c8 => ⟨_, _, rfl, (jt_tru (jx_funB (ja_cons (jx_m rfl (ja_cons (jx_d rfl (ja_nil ⟨[(.list found3), joined], rfl, rfl, _, _, _, (jm__law_fits cl (.list found3) joined), rfl, fun r6 => ⟨_, _, rfl, rfl, fun c9 => ⟨_, rfl, rfl, (wkr _)⟩⟩, fun _ => ⟨rfl, ⟨rfl, ⟨rfl, rfl⟩⟩⟩⟩))))))), ⟨_, rfl, rfl, (wkr _)⟩⟩⟩⟩))))) (fun c7 => ⟨_, _, rfl, (js_do (jx_mth ofL rfl rfl (ja_cons (jx_d rfl (ja_nil ⟨[joined], [.m false (.lst draw8), .d nest_here, .d (.list inner), .m true (.lst found3), .d turn, .d one1, .d other, .d joined, .j, .j], _, _, _, rfl, rfl, rfl, fun r7 found4 => ⟨[.m false (.lst draw8), .d nest_here, .d (.list inner), .m true (.lst found4), .d turn, .d one1, .d other, .d joined, .j, .j], rfl, ⟨_, rfl, (wkc (wk_refl _) (wkc (wk_refl _) (wkc (wk_refl _) (wkc (wk_refl _) (wkc trivial (wkc trivial (wkc trivial (wkc trivial (wkc trivial (wkc trivial wkn))))))))))⟩⟩⟩))))), (js_nx ⟨_, rfl, (wkc (wk_refl _) (wkc (wk_refl _) (wkc (wk_refl _) (wkc (wk_refl _) (wkc trivial (wkc trivial (wkc trivial (wkc trivial (wkc trivial (wkc trivial wkn))))))))))⟩)⟩))))⟩⟩)⟩)⟩⟩)⟩⟩))))))))))))))⟩⟩⟩⟩)⟩)))))))))))))⟩⟩⟩⟩)⟩))))))))))))), fun ⟨draw6, found3⟩ => (js_ret (jx_call rfD (ja_cons (jx_call rfD (ja_cons (jx_m rfl (ja_nil ⟨_, rfl, _, rfl, fun t17 => (ja_nil ⟨_, rfl, _, rfl, fun t18 => ⟨_, _, rfl, rfl, rl, rfl⟩⟩)⟩)))))))⟩⟩)⟩⟩)))))))))))))⟩⟩))))))⟩⟩⟩⟩))))))
/-! ### _law_nests -/
noncomputable def b__law_nests (cl : Str → Addr) : MS := (fSeq (fAsg (gNm 3) (fFun [.m, .d] (g__law_names cl) [(fVar 0), (fBin addD (fVal (.int 1)) (fFun [.m, .d] (g__law_next cl) [(fVar 0), (fVar 1)]))]))
  (fSeq (fSet 4 (fLst [(fFun [.m, .d] (g__law_nest cl) [(fVar 0), (fVar 3)])]))
  (fSeq (fFor (fItA rg1 [(fFun [.m, .d] (g__law_next cl) [(fVar 0), (fVar 2)])]) (gNm 5) (fSeq (fAsg (gNm 6) (fBin ixD (fVar 4) (fFun [.m, .d] (g__law_next cl) [(fVar 0), (fCall lenD [(fVar 4)])])))
  (fDo (fMth true 4 chApp [(fBin ixD (fLst [(fFun [.m, .d] (g__law_near cl) [(fVar 0), (fVar 6)]), (fFun [.m, .d] (g__law_near cl) [(fVar 0), (fVar 6)]), (fVar 6), (fFun [.m, .d] (g__law_nest cl) [(fVar 0), (fVar 3)])]) (fFun [.m, .d] (g__law_next cl) [(fVar 0), (fVal (.int 4))]))]))))
  (fRet (fVar 4)))))
noncomputable def g__law_nests (cl : Str → Addr) : Fn := mkFn 7 (b__law_nests cl)
theorem ok__law_nests (h : Facts S mg) : Df S P w mg base 4 "_law_nests" 3 (g__law_nests S.cl) := by
  obtain ⟨f, fd, F, hm⟩ := h.f__law_nests
  exact ⟨f, fd, ["_law_draw", "_law_most", "_law_many"], fn_def (k := 3) F sc__law_nests (fun cdv A outer s H E B g => (pf_cons (pf_asg (pv_fun (ok__law_names h) g (pav_cons (pv_var 0) (pav_cons (pv_bin op_addD opd_add g pv_int (pv_fun (ok__law_next h) g (pav_cons (pv_var 0) (pav_cons (pv_var 1) pav_nil)))) pav_nil))) (pgv_name 3 g))
  (pf_cons (pf_set 4 g (pv_lst (pav_cons (pv_fun (ok__law_nest h) g (pav_cons (pv_var 0) (pav_cons (pv_var 3) pav_nil))) pav_nil)))
  (pf_cons (pf_for g (pi_rg1 g h.n_range (pav_cons (pv_fun (ok__law_next h) g (pav_cons (pv_var 0) (pav_cons (pv_var 2) pav_nil))) pav_nil)) (pgv_name 5 g) (pf_cons (pf_asg (pv_ix (ix_D g.room) opd_ix g (pv_var 4) (pv_fun (ok__law_next h) g (pav_cons (pv_var 0) (pav_cons (pv_callB call_lenD cald_len g h.n_len (pav_cons (pv_var 4) pav_nil)) pav_nil))) (fun _ _ => rfl)) (pgv_name 6 g))
  (pf_one (pf_do (pv_mth 4 true PySem.F.plainAttrs_list PySem.F.slot_list_append PySem.F.type_list_append mt_append chd_app g (pav_cons (pv_ix (ix_D g.room) opd_ix g (pv_lst (pav_cons (pv_fun (ok__law_near h) g (pav_cons (pv_var 0) (pav_cons (pv_var 6) pav_nil))) (pav_cons (pv_fun (ok__law_near h) g (pav_cons (pv_var 0) (pav_cons (pv_var 6) pav_nil))) (pav_cons (pv_var 6) (pav_cons (pv_fun (ok__law_nest h) g (pav_cons (pv_var 0) (pav_cons (pv_var 3) pav_nil))) pav_nil))))) (pv_fun (ok__law_next h) g (pav_cons (pv_var 0) (pav_cons pv_int pav_nil))) (fun _ _ => rfl)) pav_nil))))))
  (pf_one (pf_ret (pv_var 4))))))) (by decide), hm, F.kp, F.bindsN fun _ _ _ _ _ _ us hl => match us, hl with | [_, _, _], _ => rfl⟩
def m__law_nests (draw : List PyData) (most : PyData) (many : PyData) : Y (PyData × (List PyData)) := (bYn (m__law_next draw most) fun ⟨r, draw1⟩ =>
  (bO (addD (.int 1) r) fun t =>
  (bYn (m__law_names draw1 t) fun ⟨names_here, draw2⟩ =>
  (bYn (m__law_nest draw2 names_here) fun ⟨r1, draw3⟩ =>
  (bYn (m__law_next draw3 many) fun ⟨r2, draw4⟩ =>
  (bQ (rg1 [r2]) fun xs =>
  (bY (forS xs (draw4, ([r1] : List PyData)) fun turn ⟨draw5, found⟩ =>
  (bO (lenD [(.list found)]) fun t1 =>
  (bYn (m__law_next draw5 t1) fun ⟨r3, draw6⟩ =>
  (bO (ixD (.list found) r3) fun base =>
  (bYn (m__law_near draw6 base) fun ⟨r4, draw7⟩ =>
  (bYn (m__law_near draw7 base) fun ⟨r5, draw8⟩ =>
  (bYn (m__law_nest draw8 names_here) fun ⟨r6, draw9⟩ =>
  (bYn (m__law_next draw9 (.int 4)) fun ⟨r7, draw10⟩ =>
  (bO (ixD (.list [r4, r5, base, r6]) r7) fun t2 =>
  (bC ofL (chApp (.lst found) [t2]) fun r8 found1 =>
  (okY (draw10, found1)))))))))))) fun ⟨draw5, found⟩ =>
  (okY ((.list found), draw5)))))))))
theorem jm__law_nests (cl : Str → Addr) (draw : List PyData) (most : PyData) (many : PyData) : GR 3 (g__law_nests cl [.m false (.lst draw), .d most, .d many]) (m__law_nests draw most many) (fun a => RV.v a.1) (fun a => [.m false (.lst a.2), .d most, .d many]) := by
  unfold m__law_nests
  exact gr_fn (b := b__law_nests cl) (S0 := [.m false (.lst draw), .d most, .d many, .j, .j, .j, .j]) (envR_is rfl) (js_seq (js_asg (jx_funM (ja_cons (jx_m rfl (ja_cons (jx_bin rfD (jx_val (jx_funM (ja_cons (jx_m rfl (ja_cons (jx_d rfl (ja_nil ⟨[.m false (.lst draw), .d most], [.m false (.lst draw), .d most, .d many, .j, .j, .j, .j], rfl, _, _, _, _, _, (jm__law_next cl draw most), rfl, fun ⟨r, draw1⟩ => ⟨[.m false (.lst draw1), .d most, .d many, .j, .j, .j, .j], rfl, ⟨_, _, rfl, rfl, _, rfl, fun t => (ja_nil ⟨[.m false (.lst draw1), .d t], [.m false (.lst draw1), .d most, .d many, .j, .j, .j, .j], rfl, _, _, _, _, _, (jm__law_names cl draw1 t), rfl, fun ⟨names_here, draw2⟩ => ⟨[.m false (.lst draw2), .d most, .d many, .j, .j, .j, .j], rfl, ⟨names_here, [.m false (.lst draw2), .d most, .d many, .j, .j, .j, .j], rfl, (jg_nm [.m false (.lst draw2), .d most, .d many, .d names_here, .j, .j, .j] rfl rfl rfl (js_seq (js_set (jx_lst (ja_cons (jx_funM (ja_cons (jx_m rfl (ja_cons (jx_d rfl (ja_nil ⟨[.m false (.lst draw2), .d names_here], [.m false (.lst draw2), .d most, .d many, .d names_here, .j, .j, .j], rfl, _, _, _, _, _, (jm__law_nest cl draw2 names_here), rfl, fun ⟨r1, draw3⟩ => ⟨[.m false (.lst draw3), .d most, .d many, .d names_here, .j, .j, .j], rfl, (ja_nil ⟨[r1], [.m false (.lst draw3), .d most, .d many, .d names_here, .j, .j, .j], rfl, rfl, ⟨_, [.m false (.lst draw3), .d most, .d many, .d names_here, .m true (.lst [r1]), .j, .j], rfl, rfl, rfl, (js_seq (js_forS (fun s => [.m false (.lst s.1), .d most, .d many, .d names_here, .m true (.lst s.2), .j, .j]) (ji_itA (ja_cons (jx_funM (ja_cons (jx_m rfl (ja_cons (jx_d rfl (ja_nil ⟨[.m false (.lst draw3), .d many], [.m false (.lst draw3), .d most, .d many, .d names_here, .m true (.lst [r1]), .j, .j], rfl, _, _, _, _, _, (jm__law_next cl draw3 many), rfl, fun ⟨r2, draw4⟩ => ⟨[.m false (.lst draw4), .d most, .d many, .d names_here, .m true (.lst [r1]), .j, .j], rfl, (ja_nil ⟨[r2], [.m false (.lst draw4), .d most, .d many, .d names_here, .m true (.lst [r1]), .j, .j], _, rfl, rfl, fun xs => ⟨(draw4, ([r1] : List PyData)), _, _, rfl, (wkr _), fun turn ⟨draw5, found⟩ => (jg_nm [.m false (.lst draw5), .d most, .d many, .d names_here, .m true (.lst found), .d turn, .j] rfl rfl rfl (js_seq (js_asg (jx_bin rfD (jx_m rfl (jx_funM (ja_cons (jx_m rfl (ja_cons (jx_call rfD (ja_cons (jx_m rfl (ja_nil ⟨_, rfl, _, rfl, fun t1 => (ja_nil ⟨[.m false (.lst draw5), .d t1], [.m false (.lst draw5), .d most, .d many, .d names_here, .m true (.lst found), .d turn, .j], rfl, _, _, _, _, _, (jm__law_next cl draw5 t1), rfl, fun ⟨r3, draw6⟩ => ⟨[.m false (.lst draw6), .d most, .d many, .d names_here, .m true (.lst found), .d turn, .j], rfl, ⟨_, _, rfl, rfl, _, rfl, fun base => ⟨base, [.m false (.lst draw6), .d most, .d many, .d names_here, .m true (.lst found), .d turn, .j], rfl, (jg_nm [.m false (.lst draw6), .d most, .d many, .d names_here, .m true (.lst found), .d turn, .d base] rfl rfl rfl (js_do (jx_mth ofL rfl rfl (ja_cons (jx_bin rfD (jx_lst (ja_cons (jx_funM (ja_cons (jx_m rfl (ja_cons (jx_d rfl (ja_nil ⟨[.m false (.lst draw6), .d base], [.m false (.lst draw6), .d most, .d many, .d names_here, .m true (.lst found), .d turn, .d base], rfl, _, _, _, _, _, (jm__law_near cl draw6 base), rfl, fun ⟨r4, draw7⟩ => ⟨[.m false (.lst draw7), .d most, .d many, .d names_here, .m true (.lst found), .d turn, .d base], rfl, (ja_cons (jx_funM (ja_cons (jx_m rfl (ja_cons (jx_d rfl (ja_nil ⟨[.m false (.lst draw7), .d base], [.m false (.lst draw7), .d most, .d many, .d names_here, .m true (.lst found), .d turn, .d base], rfl, _, _, _, _, _, (jm__law_near cl draw7 base), rfl, fun ⟨r5, draw8⟩ => ⟨[.m false (.lst draw8), .d most, .d many, .d names_here, .m true (.lst found), .d turn, .d base], rfl, (ja_cons (jx_d rfl (ja_cons (jx_funM (ja_cons (jx_m rfl (ja_cons (jx_d rfl (ja_nil ⟨[.m false (.lst draw8), .d names_here], [.m false (.lst draw8), .d most, .d many, .d names_here, .m true (.lst found), .d turn, .d base], rfl, _, _, _, _, _, (jm__law_nest cl draw8 names_here), rfl, fun ⟨r6, draw9⟩ => ⟨[.m false (.lst draw9), .d most, .d many, .d names_here, .m true (.lst found), .d turn, .d base], rfl, (ja_nil ⟨[r4, r5, base, r6], [.m false (.lst draw9), .d most, .d many, .d names_here, .m true (.lst found), .d turn, .d base], rfl, rfl, (jx_funM (ja_cons (jx_m rfl (ja_cons (jx_val (ja_nil ⟨[.m false (.lst draw9), .d (.int 4)], [.m false (.lst draw9), .d most, .d many, .d names_here, .m true (.lst found), .d turn, .d base], rfl, _, _, _, _, _, (jm__law_next cl draw9 (.int 4)), rfl, fun ⟨r7, draw10⟩ => ⟨[.m false (.lst draw10), .d most, .d many, .d names_here, .m true (.lst found), .d turn, .d base], rfl, ⟨_, _, rfl, rfl, _, rfl, fun t2 => (ja_nil ⟨[t2], [.m false (.lst draw10), .d most, .d many, .d names_here, .m true (.lst found), .d turn, .d base], _, _, _, rfl, rfl, rfl, fun r8 found1 => ⟨[.m false (.lst draw10), .d most, .d many, .d names_here, .m true (.lst found1), .d turn, .d base], rfl, ⟨_, rfl, (wkc (wk_refl _) (wkc (wk_refl _) (wkc (wk_refl _) (wkc (wk_refl _) (wkc (wk_refl _) (wkc trivial (wkc trivial wkn)))))))⟩⟩⟩)⟩⟩⟩))))))⟩)⟩⟩)))))))))⟩⟩)))))))⟩⟩)))))))))))))⟩⟩⟩⟩)⟩))))))))))))), fun ⟨draw5, found⟩ => (js_ret (jx_m rfl ⟨_, _, rfl, rfl, ro, rfl⟩))⟩⟩)⟩⟩))))))))))⟩⟩)⟩⟩)))))))))))⟩⟩⟩)⟩⟩⟩))))))))))))))
/-! ### _law_due -/
noncomputable def b__law_due (cl : Str → Addr) : MS := (fSeq (fSet 1 (fLst []))
  (fSeq (fFor (fIt selA (fBin ixD (fVar 0) (fVal (.int 0)))) (gNm 2) (fIfS (fB (fBin eqA (fComp [3] (fIt selA (fVar 0)) (gNm 3) (fB (fBin (inD true) (fVar 2) (fVar 3))) (fVar 3)) (fLst []))) (fDo (fMth true 1 chApp [(fVar 2)])) fNx))
  (fRet (fCall tupleD [(fCall sortedA [(fVar 1)])]))))
noncomputable def g__law_due (cl : Str → Addr) : Fn := mkFn 4 (b__law_due cl)
theorem ok__law_due (h : Facts S mg) : Df S P w mg base 1 "_law_due" 1 (g__law_due S.cl) := by
  obtain ⟨f, fd, F, hm⟩ := h.f__law_due
  exact ⟨f, fd, ["_law_nests_here"], fn_def (k := 0) F sc__law_due (fun cdv A outer s H E B g => (pf_cons (pf_set 1 g (pv_lst pav_nil))
  (pf_cons (pf_for g (pi_any g (pv_ix (ix_D g.room) opd_ix g (pv_var 0) pv_int (fun _ _ => rfl))) (pgv_name 2 g) (pf_one (pf_if (pb_cmp (op_eqA g.room) opd_eqA g (pv_comp (own := [("_law_nest_here", 3)]) g (pi_any g (pv_var 0)) (by kernel_rfl) (fun _ _ _ _ _ => (pgv_name 3 g.blk)) (fun _ _ _ _ _ => (ptv_one (pb_cmp (op_notInD g.blk.room) (opd_in true) g.blk (pv_var 2) (pv_var 3) (by first | rfl | exact nomark _)))) (fun _ _ _ _ _ => (pv_var 3))) (pv_lst pav_nil) (by first | rfl | exact nomark _)) (pf_one (pf_do (pv_mth 1 true PySem.F.plainAttrs_list PySem.F.slot_list_append PySem.F.type_list_append mt_append chd_app g (pav_cons (pv_var 2) pav_nil)))) pf_nil)))
  (pf_one (pf_ret (pv_callT call_tupleX cald_tuple g h.n_tuple (pav_cons (pv_callB (call_sortedA g.calm g.room) cald_sorted g h.n_sorted (pav_cons (pv_var 1) pav_nil)) pav_nil))))))) (by decide), hm, F.kp, F.bindsN fun _ _ _ _ _ _ us hl => match us, hl with | [_], _ => rfl⟩
def m__law_due (nests_here : PyData) : Y (PyData) := (bO (ixD nests_here (.int 0)) fun t =>
  (bQ (selA t) fun xs =>
  (bY (forS xs ([] : List PyData) fun heap found =>
  (bQ (selA nests_here) fun xs1 =>
  (bQ (compP xs1 fun nest_here =>
  (bO ((inD true) heap nest_here) fun t1 =>
  (bB t1 fun c =>
  (if c = true then
  (okY (some nest_here)) else
  (okY none))))) fun ys =>
  (bO (eqA (.list ys) (.list [])) fun t2 =>
  (bB t2 fun c1 =>
  (if c1 = true then
  (bC ofL (chApp (.lst found) [heap]) fun r found1 =>
  (okY found1)) else
  (okY found))))))) fun found =>
  (bO (sortedA [(.list found)]) fun t3 =>
  (bO (tupleD [t3]) fun t4 =>
  (okY t4))))))
theorem jm__law_due (cl : Str → Addr) (nests_here : PyData) : GR 1 (g__law_due cl [.d nests_here]) (m__law_due nests_here) (fun a => RV.v a) (fun a => [.d nests_here]) := by
  unfold m__law_due
  exact gr_fn (b := b__law_due cl) (S0 := [.d nests_here, .j, .j, .j]) (envR_is rfl) (js_seq (js_set (jx_lst (ja_nil ⟨[], [.d nests_here, .j, .j, .j], rfl, rfl, ⟨_, [.d nests_here, .m true (.lst []), .j, .j], rfl, rfl, rfl, (js_seq (js_forS (fun s => [.d nests_here, .m true (.lst s), .j, .j]) (ji_it (jx_bin rfD (jx_d rfl (jx_val ⟨_, _, rfl, rfl, _, rfl, fun t => ⟨t, [.d nests_here, .m true (.lst []), .j, .j], _, rfl, rfl, fun xs => ⟨([] : List PyData), _, _, rfl, (wkr _), fun heap found => (jg_nm [.d nests_here, .m true (.lst found), .d heap, .j] rfl rfl rfl (js_if (jt_b (jx_bin rfD (jx_compP (ji_it (jx_d rfl ⟨nests_here, [.d nests_here, .m true (.lst found), .d heap, .j], _, rfl, rfl, fun xs1 => ⟨rfl, _, _, [.d nests_here, .m true (.lst found), .d heap, .j], rfl, rfl, fun nest_here => (jc_test (jg_nm [.d nests_here, .m true (.lst found), .d heap, .d nest_here] rfl rfl rfl (jt_b (jx_bin rfD (jx_d rfl (jx_d rfl ⟨_, _, rfl, rfl, _, rfl, fun t1 => ⟨_, _, rfl, rfl, fun c => ⟨_, _, rfl, (jx_d rfl ⟨nest_here, [.d nests_here, .m true (.lst found), .d heap, .d nest_here], rfl, ⟨rfl, (wkr _)⟩⟩), ⟨rfl, (wkr _)⟩⟩⟩⟩)))))), fun ys => (jx_lst (ja_nil ⟨[], [.d nests_here, .m true (.lst found), .d heap, .j], rfl, rfl, ⟨_, _, rfl, rfl, _, rfl, fun t2 => ⟨_, _, rfl, rfl, fun c1 => ⟨_, _, rfl, (js_do (jx_mth ofL rfl rfl (ja_cons (jx_d rfl (ja_nil ⟨[heap], [.d nests_here, .m true (.lst found), .d heap, .j], _, _, _, rfl, rfl, rfl, fun r found1 => ⟨[.d nests_here, .m true (.lst found1), .d heap, .j], rfl, ⟨_, rfl, (wkc (wk_refl _) (wkc (wk_refl _) (wkc trivial (wkc trivial wkn))))⟩⟩⟩))))), (js_nx ⟨_, rfl, (wkc (wk_refl _) (wkc (wk_refl _) (wkc trivial (wkc trivial wkn))))⟩)⟩⟩⟩⟩))⟩⟩))))))), fun found => (js_ret (jx_call rfD (ja_cons (jx_call rfD (ja_cons (jx_m rfl (ja_nil ⟨_, rfl, _, rfl, fun t3 => (ja_nil ⟨_, rfl, _, rfl, fun t4 => ⟨_, _, rfl, rfl, rl, rfl⟩⟩)⟩)))))))⟩⟩⟩))))))⟩⟩))))
/-! ### is_name -/
noncomputable def b_is_name (cl : Str → Addr) : MS := (fSeq (fIfS (fOr (fNot (fTru (fIsi ["str"] (fVar 0)))) (fNot (fB (fChn leD leD (fVal (.int 1)) (fCall lenD [(fVar 0)]) (fVal (.int 6)))))) (fRet (fVal (.bool false))) fNx)
  (fRet (fBin eqA (fMtd "str" stripD (fVar 0) [(fVal (.str "abcdefghijklmnopqrstuvwxyz"))]) (fVal (.str "")))))
noncomputable def g_is_name (cl : Str → Addr) : Fn := mkFn 1 (b_is_name cl)
theorem ok_is_name (h : Facts S mg) : Df S P w mg base 1 "is_name" 1 (g_is_name S.cl) := by
  obtain ⟨f, fd, F, hm⟩ := h.f_is_name
  exact ⟨f, fd, ["thing"], fn_def (k := 0) F sc_is_name (fun cdv A outer s H E B g => (pf_cons (pf_if (Pv.PBW.pb (Pv.pw_or (pb_not (pb_tru g (pv_isi (T := "str") g (pv_var 0) (pe_ty h.n_str (by rfl) (by decide +kernel)) h.n_isinstance))) (Pv.pw_or1 (pb_not (pb_chn (op_leD g.room) (op_leD g.room) opd_dd opd_dd g pv_int (pv_callB call_lenD cald_len g h.n_len (pav_cons (pv_var 0) pav_nil)) (pv_gint (by rfl) h.m_MOST_LETTERS)))))) (pf_one (pf_ret pv_bl)) pf_nil)
  (pf_one (pf_ret (pv_cmp (op_eqA g.room) opd_eqA g (pv_mtd PySem.F.plainAttrs_str PySem.F.slot_str_strip PySem.F.type_str_strip mt_stripChars mtd_strip g (pv_var 0) (pav_cons (pv_gstr (by rfl) h.m_LETTERS) pav_nil)) pv_str (by first | rfl | exact nomark _)))))) (by decide), hm, F.kp, F.bindsN fun _ _ _ _ _ _ us hl => match us, hl with | [_], _ => rfl⟩
def m_is_name (thing : PyData) : Y (PyData) := (bY (bQ (truD (.bool (anyT ["str"] thing))) fun c1 =>
  (if (!c1) = true then
  (okY true) else
  (bY (bO (lenD [thing]) fun t1 =>
  (bO (leD (.int 1) t1) fun t2 => bB t2 fun c2 => if c2 = true then
  (bO (leD t1 (.int 6)) fun t3 =>
  (okY t3)) else
  (okY (.bool false)))) fun t =>
  (bB t fun c3 =>
  (okY (!c3)))))) fun c =>
  (if c = true then
  (okY (.bool false)) else
  (bG (mtdOk "str" thing) (bO (stripD thing [(.str "abcdefghijklmnopqrstuvwxyz")]) fun t4 =>
  (bO (eqA t4 (.str "")) fun t5 =>
  (okY t5))))))
theorem jm_is_name (cl : Str → Addr) (thing : PyData) : GR 1 (g_is_name cl [.d thing]) (m_is_name thing) (fun a => RV.v a) (fun a => [.d thing]) := by
  unfold m_is_name
  exact gr_fn (b := b_is_name cl) (S0 := [.d thing]) (envR_is rfl) (js_seq (js_if (jt_cut (fun s => s) (fun s => [.d thing]) (jt_or (jt_not (jt_tru (jx_isi (jx_d rfl ⟨_, rfl, ⟨_, _, rfl, rfl, fun c1 => ⟨_, _, rfl, ⟨_, rfl, rfl, (wkr _)⟩, (jt_not (jt_b (jx_cut (fun s => RV.v s) (fun _ => [.d thing]) (jx_chn rfD (jx_val (jx_call rfD (ja_cons (jx_d rfl (ja_nil ⟨_, rfl, _, rfl, fun t1 => ⟨_, _, rfl, rfl, _, rfl, fun t2 => ⟨_, _, rfl, (jx_val ⟨_, _, rfl, rfl, _, rfl, fun t3 => ⟨_, rfl, rl, (wkr _)⟩⟩), ⟨_, rfl, rl, (wkr _)⟩⟩⟩⟩)))))) (fun t => ⟨_, _, rfl, rfl, fun c3 => ⟨_, rfl, rfl, (wkr _)⟩⟩))))⟩⟩⟩))))) (fun c => ⟨_, _, rfl, (js_ret (jx_val ⟨_, _, rfl, rfl, rl, rfl⟩)), (js_nx (js_ret (jx_bin rfD (jx_mtd rfD (jx_d rfl ⟨_, _, rfl, rfl, (ja_cons (jx_val (ja_nil ⟨_, _, rfl, rfl, _, rfl, fun t4 => (jx_val ⟨_, _, rfl, rfl, _, rfl, fun t5 => ⟨_, _, rfl, rfl, rl, rfl⟩⟩)⟩)))⟩)))))⟩))))
/-! ### do_rise -/
noncomputable def b_do_rise (cl : Str → Addr) : MS := (fRet (fCall allD1 [(fComp [1] (fItA rg1 [(fBin subD (fCall lenD [(fVar 0)]) (fVal (.int 1)))]) (gNm 1) fYes (fBin ltD (fBin ixD (fVar 0) (fVar 1)) (fBin ixD (fVar 0) (fBin addD (fVar 1) (fVal (.int 1))))))]))
noncomputable def g_do_rise (cl : Str → Addr) : Fn := mkFn 2 (b_do_rise cl)
theorem ok_do_rise (h : Facts S mg) : Df S P w mg base 1 "do_rise" 1 (g_do_rise S.cl) := by
  obtain ⟨f, fd, F, hm⟩ := h.f_do_rise
  exact ⟨f, fd, ["things"], fn_def (k := 0) F sc_do_rise (fun cdv A outer s H E B g => (pf_one (pf_ret (pv_callB (cr_all g.calm) cald_all g h.n_all (pav_cons (pv_comp (own := [("place", 1)]) g (pi_rg1 g h.n_range (pav_cons (pv_bin op_sub opd_sub g (pv_callB call_lenD cald_len g h.n_len (pav_cons (pv_var 0) pav_nil)) pv_int) pav_nil)) (by kernel_rfl) (fun _ _ _ _ _ => (pgv_name 1 g.blk)) (fun _ _ _ _ _ => ptv_nil) (fun _ _ _ _ _ => (pv_cmp (op_ltD g.blk.room) opd_dd g.blk (pv_ix (ix_D g.blk.room) opd_ix g.blk (pv_var 0) (pv_var 1) (fun _ _ => rfl)) (pv_ix (ix_D g.blk.room) opd_ix g.blk (pv_var 0) (pv_bin op_addD opd_add g.blk (pv_var 1) pv_int) (fun _ _ => rfl)) (by first | rfl | exact nomark _)))) pav_nil))))) (by decide), hm, F.kp, F.bindsN fun _ _ _ _ _ _ us hl => match us, hl with | [_], _ => rfl⟩
def m_do_rise (things : PyData) : Y (PyData) := (bO (lenD [things]) fun t =>
  (bO (subD t (.int 1)) fun t1 =>
  (bQ (rg1 [t1]) fun xs =>
  (bQ (compP xs fun place =>
  (bO (ixD things place) fun t2 =>
  (bO (addD place (.int 1)) fun t3 =>
  (bO (ixD things t3) fun t4 =>
  (bO (ltD t2 t4) fun t5 =>
  (okY (some t5))))))) fun ys =>
  (bO (allD1 [(.list ys)]) fun t6 =>
  (okY t6))))))
theorem jm_do_rise (cl : Str → Addr) (things : PyData) : GR 1 (g_do_rise cl [.d things]) (m_do_rise things) (fun a => RV.v a) (fun a => [.d things]) := by
  unfold m_do_rise
  exact gr_fn (b := b_do_rise cl) (S0 := [.d things, .j]) (envR_is rfl) (js_ret (jx_call rfD (ja_cons (jx_compP (ji_itA (ja_cons (jx_bin rfD (jx_call rfD (ja_cons (jx_d rfl (ja_nil ⟨_, rfl, _, rfl, fun t => (jx_val ⟨_, _, rfl, rfl, _, rfl, fun t1 => (ja_nil ⟨[t1], [.d things, .j], _, rfl, rfl, fun xs => ⟨rfl, _, _, [.d things, .j], rfl, rfl, fun place => (jc_all (jg_nm [.d things, .d place] rfl rfl rfl (jx_bin rfD (jx_bin rfD (jx_d rfl (jx_d rfl ⟨_, _, rfl, rfl, _, rfl, fun t2 => (jx_bin rfD (jx_d rfl (jx_bin rfD (jx_d rfl (jx_val ⟨_, _, rfl, rfl, _, rfl, fun t3 => ⟨_, _, rfl, rfl, _, rfl, fun t4 => ⟨_, _, rfl, rfl, _, rfl, fun t5 => ⟨t5, [.d things, .d place], rfl, ⟨rfl, (wkr _)⟩⟩⟩⟩⟩)))))⟩)))))), fun ys => (ja_nil ⟨_, rfl, _, rfl, fun t6 => ⟨_, _, rfl, rfl, rl, rfl⟩⟩)⟩⟩)⟩)⟩)))))))))))
/-! ### is_heap -/
noncomputable def b_is_heap (cl : Str → Addr) : MS := (fSeq (fIfS (fOr (fNot (fTru (fIsi ["tuple"] (fVar 0)))) (fNot (fB (fChn leD leD (fVal (.int 1)) (fCall lenD [(fVar 0)]) (fVal (.int 12)))))) (fRet (fVal (.bool false))) fNx)
  (fRet (fAndV (fCall allD1 [(fComp [1] (fIt selA (fVar 0)) (gNm 1) fYes (fFun [.d] (g_is_name cl) [(fVar 1)]))]) (fFun [.d] (g_do_rise cl) [(fVar 0)]))))
noncomputable def g_is_heap (cl : Str → Addr) : Fn := mkFn 2 (b_is_heap cl)
theorem ok_is_heap (h : Facts S mg) : Df S P w mg base 2 "is_heap" 1 (g_is_heap S.cl) := by
  obtain ⟨f, fd, F, hm⟩ := h.f_is_heap
  exact ⟨f, fd, ["thing"], fn_def (k := 1) F sc_is_heap (fun cdv A outer s H E B g => (pf_cons (pf_if (Pv.PBW.pb (Pv.pw_or (pb_not (pb_tru g (pv_isi (T := "tuple") g (pv_var 0) (pe_ty h.n_tuple (by rfl) (by decide +kernel)) h.n_isinstance))) (Pv.pw_or1 (pb_not (pb_chn (op_leD g.room) (op_leD g.room) opd_dd opd_dd g pv_int (pv_callB call_lenD cald_len g h.n_len (pav_cons (pv_var 0) pav_nil)) (pv_gint (by rfl) h.m_MOST_NAMES)))))) (pf_one (pf_ret pv_bl)) pf_nil)
  (pf_one (pf_ret (pv_andV (pv_callB (cr_all g.calm) cald_all g h.n_all (pav_cons (pv_comp (own := [("one", 1)]) g (pi_any g (pv_var 0)) (by kernel_rfl) (fun _ _ _ _ _ => (pgv_name 1 g.blk)) (fun _ _ _ _ _ => ptv_nil) (fun _ _ _ _ _ => (pv_fun (ok_is_name h) g.blk (pav_cons (pv_var 1) pav_nil)))) pav_nil)) (pv_one (pv_fun (ok_do_rise h) g (pav_cons (pv_var 0) pav_nil)))))))) (by decide), hm, F.kp, F.bindsN fun _ _ _ _ _ _ us hl => match us, hl with | [_], _ => rfl⟩
def m_is_heap (thing : PyData) : Y (PyData) := (bY (bQ (truD (.bool (anyT ["tuple"] thing))) fun c1 =>
  (if (!c1) = true then
  (okY true) else
  (bY (bO (lenD [thing]) fun t1 =>
  (bO (leD (.int 1) t1) fun t2 => bB t2 fun c2 => if c2 = true then
  (bO (leD t1 (.int 12)) fun t3 =>
  (okY t3)) else
  (okY (.bool false)))) fun t =>
  (bB t fun c3 =>
  (okY (!c3)))))) fun c =>
  (if c = true then
  (okY (.bool false)) else
  (bY (bQ (selA thing) fun xs =>
  (bQ (compP xs fun one =>
  (bYn (m_is_name one) fun r =>
  (okY (some r)))) fun ys =>
  (bO (allD1 [(.list ys)]) fun t5 =>
  (bB t5 fun c4 => if c4 = true then
  (bY (m_do_rise thing) fun r1 =>
  (okY r1)) else
  (okY (.bool false)))))) fun t4 =>
  (okY t4))))
theorem jm_is_heap (cl : Str → Addr) (thing : PyData) : GR 1 (g_is_heap cl [.d thing]) (m_is_heap thing) (fun a => RV.v a) (fun a => [.d thing]) := by
  unfold m_is_heap
  exact gr_fn (b := b_is_heap cl) (S0 := [.d thing, .j]) (envR_is rfl) (js_seq (js_if (jt_cut (fun s => s) (fun s => [.d thing, .j]) (jt_or (jt_not (jt_tru (jx_isi (jx_d rfl ⟨_, rfl, ⟨_, _, rfl, rfl, fun c1 => ⟨_, _, rfl, ⟨_, rfl, rfl, (wkr _)⟩, (jt_not (jt_b (jx_cut (fun s => RV.v s) (fun _ => [.d thing, .j]) (jx_chn rfD (jx_val (jx_call rfD (ja_cons (jx_d rfl (ja_nil ⟨_, rfl, _, rfl, fun t1 => ⟨_, _, rfl, rfl, _, rfl, fun t2 => ⟨_, _, rfl, (jx_val ⟨_, _, rfl, rfl, _, rfl, fun t3 => ⟨_, rfl, rl, (wkr _)⟩⟩), ⟨_, rfl, rl, (wkr _)⟩⟩⟩⟩)))))) (fun t => ⟨_, _, rfl, rfl, fun c3 => ⟨_, rfl, rfl, (wkr _)⟩⟩))))⟩⟩⟩))))) (fun c => ⟨_, _, rfl, (js_ret (jx_val ⟨_, _, rfl, rfl, rl, rfl⟩)), (js_nx (js_ret (jx_cut (fun s => RV.v s) (fun _ => [.d thing, .j]) (jx_andV (jx_call rfD (ja_cons (jx_compP (ji_it (jx_d rfl ⟨thing, [.d thing, .j], _, rfl, rfl, fun xs => ⟨rfl, _, _, [.d thing, .j], rfl, rfl, fun one => (jc_all (jg_nm [.d thing, .d one] rfl rfl rfl (jx_funM (ja_cons (jx_d rfl (ja_nil ⟨[.d one], [.d thing, .d one], rfl, _, _, _, _, _, (jm_is_name cl one), rfl, fun r => ⟨[.d thing, .d one], rfl, ⟨r, [.d thing, .d one], rfl, ⟨rfl, (wkr _)⟩⟩⟩⟩)))))), fun ys => (ja_nil ⟨_, rfl, _, rfl, fun t5 => ⟨_, rfl, _, _, rfl, (jx_fun rfl (ja_cons (jx_d rfl (ja_nil ⟨[.d thing], [.d thing, .j], rfl, _, _, _, _, _, (jm_do_rise cl thing), rfl, fun r1 => ⟨_, rfl, rl, (wkr _)⟩, fun _ => ⟨rfl, ⟨rfl, rfl⟩⟩⟩)))), ⟨_, rfl, rl, (wkr _)⟩⟩⟩)⟩⟩)))))) (fun t4 => ⟨_, _, rfl, rfl, rl, rfl⟩))))⟩))))
/-! ### do_cross -/
noncomputable def b_do_cross (cl : Str → Addr) : MS := (fSeq (fFz 2 (fSet 2 (fComp [3] (fIt selA (fVar 0)) (gNm 3) (fB (fBin (inD false) (fVar 3) (fVar 1))) (fVar 3))))
  (fRet (fAndV (fBin neA (fVar 2) (fLst [])) (fBin ltD (fCall lenD [(fVar 2)]) (fCall minD1 [(fCall lenD [(fVar 0)]), (fCall lenD [(fVar 1)])])))))
noncomputable def g_do_cross (cl : Str → Addr) : Fn := mkFn 4 (b_do_cross cl)
theorem ok_do_cross (h : Facts S mg) : Df S P w mg base 1 "do_cross" 2 (g_do_cross S.cl) := by
  obtain ⟨f, fd, F, hm⟩ := h.f_do_cross
  exact ⟨f, fd, ["one", "other"], fn_def (k := 0) F sc_do_cross (fun cdv A outer s H E B g => (pf_cons (pf_fz 2 (pf_setC 2 (own := [("name", 3)]) g (pi_any g (pv_var 0)) (by kernel_rfl) (fun _ _ _ _ _ => (pgv_name 3 g.blk)) (fun _ _ _ _ _ => (ptv_one (pb_cmp (op_inD g.blk.room) (opd_in false) g.blk (pv_var 3) (pv_var 1) (by first | rfl | exact nomark _)))) (fun _ _ _ _ _ => (pv_var 3))))
  (pf_one (pf_ret (pv_andV (pv_cmp (op_neA g.room) opd_neA g (pv_var 2) (pv_lst pav_nil) (by first | rfl | exact nomark _)) (pv_one (pv_cmp (op_ltD g.room) opd_dd g (pv_callB call_lenD cald_len g h.n_len (pav_cons (pv_var 2) pav_nil)) (pv_callB (call_minD g.calm) cald_min g h.n_min (pav_cons (pv_callB call_lenD cald_len g h.n_len (pav_cons (pv_var 0) pav_nil)) (pav_cons (pv_callB call_lenD cald_len g h.n_len (pav_cons (pv_var 1) pav_nil)) pav_nil))) (by first | rfl | exact nomark _)))))))) (by decide), hm, F.kp, F.bindsN fun _ _ _ _ _ _ us hl => match us, hl with | [_, _], _ => rfl⟩
def m_do_cross (one : PyData) (other : PyData) : Y (PyData) := (bQ (selA one) fun xs =>
  (bQ (compP xs fun name =>
  (bO ((inD false) name other) fun t =>
  (bB t fun c =>
  (if c = true then
  (okY (some name)) else
  (okY none))))) fun both =>
  (bY (bO (neA (.list both) (.list [])) fun t2 =>
  (bB t2 fun c1 => if c1 = true then
  (bO (lenD [(.list both)]) fun t3 =>
  (bO (lenD [one]) fun t4 =>
  (bO (lenD [other]) fun t5 =>
  (bO (minD1 [t4, t5]) fun t6 =>
  (bO (ltD t3 t6) fun t7 =>
  (okY t7)))))) else
  (okY (.bool false)))) fun t1 =>
  (okY t1))))
theorem jm_do_cross (cl : Str → Addr) (one : PyData) (other : PyData) : GR 2 (g_do_cross cl [.d one, .d other]) (m_do_cross one other) (fun a => RV.v a) (fun a => [.d one, .d other]) := by
  unfold m_do_cross
  exact gr_fn (b := b_do_cross cl) (S0 := [.d one, .d other, .j, .j]) (envR_is rfl) (js_seq (js_fz (js_set (jx_compP (ji_it (jx_d rfl ⟨one, [.d one, .d other, .j, .j], _, rfl, rfl, fun xs => ⟨rfl, _, _, [.d one, .d other, .j, .j], rfl, rfl, fun name => (jc_test (jg_nm [.d one, .d other, .j, .d name] rfl rfl rfl (jt_b (jx_bin rfD (jx_d rfl (jx_d rfl ⟨_, _, rfl, rfl, _, rfl, fun t => ⟨_, _, rfl, rfl, fun c => ⟨_, _, rfl, (jx_d rfl ⟨name, [.d one, .d other, .j, .d name], rfl, ⟨rfl, (wkr _)⟩⟩), ⟨rfl, (wkr _)⟩⟩⟩⟩)))))), fun both => ⟨_, [.d one, .d other, .m true (.lst both), .j], rfl, rfl, rfl, ⟨_, [.d one, .d other, .d (.list both), .j], rfl, (js_ret (jx_cut (fun s => RV.v s) (fun _ => [.d one, .d other, .d (.list both), .j]) (jx_andV (jx_bin rfD (jx_d rfl (jx_lst (ja_nil ⟨[], [.d one, .d other, .d (.list both), .j], rfl, rfl, ⟨_, _, rfl, rfl, _, rfl, fun t2 => ⟨_, rfl, _, _, rfl, (jx_bin rfD (jx_call rfD (ja_cons (jx_d rfl (ja_nil ⟨_, rfl, _, rfl, fun t3 => (jx_call rfD (ja_cons (jx_call rfD (ja_cons (jx_d rfl (ja_nil ⟨_, rfl, _, rfl, fun t4 => (ja_cons (jx_call rfD (ja_cons (jx_d rfl (ja_nil ⟨_, rfl, _, rfl, fun t5 => (ja_nil ⟨_, rfl, _, rfl, fun t6 => ⟨_, _, rfl, rfl, _, rfl, fun t7 => ⟨_, rfl, rl, (wkr _)⟩⟩⟩)⟩)))))⟩))))))⟩))))), ⟨_, rfl, rl, (wkr _)⟩⟩⟩⟩))))) (fun t1 => ⟨_, _, rfl, rfl, rl, rfl⟩)))⟩⟩⟩⟩))))))
/-! ### first_crossing -/
noncomputable def b_first_crossing (cl : Str → Addr) : MS := (fSeq (fFor (fItA enA [(fVar 0)]) (gTu [(gNm 1), (gNm 2)]) (fFor (fItA rg2 [(fBin addD (fVar 1) (fVal (.int 1))), (fCall lenD [(fVar 0)])]) (gNm 3) (fIfS (fAnd (fB (fBin gtD (fCall lenD [(fVar 2)]) (fVal (.int 1)))) (fAnd (fB (fBin gtD (fCall lenD [(fBin ixD (fVar 0) (fVar 3))]) (fVal (.int 1)))) (fTru (fFun [.d, .d] (g_do_cross cl) [(fVar 2), (fBin ixD (fVar 0) (fVar 3))])))) (fRet (fTup [(fVar 1), (fVar 3)])) fNx)))
  (fRet (fVal .none)))
noncomputable def g_first_crossing (cl : Str → Addr) : Fn := mkFn 4 (b_first_crossing cl)
theorem ok_first_crossing (h : Facts S mg) : Df S P w mg base 2 "first_crossing" 1 (g_first_crossing S.cl) := by
  obtain ⟨f, fd, F, hm⟩ := h.f_first_crossing
  exact ⟨f, fd, ["heaps"], fn_def (k := 1) F sc_first_crossing (fun cdv A outer s H E B g => (pf_cons (pf_for g (pi_en g h.n_enumerate (pav_cons (pv_var 0) pav_nil)) (pgv_tup g (pgsv_cons (pgv_name 1 g) (pgsv_cons (pgv_name 2 g) pgsv_nil))) (pf_one (pf_for g (pi_rg2 g h.n_range (pav_cons (pv_bin op_addD opd_add g (pv_var 1) pv_int) (pav_cons (pv_callB call_lenD cald_len g h.n_len (pav_cons (pv_var 0) pav_nil)) pav_nil))) (pgv_name 3 g) (pf_one (pf_if (Pv.PBW.pb (Pv.pw_and (pb_cmp (op_gtD g.room) opd_dd g (pv_callB call_lenD cald_len g h.n_len (pav_cons (pv_var 2) pav_nil)) pv_int (by first | rfl | exact nomark _)) (Pv.pw_and (pb_cmp (op_gtD g.room) opd_dd g (pv_callB call_lenD cald_len g h.n_len (pav_cons (pv_ix (ix_D g.room) opd_ix g (pv_var 0) (pv_var 3) (fun _ _ => rfl)) pav_nil)) pv_int (by first | rfl | exact nomark _)) (Pv.pw_and1 (pb_tru g (pv_fun (ok_do_cross h) g (pav_cons (pv_var 2) (pav_cons (pv_ix (ix_D g.room) opd_ix g (pv_var 0) (pv_var 3) (fun _ _ => rfl)) pav_nil)))))))) (pf_one (pf_ret (pv_tup (pav_cons (pv_var 1) (pav_cons (pv_var 3) pav_nil))))) pf_nil)))))
  (pf_one (pf_ret pv_non)))) (by decide), hm, F.kp, F.bindsN fun _ _ _ _ _ _ us hl => match us, hl with | [_], _ => rfl⟩
def m_first_crossing (heaps : PyData) : Y (PyData) := (bQ (enA [heaps]) fun xs =>
  (bY (forY (ρ := (PyData)) xs () fun p _ =>
  (at2 (unT p) fun first one =>
  (bO (addD first (.int 1)) fun t =>
  (bO (lenD [heaps]) fun t1 =>
  (bQ (rg2 [t, t1]) fun xs1 =>
  (bY (forY (ρ := (PyData)) xs1 () fun last _ =>
  (bY (bO (lenD [one]) fun t2 =>
  (bO (gtD t2 (.int 1)) fun t3 =>
  (bB t3 fun c1 =>
  (if c1 = true then
  (bO (ixD heaps last) fun t4 =>
  (bO (lenD [t4]) fun t5 =>
  (bO (gtD t5 (.int 1)) fun t6 =>
  (bB t6 fun c2 =>
  (if c2 = true then
  (bO (ixD heaps last) fun t7 =>
  (bY (m_do_cross one t7) fun r =>
  (bQ (truD r) fun c3 =>
  (okY c3)))) else
  (okY false)))))) else
  (okY false))))) fun c =>
  (if c = true then
  (okY (.rt (.tuple [first, last]))) else
  (okY (.go ()))))) fun w => match w with
  | .go _ =>
  (okY (.go ()))
  | .rt w => okY (.rt w))))))) fun w => match w with
  | .go _ =>
  (okY .none)
  | .rt w => okY w))
theorem jm_first_crossing (cl : Str → Addr) (heaps : PyData) : GR 1 (g_first_crossing cl [.d heaps]) (m_first_crossing heaps) (fun a => RV.v a) (fun a => [.d heaps]) := by
  unfold m_first_crossing
  exact gr_fn (b := b_first_crossing cl) (S0 := [.d heaps, .j, .j, .j]) (envR_is rfl) (js_seq (js_forY (fun s => [.d heaps, .j, .j, .j]) (ji_itA (ja_cons (jx_d rfl (ja_nil ⟨[heaps], [.d heaps, .j, .j, .j], _, rfl, rfl, fun xs => ⟨(), _, _, rfl, (wkr _), fun p _ => (jg_tu2 fun first one => (jg_nm [.d heaps, .d first, .j, .j] rfl rfl rfl (jg_nm [.d heaps, .d first, .d one, .j] rfl rfl rfl (js_forY (fun s => [.d heaps, .d first, .d one, .j]) (ji_itA (ja_cons (jx_bin rfD (jx_d rfl (jx_val ⟨_, _, rfl, rfl, _, rfl, fun t => (ja_cons (jx_call rfD (ja_cons (jx_d rfl (ja_nil ⟨_, rfl, _, rfl, fun t1 => (ja_nil ⟨[t, t1], [.d heaps, .d first, .d one, .j], _, rfl, rfl, fun xs1 => ⟨(), _, _, rfl, (wkr _), fun last _ => (jg_nm [.d heaps, .d first, .d one, .d last] rfl rfl rfl (js_if (jt_cut (fun s => s) (fun s => [.d heaps, .d first, .d one, .d last]) (jt_and (jt_b (jx_bin rfD (jx_call rfD (ja_cons (jx_d rfl (ja_nil ⟨_, rfl, _, rfl, fun t2 => (jx_val ⟨_, _, rfl, rfl, _, rfl, fun t3 => ⟨_, _, rfl, rfl, fun c1 => ⟨_, _, rfl, (jt_and (jt_b (jx_bin rfD (jx_call rfD (ja_cons (jx_bin rfD (jx_d rfl (jx_d rfl ⟨_, _, rfl, rfl, _, rfl, fun t4 => (ja_nil ⟨_, rfl, _, rfl, fun t5 => (jx_val ⟨_, _, rfl, rfl, _, rfl, fun t6 => ⟨_, _, rfl, rfl, fun c2 => ⟨_, _, rfl, (jt_tru (jx_fun rfl (ja_cons (jx_d rfl (ja_cons (jx_bin rfD (jx_d rfl (jx_d rfl ⟨_, _, rfl, rfl, _, rfl, fun t7 => (ja_nil ⟨[.d one, .d t7], [.d heaps, .d first, .d one, .d last], rfl, _, _, _, _, _, (jm_do_cross cl one t7), rfl, fun r => ⟨_, _, rfl, rfl, fun c3 => ⟨_, rfl, rfl, (wkr _)⟩⟩, fun _ => ⟨rfl, ⟨rfl, ⟨rfl, ⟨rfl, rfl⟩⟩⟩⟩⟩)⟩)))))))), ⟨_, rfl, rfl, (wkr _)⟩⟩⟩⟩)⟩)⟩)))))))), ⟨_, rfl, rfl, (wkr _)⟩⟩⟩⟩)⟩))))))) (fun c => ⟨_, _, rfl, (js_ret (jx_tup (ja_cons (jx_d rfl (ja_cons (jx_d rfl (ja_nil ⟨[first, last], [.d heaps, .d first, .d one, .d last], rfl, rfl, ⟨_, rfl, ⟨_, rfl, ⟨_, _, rfl, rfl, rl, rfl⟩⟩⟩⟩))))))), (js_nx ⟨_, rfl, (wkc (wk_refl _) (wkc (wk_refl _) (wkc (wk_refl _) (wkc trivial wkn))))⟩)⟩)))), fun _ => ⟨_, rfl, (wkc (wk_refl _) (wkc trivial (wkc trivial (wkc trivial wkn))))⟩⟩⟩)⟩)))))⟩))))))))), fun _ => (js_ret (jx_val ⟨_, _, rfl, rfl, rl, rfl⟩))⟩⟩))))))
/-! ### is_nest -/
noncomputable def b_is_nest (cl : Str → Addr) : MS := (fSeq (fIfS (fOr (fNot (fTru (fIsi ["tuple"] (fVar 0)))) (fOr (fB (fBin eqA (fVar 0) (fTup []))) (fNot (fTru (fCall allD1 [(fComp [2] (fIt selA (fVar 0)) (gNm 2) fYes (fFun [.d] (g_is_heap cl) [(fVar 2)]))]))))) (fRet (fVal (.bool false))) fNx)
  (fSeq (fIfS (fNot (fTru (fFun [.d] (g_do_rise cl) [(fVar 0)]))) (fRet (fVal (.bool false))) fNx)
  (fSeq (fSet 1 (fDnw false))
  (fSeq (fFor (fIt selA (fVar 0)) (gNm 2) (fDo (fMth false 1 chUpd [(fCall dictK [(fComp [3] (fIt selA (fVar 2)) (gNm 3) fYes (fTup [(fVar 3), (fVal (.bool true))]))])])))
  (fSeq (fIfS (fOr (fB (fBin (inD true) (fCall tupleD [(fCall sortedKD [(fVar 1)])]) (fVar 0))) (fNot (fTru (fCall allD1 [(fCompK 1 [3] (gNm 3) fYes (fBin (inD false) (fTup [(fVar 3)]) (fVar 0)))])))) (fRet (fVal (.bool false))) fNx)
  (fRet (fBin (isD false) (fFun [.d] (g_first_crossing cl) [(fVar 0)]) (fVal .none))))))))
noncomputable def g_is_nest (cl : Str → Addr) : Fn := mkFn 4 (b_is_nest cl)
theorem ok_is_nest (h : Facts S mg) : Df S P w mg base 3 "is_nest" 1 (g_is_nest S.cl) := by
  obtain ⟨f, fd, F, hm⟩ := h.f_is_nest
  exact ⟨f, fd, ["thing"], fn_def (k := 2) F sc_is_nest (fun cdv A outer s H E B g => (pf_cons (pf_if (Pv.PBW.pb (Pv.pw_or (pb_not (pb_tru g (pv_isi (T := "tuple") g (pv_var 0) (pe_ty h.n_tuple (by rfl) (by decide +kernel)) h.n_isinstance))) (Pv.pw_or (pb_cmp (op_eqA g.room) opd_eqA g (pv_var 0) (pv_tup pav_nil) (by first | rfl | exact nomark _)) (Pv.pw_or1 (pb_not (pb_tru g (pv_callB (cr_all g.calm) cald_all g h.n_all (pav_cons (pv_comp (own := [("heap", 2)]) g (pi_any g (pv_var 0)) (by kernel_rfl) (fun _ _ _ _ _ => (pgv_name 2 g.blk)) (fun _ _ _ _ _ => ptv_nil) (fun _ _ _ _ _ => (pv_fun (ok_is_heap h) g.blk (pav_cons (pv_var 2) pav_nil)))) pav_nil)))))))) (pf_one (pf_ret pv_bl)) pf_nil)
  (pf_cons (pf_if (pb_not (pb_tru g (pv_fun (ok_do_rise h) g (pav_cons (pv_var 0) pav_nil)))) (pf_one (pf_ret pv_bl)) pf_nil)
  (pf_cons (pf_set 1 g pv_dnK)
  (pf_cons (pf_for g (pi_any g (pv_var 0)) (pgv_name 2 g) (pf_one (pf_do (pv_mth 1 false PySem.F.plainAttrs_dict PySem.F.slot_dict_update PySem.F.type_dict_update mt_update chd_upd g (pav_cons (pv_callT (call_dictP g.calm) cald_dictK g h.n_dict (pav_cons (pv_comp (own := [("name", 3)]) g (pi_any g (pv_var 2)) (by kernel_rfl) (fun _ _ _ _ _ => (pgv_name 3 g.blk)) (fun _ _ _ _ _ => ptv_nil) (fun _ _ _ _ _ => (pv_tup (pav_cons (pv_var 3) (pav_cons pv_bl pav_nil))))) pav_nil)) pav_nil)))))
  (pf_cons (pf_if (Pv.PBW.pb (Pv.pw_or (pb_cmp (op_notInD g.room) (opd_in true) g (pv_callT call_tupleX cald_tuple g h.n_tuple (pav_cons (pv_callB (call_sortedD g.calm) cald_sortK g h.n_sorted (pav_cons (pv_var 1) pav_nil)) pav_nil)) (pv_var 0) (by first | rfl | exact nomark _)) (Pv.pw_or1 (pb_not (pb_tru g (pv_callB (cr_all g.calm) cald_all g h.n_all (pav_cons (pv_compK 1 (own := [("name", 3)]) g (by kernel_rfl) (fun _ _ _ _ _ => (pgv_name 3 g.blk)) (fun _ _ _ _ _ => ptv_nil) (fun _ _ _ _ _ => (pv_cmp (op_inD g.blk.room) (opd_in false) g.blk (pv_tup (pav_cons (pv_var 3) pav_nil)) (pv_var 0) (by first | rfl | exact nomark _)))) pav_nil))))))) (pf_one (pf_ret pv_bl)) pf_nil)
  (pf_one (pf_ret (pv_cmp op_isD (opd_is false) g (pv_fun (ok_first_crossing h) g (pav_cons (pv_var 0) pav_nil)) pv_non (by first | rfl | exact nomark _)))))))))) (by decide), hm, F.kp, F.bindsN fun _ _ _ _ _ _ us hl => match us, hl with | [_], _ => rfl⟩
def m_is_nest (thing : PyData) : Y (PyData) := (bY (bQ (truD (.bool (anyT ["tuple"] thing))) fun c1 =>
  (if (!c1) = true then
  (okY true) else
  (bO (eqA thing (.tuple [])) fun t =>
  (bB t fun c2 =>
  (if c2 = true then
  (okY true) else
  (bQ (selA thing) fun xs =>
  (bQ (compP xs fun heap =>
  (bYn (m_is_heap heap) fun r =>
  (okY (some r)))) fun ys =>
  (bO (allD1 [(.list ys)]) fun t1 =>
  (bQ (truD t1) fun c3 =>
  (okY (!c3))))))))))) fun c =>
  (if c = true then
  (okY (.bool false)) else
  (bY (m_do_rise thing) fun r1 =>
  (bQ (truD r1) fun c4 =>
  (if (!c4) = true then
  (okY (.bool false)) else
  (bQ (selA thing) fun xs1 =>
  (bY (forS xs1 ([] : List (PyData × PyData)) fun heap1 names =>
  (bQ (selA heap1) fun xs2 =>
  (bQ (compP xs2 fun name =>
  (okY (some (.tuple [name, (.bool true)])))) fun ys1 =>
  (bO (dictK [(.list ys1)]) fun t2 =>
  (bC (ofK false) (chUpd (.dct false names) [t2]) fun r2 names1 =>
  (okY names1)))))) fun names =>
  (bY (bO (sortedKD [(.dict names)]) fun t3 =>
  (bO (tupleD [t3]) fun t4 =>
  (bO ((inD true) t4 thing) fun t5 =>
  (bB t5 fun c6 =>
  (if c6 = true then
  (okY true) else
  (bQ (compP (keysD names) fun name1 =>
  (bO ((inD false) (.tuple [name1]) thing) fun t6 =>
  (okY (some t6)))) fun ys2 =>
  (bO (allD1 [(.list ys2)]) fun t7 =>
  (bQ (truD t7) fun c7 =>
  (okY (!c7)))))))))) fun c5 =>
  (if c5 = true then
  (okY (.bool false)) else
  (bY (m_first_crossing thing) fun r3 =>
  (bO ((isD false) r3 .none) fun t8 =>
  (okY t8))))))))))))
theorem jm_is_nest (cl : Str → Addr) (thing : PyData) : GR 1 (g_is_nest cl [.d thing]) (m_is_nest thing) (fun a => RV.v a) (fun a => [.d thing]) := by
  unfold m_is_nest
  exact gr_fn (b := b_is_nest cl) (S0 := [.d thing, .j, .j, .j]) (envR_is rfl) (js_seq (js_if (jt_cut (fun s => s) (fun s => [.d thing, .j, .j, .j]) (jt_or (jt_not (jt_tru (jx_isi (jx_d rfl ⟨_, rfl, ⟨_, _, rfl, rfl, fun c1 => ⟨_, _, rfl, ⟨_, rfl, rfl, (wkr _)⟩, (jt_or (jt_b (jx_bin rfD (jx_d rfl (jx_tup (ja_nil ⟨[], [.d thing, .j, .j, .j], rfl, rfl, ⟨_, _, rfl, rfl, _, rfl, fun t => ⟨_, _, rfl, rfl, fun c2 => ⟨_, _, rfl, ⟨_, rfl, rfl, (wkr _)⟩, (jt_not (jt_tru (jx_call rfD (ja_cons (jx_compP (ji_it (jx_d rfl ⟨thing, [.d thing, .j, .j, .j], _, rfl, rfl, fun xs => ⟨rfl, _, _, [.d thing, .j, .j, .j], rfl, rfl, fun heap => (jc_all (jg_nm [.d thing, .j, .d heap, .j] rfl rfl rfl (jx_funM (ja_cons (jx_d rfl (ja_nil ⟨[.d heap], [.d thing, .j, .d heap, .j], rfl, _, _, _, _, _, (jm_is_heap cl heap), rfl, fun r => ⟨[.d thing, .j, .d heap, .j], rfl, ⟨r, [.d thing, .j, .d heap, .j], rfl, ⟨rfl, (wkr _)⟩⟩⟩⟩)))))), fun ys => (ja_nil ⟨_, rfl, _, rfl, fun t1 => ⟨_, _, rfl, rfl, fun c3 => ⟨_, rfl, rfl, (wkr _)⟩⟩⟩)⟩⟩)))))))⟩⟩⟩⟩))))))⟩⟩⟩))))) (fun c => ⟨_, _, rfl, (js_ret (jx_val ⟨_, _, rfl, rfl, rl, rfl⟩)), (js_nx (js_seq (js_if (jt_not (jt_tru (jx_fun rfl (ja_cons (jx_d rfl (ja_nil ⟨[.d thing], [.d thing, .j, .j, .j], rfl, _, _, _, _, _, (jm_do_rise cl thing), rfl, fun r1 => ⟨_, _, rfl, rfl, fun c4 => ⟨_, _, rfl, (js_ret (jx_val ⟨_, _, rfl, rfl, rl, rfl⟩)), (js_nx (js_seq (js_set (jx_dnw ⟨_, [.d thing, .m true (.dct false []), .j, .j], rfl, rfl, rfl, (js_seq (js_forS (fun s => [.d thing, .m true (.dct false s), .j, .j]) (ji_it (jx_d rfl ⟨thing, [.d thing, .m true (.dct false []), .j, .j], _, rfl, rfl, fun xs1 => ⟨([] : List (PyData × PyData)), _, _, rfl, (wkr _), fun heap1 names => (jg_nm [.d thing, .m true (.dct false names), .d heap1, .j] rfl rfl rfl (js_do (jx_mth (ofK false) rfl rfl (ja_cons (jx_call rfD (ja_cons (jx_compP (ji_it (jx_d rfl ⟨heap1, [.d thing, .m true (.dct false names), .d heap1, .j], _, rfl, rfl, fun xs2 => ⟨rfl, _, _, [.d thing, .m true (.dct false names), .d heap1, .j], rfl, rfl, fun name => (jc_all (jg_nm [.d thing, .m true (.dct false names), .d heap1, .d name] rfl rfl rfl (jx_tup (ja_cons (jx_d rfl (ja_cons (jx_val (ja_nil ⟨[name, (.bool true)], [.d thing, .m true (.dct false names), .d heap1, .d name], rfl, rfl, ⟨(.tuple [name, (.bool true)]), [.d thing, .m true (.dct false names), .d heap1, .d name], rfl, ⟨rfl, (wkr _)⟩⟩⟩)))))))), fun ys1 => (ja_nil ⟨_, rfl, _, rfl, fun t2 => (ja_nil ⟨[t2], [.d thing, .m true (.dct false names), .d heap1, .j], _, _, _, rfl, rfl, rfl, fun r2 names1 => ⟨[.d thing, .m true (.dct false names1), .d heap1, .j], rfl, ⟨_, rfl, (wkc (wk_refl _) (wkc (wk_refl _) (wkc trivial (wkc trivial wkn))))⟩⟩⟩)⟩)⟩⟩))))))))), fun names => (js_seq (js_if (jt_cut (fun s => s) (fun s => [.d thing, .q, .j, .j]) (jt_or (jt_b (jx_bin rfD (jx_call rfD (ja_cons (jx_call rfD (ja_cons (jx_m rfl (ja_nil ⟨_, rfl, _, rfl, fun t3 => (ja_nil ⟨_, rfl, _, rfl, fun t4 => (jx_d rfl ⟨_, _, rfl, rfl, _, rfl, fun t5 => ⟨_, _, rfl, rfl, fun c6 => ⟨_, _, rfl, ⟨_, rfl, rfl, (wkc (wk_refl _) (wkc trivial (wkc trivial (wkc trivial wkn))))⟩, (jt_not (jt_tru (jx_call rfD (ja_cons (jx_compKP (jk_m [.d thing, .d (.dict names), .j, .j] rfl rfl ⟨rfl, _, _, [.d thing, .d (.dict names), .j, .j], rfl, rfl, fun name1 => (jc_all (jg_nm [.d thing, .d (.dict names), .j, .d name1] rfl rfl rfl (jx_bin rfD (jx_tup (ja_cons (jx_d rfl (ja_nil ⟨[name1], [.d thing, .d (.dict names), .j, .d name1], rfl, rfl, (jx_d rfl ⟨_, _, rfl, rfl, _, rfl, fun t6 => ⟨t6, [.d thing, .d (.dict names), .j, .d name1], rfl, ⟨rfl, (wkr _)⟩⟩⟩)⟩))))))), fun ys2 => (ja_nil ⟨_, rfl, _, rfl, fun t7 => ⟨_, _, rfl, rfl, fun c7 => ⟨_, rfl, rfl, (wkc (wk_refl _) (wkc trivial (wkc trivial (wkc trivial wkn))))⟩⟩⟩)⟩))))))⟩⟩⟩)⟩)⟩))))))))) (fun c5 => ⟨_, _, rfl, (js_ret (jx_val ⟨_, _, rfl, rfl, rl, rfl⟩)), (js_nx (js_ret (jx_bin rfD (jx_fun rfl (ja_cons (jx_d rfl (ja_nil ⟨[.d thing], [.d thing, .q, .j, .j], rfl, _, _, _, _, _, (jm_first_crossing cl thing), rfl, fun r3 => (jx_val ⟨_, _, rfl, rfl, _, rfl, fun t8 => ⟨_, _, rfl, rfl, rl, rfl⟩⟩), fun _ => ⟨rfl, rfl⟩⟩)))))))⟩))))⟩⟩))))⟩))))⟩⟩, fun _ => ⟨rfl, rfl⟩⟩)))))))))⟩))))
/-! ### top_of -/
noncomputable def b_top_of (cl : Str → Addr) : MS := (fRet (fCall maxLD [(fVar 0)]))
noncomputable def g_top_of (cl : Str → Addr) : Fn := mkFn 1 (b_top_of cl)
theorem ok_top_of (h : Facts S mg) : Df S P w mg base 1 "top_of" 1 (g_top_of S.cl) := by
  obtain ⟨f, fd, F, hm⟩ := h.f_top_of
  exact ⟨f, fd, ["nest"], fn_def (k := 0) F sc_top_of (fun cdv A outer s H E B g => (pf_one (pf_ret (pv_callBV (id := "max") (ks := [Str.ofString "key"]) (ws := [.builtin "len"]) (call_maxL (kw := []) g.calm (.inl rfl)) cald_byLen g h.n_max (pav_cons (pv_var 0) pav_nil) (pkv_bi (id := "len") h.n_len pkv_nil))))) (by decide), hm, F.kp, F.bindsN fun _ _ _ _ _ _ us hl => match us, hl with | [_], _ => rfl⟩
def m_top_of (nest : PyData) : Y (PyData) := (bO (maxLD [nest]) fun t =>
  (okY t))
theorem jm_top_of (cl : Str → Addr) (nest : PyData) : GR 1 (g_top_of cl [.d nest]) (m_top_of nest) (fun a => RV.v a) (fun a => [.d nest]) := by
  unfold m_top_of
  exact gr_fn (b := b_top_of cl) (S0 := [.d nest]) (envR_is rfl) (js_ret (jx_call rfD (ja_cons (jx_d rfl (ja_nil ⟨_, rfl, _, rfl, fun t => ⟨_, _, rfl, rfl, rl, rfl⟩⟩)))))
/-! ### need_nests -/
noncomputable def b_need_nests (cl : Str → Addr) : MS := (fSeq (fIfS (fOr (fNot (fTru (fIsi ["list"] (fVar 0)))) (fOr (fB (fBin eqA (fVar 0) (fLst []))) (fNot (fTru (fCall allD1 [(fComp [1] (fIt selA (fVar 0)) (gNm 1) fYes (fFun [.d] (g_is_nest cl) [(fVar 1)]))]))))) (fRaise "NoNest") fNx)
  (fIfS (fTru (fCall anyD1 [(fComp [1] (fIt selA (fVar 0)) (gNm 1) fYes (fBin neA (fFun [.d] (g_top_of cl) [(fVar 1)]) (fFun [.d] (g_top_of cl) [(fBin ixD (fVar 0) (fVal (.int 0)))])))])) (fRaise "NoName") fNx))
noncomputable def g_need_nests (cl : Str → Addr) : Fn := mkFn 2 (b_need_nests cl)
theorem ok_need_nests (h : Facts S mg) : Df S P w mg base 4 "need_nests" 1 (g_need_nests S.cl) := by
  obtain ⟨f, fd, F, hm⟩ := h.f_need_nests
  exact ⟨f, fd, ["nests"], fn_def (k := 3) F sc_need_nests (fun cdv A outer s H E B g => (pf_cons (pf_if (Pv.PBW.pb (Pv.pw_or (pb_not (pb_tru g (pv_isi (T := "list") g (pv_var 0) (pe_ty h.n_list (by rfl) (by decide +kernel)) h.n_isinstance))) (Pv.pw_or (pb_cmp (op_eqA g.room) opd_eqA g (pv_var 0) (pv_lst pav_nil) (by first | rfl | exact nomark _)) (Pv.pw_or1 (pb_not (pb_tru g (pv_callB (cr_all g.calm) cald_all g h.n_all (pav_cons (pv_comp (own := [("nest", 1)]) g (pi_any g (pv_var 0)) (by kernel_rfl) (fun _ _ _ _ _ => (pgv_name 1 g.blk)) (fun _ _ _ _ _ => ptv_nil) (fun _ _ _ _ _ => (pv_fun (ok_is_nest h) g.blk (pav_cons (pv_var 1) pav_nil)))) pav_nil)))))))) (pf_one (pf_raise g h.e_NoNest.1 h.e_NoNest.2.1 h.e_NoNest.2.2.1 h.e_NoNest.2.2.2.1 h.e_NoNest.2.2.2.2)) pf_nil)
  (pf_one (pf_if (pb_tru g (pv_callB (cr_any g.calm) cald_any g h.n_any (pav_cons (pv_comp (own := [("nest", 1)]) g (pi_any g (pv_var 0)) (by kernel_rfl) (fun _ _ _ _ _ => (pgv_name 1 g.blk)) (fun _ _ _ _ _ => ptv_nil) (fun _ _ _ _ _ => (pv_cmp (op_neA g.blk.room) opd_neA g.blk (pv_fun (ok_top_of h) g.blk (pav_cons (pv_var 1) pav_nil)) (pv_fun (ok_top_of h) g.blk (pav_cons (pv_ix (ix_D g.blk.room) opd_ix g.blk (pv_var 0) pv_int (fun _ _ => rfl)) pav_nil)) (by first | rfl | exact nomark _)))) pav_nil))) (pf_one (pf_raise g h.e_NoName.1 h.e_NoName.2.1 h.e_NoName.2.2.1 h.e_NoName.2.2.2.1 h.e_NoName.2.2.2.2)) pf_nil)))) (by decide), hm, F.kp, F.bindsN fun _ _ _ _ _ _ us hl => match us, hl with | [_], _ => rfl⟩
def m_need_nests (nests : PyData) : Y (PyData) := (bY (bQ (truD (.bool (anyT ["list"] nests))) fun c1 =>
  (if (!c1) = true then
  (okY true) else
  (bO (eqA nests (.list [])) fun t =>
  (bB t fun c2 =>
  (if c2 = true then
  (okY true) else
  (bQ (selA nests) fun xs =>
  (bQ (compP xs fun nest =>
  (bYn (m_is_nest nest) fun r =>
  (okY (some r)))) fun ys =>
  (bO (allD1 [(.list ys)]) fun t1 =>
  (bQ (truD t1) fun c3 =>
  (okY (!c3))))))))))) fun c =>
  (if c = true then
  (exY "NoNest") else
  (bQ (selA nests) fun xs1 =>
  (bQ (compP xs1 fun nest1 =>
  (bYn (m_top_of nest1) fun r1 =>
  (bO (ixD nests (.int 0)) fun t2 =>
  (bYn (m_top_of t2) fun r2 =>
  (bO (neA r1 r2) fun t3 =>
  (okY (some t3))))))) fun ys1 =>
  (bO (anyD1 [(.list ys1)]) fun t4 =>
  (bQ (truD t4) fun c4 =>
  (if c4 = true then
  (exY "NoName") else
  (okY .none))))))))
theorem jm_need_nests (cl : Str → Addr) (nests : PyData) : GR 1 (g_need_nests cl [.d nests]) (m_need_nests nests) (fun a => RV.v a) (fun a => [.d nests]) := by
  unfold m_need_nests
  exact gr_fn (b := b_need_nests cl) (S0 := [.d nests, .j]) (envR_is rfl) (js_seq (js_if (jt_cut (fun s => s) (fun s => [.d nests, .j]) (jt_or (jt_not (jt_tru (jx_isi (jx_d rfl ⟨_, rfl, ⟨_, _, rfl, rfl, fun c1 => ⟨_, _, rfl, ⟨_, rfl, rfl, (wkr _)⟩, (jt_or (jt_b (jx_bin rfD (jx_d rfl (jx_lst (ja_nil ⟨[], [.d nests, .j], rfl, rfl, ⟨_, _, rfl, rfl, _, rfl, fun t => ⟨_, _, rfl, rfl, fun c2 => ⟨_, _, rfl, ⟨_, rfl, rfl, (wkr _)⟩, (jt_not (jt_tru (jx_call rfD (ja_cons (jx_compP (ji_it (jx_d rfl ⟨nests, [.d nests, .j], _, rfl, rfl, fun xs => ⟨rfl, _, _, [.d nests, .j], rfl, rfl, fun nest => (jc_all (jg_nm [.d nests, .d nest] rfl rfl rfl (jx_funM (ja_cons (jx_d rfl (ja_nil ⟨[.d nest], [.d nests, .d nest], rfl, _, _, _, _, _, (jm_is_nest cl nest), rfl, fun r => ⟨[.d nests, .d nest], rfl, ⟨r, [.d nests, .d nest], rfl, ⟨rfl, (wkr _)⟩⟩⟩⟩)))))), fun ys => (ja_nil ⟨_, rfl, _, rfl, fun t1 => ⟨_, _, rfl, rfl, fun c3 => ⟨_, rfl, rfl, (wkr _)⟩⟩⟩)⟩⟩)))))))⟩⟩⟩⟩))))))⟩⟩⟩))))) (fun c => ⟨_, _, rfl, (js_raise ⟨rfl, rfl⟩), (js_nx (js_if (jt_tru (jx_call rfD (ja_cons (jx_compP (ji_it (jx_d rfl ⟨nests, [.d nests, .j], _, rfl, rfl, fun xs1 => ⟨rfl, _, _, [.d nests, .j], rfl, rfl, fun nest1 => (jc_all (jg_nm [.d nests, .d nest1] rfl rfl rfl (jx_bin rfD (jx_funM (ja_cons (jx_d rfl (ja_nil ⟨[.d nest1], [.d nests, .d nest1], rfl, _, _, _, _, _, (jm_top_of cl nest1), rfl, fun r1 => ⟨[.d nests, .d nest1], rfl, (jx_funM (ja_cons (jx_bin rfD (jx_d rfl (jx_val ⟨_, _, rfl, rfl, _, rfl, fun t2 => (ja_nil ⟨[.d t2], [.d nests, .d nest1], rfl, _, _, _, _, _, (jm_top_of cl t2), rfl, fun r2 => ⟨[.d nests, .d nest1], rfl, ⟨_, _, rfl, rfl, _, rfl, fun t3 => ⟨t3, [.d nests, .d nest1], rfl, ⟨rfl, (wkr _)⟩⟩⟩⟩⟩)⟩)))))⟩⟩))))))), fun ys1 => (ja_nil ⟨_, rfl, _, rfl, fun t4 => ⟨_, _, rfl, rfl, fun c4 => ⟨_, _, rfl, (js_raise ⟨rfl, rfl⟩), (js_nx ⟨_, rfl, rfl, rfl⟩)⟩⟩⟩)⟩⟩))))))))⟩))))
/-! ### common -/
noncomputable def b_common (cl : Str → Addr) : MS := (fSeq (fDo (fFun [.d] (g_need_nests cl) [(fVar 0)]))
  (fRet (fCall tupleD [(fComp [1] (fIt selA (fBin ixD (fVar 0) (fVal (.int 0)))) (gNm 1) (fTru (fCall allD1 [(fComp [2] (fIt selA (fVar 0)) (gNm 2) fYes (fBin (inD false) (fVar 1) (fVar 2)))])) (fVar 1))])))
noncomputable def g_common (cl : Str → Addr) : Fn := mkFn 3 (b_common cl)
theorem ok_common (h : Facts S mg) : Df S P w mg base 5 "common" 1 (g_common S.cl) := by
  obtain ⟨f, fd, F, hm⟩ := h.f_common
  exact ⟨f, fd, ["nests"], fn_def (k := 4) F sc_common (fun cdv A outer s H E B g => (pf_cons (pf_do (pv_fun (ok_need_nests h) g (pav_cons (pv_var 0) pav_nil)))
  (pf_one (pf_ret (pv_callT call_tupleX cald_tuple g h.n_tuple (pav_cons (pv_comp (own := [("heap", 1)]) g (pi_any g (pv_ix (ix_D g.room) opd_ix g (pv_var 0) pv_int (fun _ _ => rfl))) (by kernel_rfl) (fun _ _ _ _ _ => (pgv_name 1 g.blk)) (fun _ _ _ _ _ => (ptv_one (pb_tru g.blk (pv_callB (cr_all g.blk.calm) cald_all g.blk h.n_all (pav_cons (pv_comp (own := [("nest", 2)]) g.blk (pi_any g.blk (pv_var 0)) (by kernel_rfl) (fun _ _ _ _ _ => (pgv_name 2 g.blk.blk)) (fun _ _ _ _ _ => ptv_nil) (fun _ _ _ _ _ => (pv_cmp (op_inD g.blk.blk.room) (opd_in false) g.blk.blk (pv_var 1) (pv_var 2) (by first | rfl | exact nomark _)))) pav_nil))))) (fun _ _ _ _ _ => (pv_var 1))) pav_nil)))))) (by decide), hm, F.kp, F.bindsN fun _ _ _ _ _ _ us hl => match us, hl with | [_], _ => rfl⟩
def m_common (nests : PyData) : Y (PyData) := (bY (m_need_nests nests) fun r =>
  (bO (ixD nests (.int 0)) fun t =>
  (bQ (selA t) fun xs =>
  (bQ (compP xs fun heap =>
  (bQ (selA nests) fun xs1 =>
  (bQ (compP xs1 fun nest =>
  (bO ((inD false) heap nest) fun t1 =>
  (okY (some t1)))) fun ys =>
  (bO (allD1 [(.list ys)]) fun t2 =>
  (bQ (truD t2) fun c =>
  (if c = true then
  (okY (some heap)) else
  (okY none))))))) fun ys1 =>
  (bO (tupleD [(.list ys1)]) fun t3 =>
  (okY t3))))))
theorem jm_common (cl : Str → Addr) (nests : PyData) : GR 1 (g_common cl [.d nests]) (m_common nests) (fun a => RV.v a) (fun a => [.d nests]) := by
  unfold m_common
  exact gr_fn (b := b_common cl) (S0 := [.d nests, .j, .j]) (envR_is rfl) (js_seq (js_do (jx_fun rfl (ja_cons (jx_d rfl (ja_nil ⟨[.d nests], [.d nests, .j, .j], rfl, _, _, _, _, _, (jm_need_nests cl nests), rfl, fun r => (js_ret (jx_call rfD (ja_cons (jx_compP (ji_it (jx_bin rfD (jx_d rfl (jx_val ⟨_, _, rfl, rfl, _, rfl, fun t => ⟨t, [.d nests, .j, .j], _, rfl, rfl, fun xs => ⟨rfl, _, _, [.d nests, .j, .j], rfl, rfl, fun heap => (jc_test (jg_nm [.d nests, .d heap, .j] rfl rfl rfl (jt_tru (jx_call rfD (ja_cons (jx_compP (ji_it (jx_d rfl ⟨nests, [.d nests, .d heap, .j], _, rfl, rfl, fun xs1 => ⟨rfl, _, _, [.d nests, .d heap, .j], rfl, rfl, fun nest => (jc_all (jg_nm [.d nests, .d heap, .d nest] rfl rfl rfl (jx_bin rfD (jx_d rfl (jx_d rfl ⟨_, _, rfl, rfl, _, rfl, fun t1 => ⟨t1, [.d nests, .d heap, .d nest], rfl, ⟨rfl, (wkr _)⟩⟩⟩))))), fun ys => (ja_nil ⟨_, rfl, _, rfl, fun t2 => ⟨_, _, rfl, rfl, fun c => ⟨_, _, rfl, (jx_d rfl ⟨heap, [.d nests, .d heap, .j], rfl, ⟨rfl, (wkr _)⟩⟩), ⟨rfl, (wkr _)⟩⟩⟩⟩)⟩⟩)))))))), fun ys1 => (ja_nil ⟨_, rfl, _, rfl, fun t3 => ⟨_, _, rfl, rfl, rl, rfl⟩⟩)⟩⟩⟩)))))))), fun _ => ⟨rfl, rfl⟩⟩))))))
/-! ### _law_as -/
noncomputable def b__law_as (cl : Str → Addr) : MS := (fRet (fAndV (fIsi ["tuple"] (fVar 0)) (fBin eqA (fVar 0) (fVar 1))))
noncomputable def g__law_as (cl : Str → Addr) : Fn := mkFn 2 (b__law_as cl)
theorem ok__law_as (h : Facts S mg) : Df S P w mg base 1 "_law_as" 2 (g__law_as S.cl) := by
  obtain ⟨f, fd, F, hm⟩ := h.f__law_as
  exact ⟨f, fd, ["_law_found", "_law_due_here"], fn_def (k := 0) F sc__law_as (fun cdv A outer s H E B g => (pf_one (pf_ret (pv_andV (pv_isi (T := "tuple") g (pv_var 0) (pe_ty h.n_tuple (by rfl) (by decide +kernel)) h.n_isinstance) (pv_one (pv_cmp (op_eqA g.room) opd_eqA g (pv_var 0) (pv_var 1) (by first | rfl | exact nomark _))))))) (by decide), hm, F.kp, F.bindsN fun _ _ _ _ _ _ us hl => match us, hl with | [_, _], _ => rfl⟩
def m__law_as (found : PyData) (due_here : PyData) : Y (PyData) := (bY (bB (.bool (anyT ["tuple"] found)) fun c => if c = true then
  (bO (eqA found due_here) fun t1 =>
  (okY t1)) else
  (okY (.bool false))) fun t =>
  (okY t))
theorem jm__law_as (cl : Str → Addr) (found : PyData) (due_here : PyData) : GR 2 (g__law_as cl [.d found, .d due_here]) (m__law_as found due_here) (fun a => RV.v a) (fun a => [.d found, .d due_here]) := by
  unfold m__law_as
  exact gr_fn (b := b__law_as cl) (S0 := [.d found, .d due_here]) (envR_is rfl) (js_ret (jx_cut (fun s => RV.v s) (fun _ => [.d found, .d due_here]) (jx_andV (jx_isi (jx_d rfl ⟨_, rfl, ⟨_, rfl, _, _, rfl, (jx_bin rfD (jx_d rfl (jx_d rfl ⟨_, _, rfl, rfl, _, rfl, fun t1 => ⟨_, rfl, rl, (wkr _)⟩⟩))), ⟨_, rfl, rl, (wkr _)⟩⟩⟩))) (fun t => ⟨_, _, rfl, rfl, rl, rfl⟩)))
/-! ### _law_right -/
noncomputable def b__law_right (cl : Str → Addr) : MS := (fSeq (fSet 2 (fFun [.d, .d] (g__law_begun cl) [(fVar 0), (fVar 1)]))
  (fSeq (fAsg (gNm 3) (fFun [.m, .d, .d] (g__law_nests cl) [(fVar 2), (fVal (.int 12)), (fVal (.int 7))]))
  (fSeq (fAsg (gNm 4) (fBin addD (fVar 3) (fLst [(fFun [.m, .d] (g__law_near cl) [(fVar 2), (fBin ixD (fVar 3) (fVal (.int 0)))])])))
  (fSeq (fAsg (gNm 5) (fFun [.d] (g__law_due cl) [(fVar 3)]))
  (fSeq (fSet 6 (fCall listD [(fVar 3)]))
  (fSeq (fAsg (gNm 7) (fFunT 1 (g_common cl) [(fVar 6)]))
  (fSeq (fIfS (fOr (fNot (fTru (fFun [.d, .d] (g__law_as cl) [(fVar 7), (fVar 5)]))) (fB (fBin neA (fVar 6) (fVar 3)))) (fRet (fVal (.bool false))) fNx)
  (fSeq (fDo (fMth true 6 chApp [(fBin ixD (fVar 4) (fUn negD (fVal (.int 1))))]))
  (fSeq (fIfS (fOr (fNot (fTru (fFun [.d, .d] (g__law_as cl) [(fFun [.d] (g_common cl) [(fVar 6)]), (fFun [.d] (g__law_due cl) [(fVar 4)])]))) (fOr (fNot (fTru (fFun [.d, .d] (g__law_as cl) [(fFun [.d] (g_common cl) [(fUn revD (fVar 3))]), (fVar 5)]))) (fB (fBin neA (fVar 7) (fVar 5))))) (fRet (fVal (.bool false))) fNx)
  (fSeq (fFor (fIt selA (fTup [(fVal (.int 1)), (fBin addD (fVal (.int 1)) (fBin fdivD (fCall lenD [(fVar 3)]) (fVal (.int 2))))])) (gNm 8) (fIfS (fNot (fTru (fFun [.d, .d] (g__law_as cl) [(fFun [.d] (g_common cl) [(fSl (fVar 3) none (some (fVar 8)))]), (fFun [.d] (g__law_due cl) [(fSl (fVar 3) none (some (fVar 8)))])]))) (fRet (fVal (.bool false))) fNx))
  (fRet (fFun [.d, .d] (g__law_as cl) [(fFun [.d] (g_common cl) [(fVar 3)]), (fVar 5)]))))))))))))
noncomputable def g__law_right (cl : Str → Addr) : Fn := mkFn 9 (b__law_right cl)
theorem ok__law_right (h : Facts S mg) : Df S P w mg base 6 "_law_right" 2 (g__law_right S.cl) := by
  obtain ⟨f, fd, F, hm⟩ := h.f__law_right
  exact ⟨f, fd, ["_law_cell", "_law_k"], fn_def (k := 5) F sc__law_right (fun cdv A outer s H E B g => (pf_cons (pf_set 2 g (pv_fun (ok__law_begun h) g (pav_cons (pv_var 0) (pav_cons (pv_var 1) pav_nil))))
  (pf_cons (pf_asg (pv_fun (ok__law_nests h) g (pav_cons (pv_var 2) (pav_cons pv_int (pav_cons pv_int pav_nil)))) (pgv_name 3 g))
  (pf_cons (pf_asg (pv_bin op_addD opd_add g (pv_var 3) (pv_lst (pav_cons (pv_fun (ok__law_near h) g (pav_cons (pv_var 2) (pav_cons (pv_ix (ix_D g.room) opd_ix g (pv_var 3) pv_int (fun _ _ => rfl)) pav_nil))) pav_nil))) (pgv_name 4 g))
  (pf_cons (pf_asg (pv_fun (ok__law_due h) g (pav_cons (pv_var 3) pav_nil)) (pgv_name 5 g))
  (pf_cons (pf_set 6 g (pv_callT call_list_of cald_list g h.n_list (pav_cons (pv_var 3) pav_nil)))
  (pf_cons (pf_asg (pv_funT (ok_common h) g (pav_cons (pv_var 6) pav_nil)) (pgv_name 7 g))
  (pf_cons (pf_if (Pv.PBW.pb (Pv.pw_or (pb_not (pb_tru g (pv_fun (ok__law_as h) g (pav_cons (pv_var 7) (pav_cons (pv_var 5) pav_nil))))) (Pv.pw_or1 (pb_cmp (op_neA g.room) opd_neA g (pv_var 6) (pv_var 3) (by first | rfl | exact nomark _))))) (pf_one (pf_ret pv_bl)) pf_nil)
  (pf_cons (pf_do (pv_mth 6 true PySem.F.plainAttrs_list PySem.F.slot_list_append PySem.F.type_list_append mt_append chd_app g (pav_cons (pv_ix (ix_D g.room) opd_ix g (pv_var 4) (pv_un un_neg und_neg g pv_int) (fun _ _ => rfl)) pav_nil)))
  (pf_cons (pf_if (Pv.PBW.pb (Pv.pw_or (pb_not (pb_tru g (pv_fun (ok__law_as h) g (pav_cons (pv_fun (ok_common h) g (pav_cons (pv_var 6) pav_nil)) (pav_cons (pv_fun (ok__law_due h) g (pav_cons (pv_var 4) pav_nil)) pav_nil))))) (Pv.pw_or (pb_not (pb_tru g (pv_fun (ok__law_as h) g (pav_cons (pv_fun (ok_common h) g (pav_cons (pv_rev g (pv_var 3)) pav_nil)) (pav_cons (pv_var 5) pav_nil))))) (Pv.pw_or1 (pb_cmp (op_neA g.room) opd_neA g (pv_var 7) (pv_var 5) (by first | rfl | exact nomark _)))))) (pf_one (pf_ret pv_bl)) pf_nil)
  (pf_cons (pf_for g (pi_any g (pv_tup (pav_cons pv_int (pav_cons (pv_bin op_addD opd_add g pv_int (pv_bin op_fdivW opd_fdiv g (pv_callB call_lenD cald_len g h.n_len (pav_cons (pv_var 3) pav_nil)) pv_int)) pav_nil)))) (pgv_name 8 g) (pf_one (pf_if (pb_not (pb_tru g (pv_fun (ok__law_as h) g (pav_cons (pv_fun (ok_common h) g (pav_cons (pv_sl (fl := none) (fh := (some (fVar 8))) g (pv_var 3) trivial (pv_var 8)) pav_nil)) (pav_cons (pv_fun (ok__law_due h) g (pav_cons (pv_sl (fl := none) (fh := (some (fVar 8))) g (pv_var 3) trivial (pv_var 8)) pav_nil)) pav_nil))))) (pf_one (pf_ret pv_bl)) pf_nil)))
  (pf_one (pf_ret (pv_fun (ok__law_as h) g (pav_cons (pv_fun (ok_common h) g (pav_cons (pv_var 3) pav_nil)) (pav_cons (pv_var 5) pav_nil)))))))))))))))) (by decide), hm, F.kp, F.bindsN fun _ _ _ _ _ _ us hl => match us, hl with | [_, _], _ => rfl⟩
def m__law_right (cell : PyData) (k : PyData) : Y (PyData) := (bY (m__law_begun cell k) fun draw =>
  (bYn (m__law_nests draw (.int 12) (.int 7)) fun ⟨nests_here, draw1⟩ =>
  (bO (ixD nests_here (.int 0)) fun t =>
  (bYn (m__law_near draw1 t) fun ⟨r, draw2⟩ =>
  (bO (addD nests_here (.list [r])) fun more =>
  (bY (m__law_due nests_here) fun due_here =>
  (bOL (listD [nests_here]) fun handed =>
  (bY (m_common (.list handed)) fun answer => bG (tupD answer)
  (bY (bY (m__law_as answer due_here) fun r1 =>
  (bQ (truD r1) fun c1 =>
  (if (!c1) = true then
  (okY true) else
  (bO (neA (.list handed) nests_here) fun t1 =>
  (bB t1 fun c2 =>
  (okY c2)))))) fun c =>
  (if c = true then
  (okY (.bool false)) else
  (bO (ixD more (.int (-1))) fun t2 =>
  (bC ofL (chApp (.lst handed) [t2]) fun r2 handed1 =>
  (bY (bY (m_common (.list handed1)) fun r3 =>
  (bY (m__law_due more) fun r4 =>
  (bY (m__law_as r3 r4) fun r5 =>
  (bQ (truD r5) fun c4 =>
  (if (!c4) = true then
  (okY true) else
  (bO (revD nests_here) fun t3 =>
  (bY (m_common t3) fun r6 =>
  (bY (m__law_as r6 due_here) fun r7 =>
  (bQ (truD r7) fun c5 =>
  (if (!c5) = true then
  (okY true) else
  (bO (neA answer due_here) fun t4 =>
  (bB t4 fun c6 =>
  (okY c6))))))))))))) fun c3 =>
  (if c3 = true then
  (okY (.bool false)) else
  (bO (lenD [nests_here]) fun t5 =>
  (bO (fdivD t5 (.int 2)) fun t6 =>
  (bO (addD (.int 1) t6) fun t7 =>
  (bQ (selA (.tuple [(.int 1), t7])) fun xs =>
  (bY (forY (ρ := (PyData)) xs () fun many _ =>
  (bI many fun i =>
  (bO (slD nests_here none (some i)) fun t8 =>
  (bY (m_common t8) fun r8 =>
  (bI many fun i1 =>
  (bO (slD nests_here none (some i1)) fun t9 =>
  (bY (m__law_due t9) fun r9 =>
  (bY (m__law_as r8 r9) fun r10 =>
  (bQ (truD r10) fun c7 =>
  (if (!c7) = true then
  (okY (.rt (.bool false))) else
  (okY (.go ())))))))))))) fun w => match w with
  | .go _ =>
  (bY (m_common nests_here) fun r11 =>
  (bY (m__law_as r11 due_here) fun r12 =>
  (okY r12)))
  | .rt w => okY w)))))))))))))))))))
theorem jm__law_right (cl : Str → Addr) (cell : PyData) (k : PyData) : GR 2 (g__law_right cl [.d cell, .d k]) (m__law_right cell k) (fun a => RV.v a) (fun a => [.d cell, .d k]) := by
  unfold m__law_right
  exact gr_fn (b := b__law_right cl) (S0 := [.d cell, .d k, .j, .j, .j, .j, .j, .j, .j]) (envR_is rfl) (js_seq (js_set (jx_fun rfl (ja_cons (jx_d rfl (ja_cons (jx_d rfl (ja_nil ⟨[.d cell, .d k], [.d cell, .d k, .j, .j, .j, .j, .j, .j, .j], rfl, _, _, _, _, _, (jm__law_begun cl cell k), rfl, fun draw => ⟨_, [.d cell, .d k, .m true (.lst draw), .j, .j, .j, .j, .j, .j], rfl, rfl, rfl, (js_seq (js_asg (jx_funM (ja_cons (jx_m rfl (ja_cons (jx_val (ja_cons (jx_val (ja_nil ⟨[.m false (.lst draw), .d (.int 12), .d (.int 7)], [.d cell, .d k, .m true (.lst draw), .j, .j, .j, .j, .j, .j], rfl, _, _, _, _, _, (jm__law_nests cl draw (.int 12) (.int 7)), rfl, fun ⟨nests_here, draw1⟩ => ⟨[.d cell, .d k, .m true (.lst draw1), .j, .j, .j, .j, .j, .j], rfl, ⟨nests_here, [.d cell, .d k, .m true (.lst draw1), .j, .j, .j, .j, .j, .j], rfl, (jg_nm [.d cell, .d k, .m true (.lst draw1), .d nests_here, .j, .j, .j, .j, .j] rfl rfl rfl (js_seq (js_asg (jx_bin rfD (jx_d rfl (jx_lst (ja_cons (jx_funM (ja_cons (jx_m rfl (ja_cons (jx_bin rfD (jx_d rfl (jx_val ⟨_, _, rfl, rfl, _, rfl, fun t => (ja_nil ⟨[.m false (.lst draw1), .d t], [.d cell, .d k, .m true (.lst draw1), .d nests_here, .j, .j, .j, .j, .j], rfl, _, _, _, _, _, (jm__law_near cl draw1 t), rfl, fun ⟨r, draw2⟩ => ⟨[.d cell, .d k, .m true (.lst draw2), .d nests_here, .j, .j, .j, .j, .j], rfl, (ja_nil ⟨[r], [.d cell, .d k, .m true (.lst draw2), .d nests_here, .j, .j, .j, .j, .j], rfl, rfl, ⟨_, _, rfl, rfl, _, rfl, fun more => ⟨more, [.d cell, .d k, .m true (.lst draw2), .d nests_here, .j, .j, .j, .j, .j], rfl, (jg_nm [.d cell, .d k, .m true (.lst draw2), .d nests_here, .d more, .j, .j, .j, .j] rfl rfl rfl (js_seq (js_asg (jx_fun rfl (ja_cons (jx_d rfl (ja_nil ⟨[.d nests_here], [.d cell, .d k, .m true (.lst draw2), .d nests_here, .d more, .j, .j, .j, .j], rfl, _, _, _, _, _, (jm__law_due cl nests_here), rfl, fun due_here => ⟨due_here, [.d cell, .d k, .m true (.lst draw2), .d nests_here, .d more, .j, .j, .j, .j], rfl, (jg_nm [.d cell, .d k, .m true (.lst draw2), .d nests_here, .d more, .d due_here, .j, .j, .j] rfl rfl rfl (js_seq (js_set (jx_call rfL (ja_cons (jx_d rfl (ja_nil ⟨_, rfl, _, rfl, fun handed => ⟨_, [.d cell, .d k, .m true (.lst draw2), .d nests_here, .d more, .d due_here, .m true (.lst handed), .j, .j], rfl, rfl, rfl, (js_seq (js_asg (jx_funT (ja_cons (jx_m rfl (ja_nil ⟨[(.list handed)], rfl, rfl, _, _, _, (jm_common cl (.list handed)), rfl, fun answer => ⟨answer, [.d cell, .d k, .m true (.lst draw2), .d nests_here, .d more, .d due_here, .m true (.lst handed), .j, .j], rfl, (jg_nm [.d cell, .d k, .m true (.lst draw2), .d nests_here, .d more, .d due_here, .m true (.lst handed), .d answer, .j] rfl rfl rfl (js_seq (js_if (jt_cut (fun s => s) (fun s => [.d cell, .d k, .m true (.lst draw2), .d nests_here, .d more, .d due_here, .m true (.lst handed), .d answer, .j]) (jt_or (jt_not (jt_tru (jx_fun rfl (ja_cons (jx_d rfl (ja_cons (jx_d rfl (ja_nil ⟨[.d answer, .d due_here], [.d cell, .d k, .m true (.lst draw2), .d nests_here, .d more, .d due_here, .m true (.lst handed), .d answer, .j], rfl, _, _, _, _, _, (jm__law_as cl answer due_here), rfl, fun r1 => ⟨_, _, rfl, rfl, fun c1 => ⟨_, _, rfl, ⟨_, rfl, rfl, (wkr _)⟩, (jt_b (jx_bin rfD (jx_m rfl (jx_d rfl ⟨_, _, rfl, rfl, _, rfl, fun t1 => ⟨_, _, rfl, rfl, fun c2 => ⟨_, rfl, rfl, (wkr _)⟩⟩⟩))))⟩⟩, fun _ => ⟨rfl, ⟨rfl, rfl⟩⟩⟩))))))))) (fun c => ⟨_, _, rfl, (js_ret (jx_val ⟨_, _, rfl, rfl, rl, rfl⟩)), (js_nx (js_seq (js_do (jx_mth ofL rfl rfl (ja_cons (jx_bin rfD (jx_d rfl (jx_neg ⟨_, _, rfl, rfl, _, rfl, fun t2 => (ja_nil ⟨[t2], [.d cell, .d k, .m true (.lst draw2), .d nests_here, .d more, .d due_here, .m true (.lst handed), .d answer, .j], _, _, _, rfl, rfl, rfl, fun r2 handed1 => ⟨[.d cell, .d k, .m true (.lst draw2), .d nests_here, .d more, .d due_here, .m true (.lst handed1), .d answer, .j], rfl, (js_seq (js_if (jt_cut (fun s => s) (fun s => [.d cell, .d k, .m true (.lst draw2), .d nests_here, .d more, .d due_here, .q, .d answer, .j]) (jt_or (jt_not (jt_tru (jx_fun rfl (ja_cons (jx_fun rfl (ja_cons (jx_m rfl (ja_nil ⟨[.d (.list handed1)], [.d cell, .d k, .m true (.lst draw2), .d nests_here, .d more, .d due_here, .d (.list handed1), .d answer, .j], rfl, _, _, _, _, _, (jm_common cl (.list handed1)), rfl, fun r3 => (ja_cons (jx_fun rfl (ja_cons (jx_d rfl (ja_nil ⟨[.d more], [.d cell, .d k, .m true (.lst draw2), .d nests_here, .d more, .d due_here, .d (.list handed1), .d answer, .j], rfl, _, _, _, _, _, (jm__law_due cl more), rfl, fun r4 => (ja_nil ⟨[.d r3, .d r4], [.d cell, .d k, .m true (.lst draw2), .d nests_here, .d more, .d due_here, .d (.list handed1), .d answer, .j], rfl, _, _, _, _, _, (jm__law_as cl r3 r4), rfl, fun r5 => ⟨_, _, rfl, rfl, fun c4 => ⟨_, _, rfl, ⟨_, rfl, rfl, (wkc (wk_refl _) (wkc (wk_refl _) (wkc (wk_refl _) (wkc (wk_refl _) (wkc (wk_refl _) (wkc (wk_refl _) (wkc trivial (wkc (wk_refl _) (wkc trivial wkn)))))))))⟩, (jt_or (jt_not (jt_tru (jx_fun rfl (ja_cons (jx_fun rfl (ja_cons (jx_un rfD (jx_d rfl ⟨_, rfl, _, rfl, fun t3 => (ja_nil ⟨[.d t3], [.d cell, .d k, .m true (.lst draw2), .d nests_here, .d more, .d due_here, .d (.list handed1), .d answer, .j], rfl, _, _, _, _, _, (jm_common cl t3), rfl, fun r6 => (ja_cons (jx_d rfl (ja_nil ⟨[.d r6, .d due_here], [.d cell, .d k, .m true (.lst draw2), .d nests_here, .d more, .d due_here, .d (.list handed1), .d answer, .j], rfl, _, _, _, _, _, (jm__law_as cl r6 due_here), rfl, fun r7 => ⟨_, _, rfl, rfl, fun c5 => ⟨_, _, rfl, ⟨_, rfl, rfl, (wkc (wk_refl _) (wkc (wk_refl _) (wkc (wk_refl _) (wkc (wk_refl _) (wkc (wk_refl _) (wkc (wk_refl _) (wkc trivial (wkc (wk_refl _) (wkc trivial wkn)))))))))⟩, (jt_b (jx_bin rfD (jx_d rfl (jx_d rfl ⟨_, _, rfl, rfl, _, rfl, fun t4 => ⟨_, _, rfl, rfl, fun c6 => ⟨_, rfl, rfl, (wkc (wk_refl _) (wkc (wk_refl _) (wkc (wk_refl _) (wkc (wk_refl _) (wkc (wk_refl _) (wkc (wk_refl _) (wkc trivial (wkc (wk_refl _) (wkc trivial wkn)))))))))⟩⟩⟩))))⟩⟩, fun _ => ⟨rfl, ⟨rfl, rfl⟩⟩⟩))), fun _ => ⟨rfl, ⟨rfl, rfl⟩⟩⟩)⟩)))))))))⟩⟩, fun _ => ⟨rfl, ⟨rfl, rfl⟩⟩⟩), fun _ => ⟨rfl, ⟨rfl, rfl⟩⟩⟩))))), fun _ => ⟨rfl, ⟨rfl, rfl⟩⟩⟩))))))))) (fun c3 => ⟨_, _, rfl, (js_ret (jx_val ⟨_, _, rfl, rfl, rl, rfl⟩)), (js_nx (js_seq (js_forY (fun s => [.d cell, .d k, .m true (.lst draw2), .d nests_here, .d more, .d due_here, .q, .d answer, .j]) (ji_it (jx_tup (ja_cons (jx_val (ja_cons (jx_bin rfD (jx_val (jx_bin rfD (jx_call rfD (ja_cons (jx_d rfl (ja_nil ⟨_, rfl, _, rfl, fun t5 => (jx_val ⟨_, _, rfl, rfl, _, rfl, fun t6 => ⟨_, _, rfl, rfl, _, rfl, fun t7 => (ja_nil ⟨[(.int 1), t7], [.d cell, .d k, .m true (.lst draw2), .d nests_here, .d more, .d due_here, .q, .d answer, .j], rfl, rfl, ⟨(.tuple [(.int 1), t7]), [.d cell, .d k, .m true (.lst draw2), .d nests_here, .d more, .d due_here, .q, .d answer, .j], _, rfl, rfl, fun xs => ⟨(), _, _, rfl, (wkr _), fun many _ => (jg_nm [.d cell, .d k, .m true (.lst draw2), .d nests_here, .d more, .d due_here, .q, .d answer, .d many] rfl rfl rfl (js_if (jt_not (jt_tru (jx_fun rfl (ja_cons (jx_fun rfl (ja_cons (jx_sl rfD (jx_d rfl (jp_none (jp_some (jx_d rfl ⟨_, _, rfl, rfl, fun i => ⟨_, rfl, _, rfl, fun t8 => (ja_nil ⟨[.d t8], [.d cell, .d k, .m true (.lst draw2), .d nests_here, .d more, .d due_here, .q, .d answer, .d many], rfl, _, _, _, _, _, (jm_common cl t8), rfl, fun r8 => (ja_cons (jx_fun rfl (ja_cons (jx_sl rfD (jx_d rfl (jp_none (jp_some (jx_d rfl ⟨_, _, rfl, rfl, fun i1 => ⟨_, rfl, _, rfl, fun t9 => (ja_nil ⟨[.d t9], [.d cell, .d k, .m true (.lst draw2), .d nests_here, .d more, .d due_here, .q, .d answer, .d many], rfl, _, _, _, _, _, (jm__law_due cl t9), rfl, fun r9 => (ja_nil ⟨[.d r8, .d r9], [.d cell, .d k, .m true (.lst draw2), .d nests_here, .d more, .d due_here, .q, .d answer, .d many], rfl, _, _, _, _, _, (jm__law_as cl r8 r9), rfl, fun r10 => ⟨_, _, rfl, rfl, fun c7 => ⟨_, _, rfl, (js_ret (jx_val ⟨_, rfl, ⟨_, _, rfl, rfl, rl, rfl⟩⟩)), (js_nx ⟨_, rfl, (wkc (wk_refl _) (wkc (wk_refl _) (wkc (wk_refl _) (wkc (wk_refl _) (wkc (wk_refl _) (wkc (wk_refl _) (wkc trivial (wkc (wk_refl _) (wkc trivial wkn)))))))))⟩)⟩⟩, fun _ => ⟨rfl, ⟨rfl, rfl⟩⟩⟩), fun _ => ⟨rfl, ⟨rfl, rfl⟩⟩⟩)⟩⟩)))))))), fun _ => ⟨rfl, ⟨rfl, rfl⟩⟩⟩)⟩⟩))))))))))))), fun _ => (js_ret (jx_fun rfl (ja_cons (jx_fun rfl (ja_cons (jx_d rfl (ja_nil ⟨[.d nests_here], [.d cell, .d k, .m true (.lst draw2), .d nests_here, .d more, .d due_here, .q, .d answer, .j], rfl, _, _, _, _, _, (jm_common cl nests_here), rfl, fun r11 => (ja_cons (jx_d rfl (ja_nil ⟨[.d r11, .d due_here], [.d cell, .d k, .m true (.lst draw2), .d nests_here, .d more, .d due_here, .q, .d answer, .j], rfl, _, _, _, _, _, (jm__law_as cl r11 due_here), rfl, fun r12 => ⟨_, _, rfl, rfl, rl, rfl⟩, fun _ => ⟨rfl, rfl⟩⟩))), fun _ => ⟨rfl, rfl⟩⟩)))))))⟩⟩⟩)⟩⟩)⟩)))))))))))))))⟩))))⟩⟩)⟩))))))))⟩)))))⟩, fun _ => ⟨rfl, rfl⟩⟩))))))⟩⟩)))))))⟩, fun _ => ⟨rfl, rfl⟩⟩)))))))⟩⟩⟩)⟩⟩)⟩))))))))))))))⟩⟩⟩))))))))))⟩, fun _ => ⟨rfl, rfl⟩⟩))))))))
/-! ### law -/
noncomputable def b_law (cl : Str → Addr) : MS := (fSeq (fFor (fItA enA [(fSl (fBin addSc (fVar 0) (fLst [(fVal (.int 5))])) none (some (fCall maxD1 [(fVal (.int 1)), (fCall minD1 [(fVal (.int 10)), (fCall lenD [(fVar 0)])])])))]) (gTu [(gNm 1), (gNm 2)]) (fIfS (fNot (fTru (fFun [.d, .d] (g__law_right cl) [(fVar 2), (fVar 1)]))) (fRet (fVal (.bool false))) fNx))
  (fRet (fVal (.bool true))))
noncomputable def g_law (cl : Str → Addr) : Fn := mkFn 3 (b_law cl)
theorem ok_law (h : Facts S mg) {f : Addr} {fd : FuncData} (F : FnP S.K "law" s_law f fd) : FnG P w S.K mg base (L2.CX P w) 7 f fd ["_law_script"] (spF S 1 (g_law S.cl)) := fn_defG (k := 6) F sc_law (fun cdv A outer s H E B hgd g => (pf_cons (pf_for g (pi_en g h.n_enumerate (pav_cons (pv_sl (fl := none) (fh := (some (fCall maxD1 [(fVal (.int 1)), (fCall minD1 [(fVal (.int 10)), (fCall lenD [(fVar 0)])])]))) g (pv_bin op_addSc opd_addSc g (pv_var 0) (pv_lst (pav_cons pv_int pav_nil))) trivial (pv_callB (call_maxD g.calm) cald_max g h.n_max (pav_cons pv_int (pav_cons (pv_callB (call_minD g.calm) cald_min g h.n_min (pav_cons pv_int (pav_cons (pv_callB call_lenD cald_len g h.n_len (pav_cons (pv_var 0) pav_nil)) pav_nil))) pav_nil)))) pav_nil)) (pgv_tup g (pgsv_cons (pgv_name 1 g) (pgsv_cons (pgv_name 2 g) pgsv_nil))) (pf_one (pf_if (pb_not (pb_tru g (pv_fun (ok__law_right h) g (pav_cons (pv_var 2) (pav_cons (pv_var 1) pav_nil))))) (pf_one (pf_ret pv_bl)) pf_nil)))
  (pf_one (pf_ret pv_bl)))) (by decide)
def m_law (script : PyData) : Y (PyData) := (bO (addSc script (.list [(.int 5)])) fun t =>
  (bO (lenD [script]) fun t1 =>
  (bO (minD1 [(.int 10), t1]) fun t2 =>
  (bO (maxD1 [(.int 1), t2]) fun t3 =>
  (bI t3 fun i =>
  (bO (slD t none (some i)) fun t4 =>
  (bQ (enA [t4]) fun xs =>
  (bY (forY (ρ := (PyData)) xs () fun p _ =>
  (at2 (unT p) fun k cell =>
  (bY (m__law_right cell k) fun r =>
  (bQ (truD r) fun c =>
  (if (!c) = true then
  (okY (.rt (.bool false))) else
  (okY (.go ()))))))) fun w => match w with
  | .go _ =>
  (okY (.bool true))
  | .rt w => okY w))))))))
theorem jm_law (cl : Str → Addr) (script : PyData) : GR 1 (g_law cl [.d script]) (m_law script) (fun a => RV.v a) (fun a => [.d script]) := by
  unfold m_law
  exact gr_fn (b := b_law cl) (S0 := [.d script, .j, .j]) (envR_is rfl) (js_seq (js_forY (fun s => [.d script, .j, .j]) (ji_itA (ja_cons (jx_sl rfD (jx_bin rfD (jx_d rfl (jx_lst (ja_cons (jx_val (ja_nil ⟨[(.int 5)], [.d script, .j, .j], rfl, rfl, ⟨_, _, rfl, rfl, _, rfl, fun t => (jp_none (jp_some (jx_call rfD (ja_cons (jx_val (ja_cons (jx_call rfD (ja_cons (jx_val (ja_cons (jx_call rfD (ja_cons (jx_d rfl (ja_nil ⟨_, rfl, _, rfl, fun t1 => (ja_nil ⟨_, rfl, _, rfl, fun t2 => (ja_nil ⟨_, rfl, _, rfl, fun t3 => ⟨_, _, rfl, rfl, fun i => ⟨_, rfl, _, rfl, fun t4 => (ja_nil ⟨[t4], [.d script, .j, .j], _, rfl, rfl, fun xs => ⟨(), _, _, rfl, (wkr _), fun p _ => (jg_tu2 fun k cell => (jg_nm [.d script, .d k, .j] rfl rfl rfl (jg_nm [.d script, .d k, .d cell] rfl rfl rfl (js_if (jt_not (jt_tru (jx_fun rfl (ja_cons (jx_d rfl (ja_cons (jx_d rfl (ja_nil ⟨[.d cell, .d k], [.d script, .d k, .d cell], rfl, _, _, _, _, _, (jm__law_right cl cell k), rfl, fun r => ⟨_, _, rfl, rfl, fun c => ⟨_, _, rfl, (js_ret (jx_val ⟨_, rfl, ⟨_, _, rfl, rfl, rl, rfl⟩⟩)), (js_nx ⟨_, rfl, (wkc (wk_refl _) (wkc trivial (wkc trivial wkn)))⟩)⟩⟩, fun _ => ⟨rfl, ⟨rfl, rfl⟩⟩⟩)))))))))))), fun _ => (js_ret (jx_val ⟨_, _, rfl, rfl, rl, rfl⟩))⟩⟩)⟩⟩⟩)⟩)⟩))))))))))))))⟩⟩)))))))))))
end
end Law
namespace Law
open PySem PySem.Spec PyProof.Rows L2 PySem.W Pv
def d__law_begun : He.DefD := ⟨("_law_begun", none), "_law_begun", "_law_begun", defArgs s__law_begun, defBody s__law_begun, defScope s__law_begun, [], []⟩
def d__law_next : He.DefD := ⟨("_law_next", none), "_law_next", "_law_next", defArgs s__law_next, defBody s__law_next, defScope s__law_next, [], []⟩
def d__law_names : He.DefD := ⟨("_law_names", none), "_law_names", "_law_names", defArgs s__law_names, defBody s__law_names, defScope s__law_names, [], []⟩
def d__law_joined_heaps : He.DefD := ⟨("_law_joined_heaps", none), "_law_joined_heaps", "_law_joined_heaps", defArgs s__law_joined_heaps, defBody s__law_joined_heaps, defScope s__law_joined_heaps, [], []⟩
def d__law_nest : He.DefD := ⟨("_law_nest", none), "_law_nest", "_law_nest", defArgs s__law_nest, defBody s__law_nest, defScope s__law_nest, [], []⟩
def d__law_cross : He.DefD := ⟨("_law_cross", none), "_law_cross", "_law_cross", defArgs s__law_cross, defBody s__law_cross, defScope s__law_cross, [], []⟩
def d__law_fits : He.DefD := ⟨("_law_fits", none), "_law_fits", "_law_fits", defArgs s__law_fits, defBody s__law_fits, defScope s__law_fits, [], []⟩
def d__law_near : He.DefD := ⟨("_law_near", none), "_law_near", "_law_near", defArgs s__law_near, defBody s__law_near, defScope s__law_near, [], []⟩
def d__law_nests : He.DefD := ⟨("_law_nests", none), "_law_nests", "_law_nests", defArgs s__law_nests, defBody s__law_nests, defScope s__law_nests, [], []⟩
def d__law_due : He.DefD := ⟨("_law_due", none), "_law_due", "_law_due", defArgs s__law_due, defBody s__law_due, defScope s__law_due, [], []⟩
def d_is_name : He.DefD := ⟨("is_name", none), "is_name", "is_name", defArgs s_is_name, defBody s_is_name, defScope s_is_name, [], []⟩
def d_do_rise : He.DefD := ⟨("do_rise", none), "do_rise", "do_rise", defArgs s_do_rise, defBody s_do_rise, defScope s_do_rise, [], []⟩
def d_is_heap : He.DefD := ⟨("is_heap", none), "is_heap", "is_heap", defArgs s_is_heap, defBody s_is_heap, defScope s_is_heap, [], []⟩
def d_do_cross : He.DefD := ⟨("do_cross", none), "do_cross", "do_cross", defArgs s_do_cross, defBody s_do_cross, defScope s_do_cross, [], []⟩
def d_first_crossing : He.DefD := ⟨("first_crossing", none), "first_crossing", "first_crossing", defArgs s_first_crossing, defBody s_first_crossing, defScope s_first_crossing, [], []⟩
def d_is_nest : He.DefD := ⟨("is_nest", none), "is_nest", "is_nest", defArgs s_is_nest, defBody s_is_nest, defScope s_is_nest, [], []⟩
def d_top_of : He.DefD := ⟨("top_of", none), "top_of", "top_of", defArgs s_top_of, defBody s_top_of, defScope s_top_of, [], []⟩
def d_need_nests : He.DefD := ⟨("need_nests", none), "need_nests", "need_nests", defArgs s_need_nests, defBody s_need_nests, defScope s_need_nests, [], []⟩
def d_common : He.DefD := ⟨("common", none), "common", "common", defArgs s_common, defBody s_common, defScope s_common, [], []⟩
def d__law_as : He.DefD := ⟨("_law_as", none), "_law_as", "_law_as", defArgs s__law_as, defBody s__law_as, defScope s__law_as, [], []⟩
def d__law_right : He.DefD := ⟨("_law_right", none), "_law_right", "_law_right", defArgs s__law_right, defBody s__law_right, defScope s__law_right, [], []⟩
def d_law : He.DefD := ⟨("law", none), "law", "law", defArgs s_law, defBody s_law, defScope s_law, [], []⟩
def fn0 : List He.DefD := [d__law_begun, d__law_next, d__law_names, d__law_joined_heaps, d__law_nest, d__law_cross, d__law_fits, d__law_near, d__law_nests, d__law_due, d_is_name, d_do_rise, d_is_heap, d_do_cross, d_first_crossing, d_is_nest, d_top_of, d_need_nests, d_common, d__law_as, d__law_right, d_law]
def fn : List He.DefD := fn0
def fa0 : List He.Fa := [.glo "_law_begun", .glo "_law_next", .glo "_law_names", .glo "_law_joined_heaps", .glo "_law_nest", .glo "_law_cross", .glo "_law_fits", .glo "_law_near", .glo "_law_nests", .glo "_law_due", .glo "is_name", .glo "do_rise", .glo "is_heap", .glo "do_cross", .glo "first_crossing", .glo "is_nest", .glo "top_of", .glo "need_nests", .glo "common", .glo "_law_as", .glo "_law_right", .glo "law", .glo "NoName", .glo "NoNest", .free "all", .free "any", .free "dict", .free "enumerate", .free "isinstance", .free "len"]
def fa1 : List He.Fa := [.free "list", .free "max", .free "min", .free "range", .free "sorted", .free "str", .free "tuple", .str "LETTERS" "abcdefghijklmnopqrstuvwxyz", .int "MOST_LETTERS" 6, .int "MOST_NAMES" 12, .exc "NoName", .exc "NoNest"]
def fa : List He.Fa := fa0 ++ fa1
def lo0 : List Str := ["HeapError", "NoName", "NoNest", "LETTERS", "MOST_LETTERS", "MOST_NAMES", "is_name", "do_rise", "is_heap", "do_cross", "first_crossing", "is_nest", "top_of", "need_nests", "common", "_law_begun", "_law_next", "_law_names", "_law_joined_heaps", "_law_nest", "_law_cross", "_law_fits", "_law_near", "_law_nests", "_law_due", "_law_as", "_law_right"]
def loose : List Str := lo0
abbrev R : PySem.W.OpenRow := PySem.W.OpenLaw.row PySem.Challenge.rw_heapwise_k76_common
abbrev hk : PySem.W.Hook := He.hookD 4 fa fn
def ob (s : PySem.W.SharedT) : He.AlD := He.obsDG 4 fa fn (HandSHeadRun.getT s)
theorem ob_eq (s : PySem.W.SharedT) : ob s = hk.obs s.abs := He.obsDG_eq (HandSHeadRun.getT_eq s)
theorem run (w : World) : HandSHeadRun.RunEq R (PySem.W.view R.prog [32]) hk ob 6000 loose w := by
  intro os
  kernel_rfl
theorem facts {K : PySem.W.Frag} {h : Heap} {mg : Str → Option Value} (X : K.In h) (G : h.Ns mainGlobals mg) (c : He.SaysD fa fn K) : Facts (sxK K) mg := by
  have F : ∀ (i j : Nat) (x : Str) (st : Stmt), fn[i]? = some ⟨(x, none), x, x, defArgs st, defBody st, defScope st, [], []⟩ → fa[j]? = some (.glo x) → Fx K mg x st := fun i j x st h1 h2 => by
    obtain ⟨fd, F⟩ := c.def_ i h1
    exact ⟨_, fd, F, He.glo_ok X G (c.fact j h2)⟩
  exact {
    f__law_begun := F 0 0 _ _ rfl rfl
    f__law_next := F 1 1 _ _ rfl rfl
    f__law_names := F 2 2 _ _ rfl rfl
    f__law_joined_heaps := F 3 3 _ _ rfl rfl
    f__law_nest := F 4 4 _ _ rfl rfl
    f__law_cross := F 5 5 _ _ rfl rfl
    f__law_fits := F 6 6 _ _ rfl rfl
    f__law_near := F 7 7 _ _ rfl rfl
    f__law_nests := F 8 8 _ _ rfl rfl
    f__law_due := F 9 9 _ _ rfl rfl
    f_is_name := F 10 10 _ _ rfl rfl
    f_do_rise := F 11 11 _ _ rfl rfl
    f_is_heap := F 12 12 _ _ rfl rfl
    f_do_cross := F 13 13 _ _ rfl rfl
    f_first_crossing := F 14 14 _ _ rfl rfl
    f_is_nest := F 15 15 _ _ rfl rfl
    f_top_of := F 16 16 _ _ rfl rfl
    f_need_nests := F 17 17 _ _ rfl rfl
    f_common := F 18 18 _ _ rfl rfl
    f__law_as := F 19 19 _ _ rfl rfl
    f__law_right := F 20 20 _ _ rfl rfl
    f_law := F 21 21 _ _ rfl rfl
    n_all := He.free_ok X G (c.fact 24 (f := .free "all") rfl)
    n_any := He.free_ok X G (c.fact 25 (f := .free "any") rfl)
    n_dict := He.free_ok X G (c.fact 26 (f := .free "dict") rfl)
    n_enumerate := He.free_ok X G (c.fact 27 (f := .free "enumerate") rfl)
    n_isinstance := He.free_ok X G (c.fact 28 (f := .free "isinstance") rfl)
    n_len := He.free_ok X G (c.fact 29 (f := .free "len") rfl)
    n_list := He.free_ok X G (c.fact 30 (f := .free "list") rfl)
    n_max := He.free_ok X G (c.fact 31 (f := .free "max") rfl)
    n_min := He.free_ok X G (c.fact 32 (f := .free "min") rfl)
    n_range := He.free_ok X G (c.fact 33 (f := .free "range") rfl)
    n_sorted := He.free_ok X G (c.fact 34 (f := .free "sorted") rfl)
    n_str := He.free_ok X G (c.fact 35 (f := .free "str") rfl)
    n_tuple := He.free_ok X G (c.fact 36 (f := .free "tuple") rfl)
    m_LETTERS := He.str_ok X G (c.fact 37 (f := .str "LETTERS" "abcdefghijklmnopqrstuvwxyz") rfl)
    m_MOST_LETTERS := He.int_ok X G (c.fact 38 (f := .int "MOST_LETTERS" 6) rfl)
    m_MOST_NAMES := He.int_ok X G (c.fact 39 (f := .int "MOST_NAMES" 12) rfl)
    e_NoName := let z := He.exc_ok (c.fact 40 (f := .exc "NoName") rfl); ⟨z.1, He.glo_ok X G (c.fact 22 (f := .glo "NoName") rfl), z.2.1, z.2.2.1, z.2.2.2⟩
    e_NoNest := let z := He.exc_ok (c.fact 41 (f := .exc "NoNest") rfl); ⟨z.1, He.glo_ok X G (c.fact 23 (f := .glo "NoNest") rfl), z.2.1, z.2.2.1, z.2.2.2⟩
  }
end Law
open PySem PySem.W PySem.Calls PyProof.Rows in
theorem Law.holds_of (hm : ∀ ns : List Int, ns.length ≤ 63 → (∀ k ∈ ns, Builtin.Int.intBits k ≤ 1048576) → Law.m_law (Pv.scrD ns) = Mr.okY (.bool true)) : PySem.Challenge.rw_heapwise_k76_common.Holds := by
  have hg : ∀ (cl : Str → Addr) (ns : List Int), ns.length ≤ 63 → (∀ k ∈ ns, Builtin.Int.intBits k ≤ 1048576) → ∃ out, Law.g_law cl [.d (Pv.scrD ns)] = some (.rt (.val (.bool true)) out) := fun cl ns h1 h2 => Mr.gr_true (Law.jm_law cl (Pv.scrD ns)) (hm ns h1 h2)
  w_on; o_law
  refine HandSHeadRun.head_any (r := OpenLaw.row PySem.Challenge.rw_heapwise_k76_common) (q := view (OpenLaw.row PySem.Challenge.rw_heapwise_k76_common).prog [32]) (H := Law.hk) (ob := Law.ob) (M := 6000) (loose := Law.loose) (d := HandSHeadRun.topDef (OpenLaw.row PySem.Challenge.rw_heapwise_k76_common).prog 32) (kwd := []) Law.ob_eq
    (by kernel_rfl) (fun s => by kernel_rfl) Law.run (by kernel_rfl) (by kernel_rfl) (by kernel_rfl) (by rfl) (by first | assumption | decide +kernel) (by decide +kernel) ⟨rfl, rfl, rfl, rfl, rfl, by decide +kernel⟩ ?hw ?hc
  case hw => w_witness2
  case hc =>
    refine Pv.law_hc (l := PySem.Challenge.rw_heapwise_k76_common) (n := 63) (k := 7) (x := "_law_script") (g := Law.g_law) rfl (by decide) (by kernel_rfl) ⟨rfl, by decide, by decide⟩ ?F hg
    intro w mg fa h Y G hmg0
    obtain ⟨K, KX, c⟩ := Y
    have hmg : mg ("law" : PySem.Str) = some (.ref fa) := by
      have e : (HandSHeadRun.topDef (OpenLaw.row PySem.Challenge.rw_heapwise_k76_common).prog 32).name = ("law" : PySem.Str) := by kernel_rfl
      rw [← e]
      exact hmg0
    have hf := Law.facts KX G c
    obtain ⟨fd, F⟩ := Law.pickA (K := K) hf.f_law hmg
    have b := L2.FunD.bindsA (ps := ["_law_script"]) F fun _ _ _ _ _ _ us hl => match us, hl with | [_], _ => rfl
    exact ⟨K, fd, KX, fun s v => b s [v] rfl, fun base _ _ => Law.ok_law (S := Pv.sxK K) hf F⟩
/-! Mirrors, evaluated: the base. -/
namespace Mr
open PySem PySem.Spec PyProof.Rows L2 PySem.W Pv
section
variable {α β γ σ ρ : Type}
@[simp] theorem bY_ok (a : α) (k : α → Y β) : bY (okY a) k = k a := (rfl)
@[simp] theorem bY_ex (c : Str) (k : α → Y β) : bY (exY c) k = exY c := (rfl)
@[simp] theorem bYn_ok (a : α) (k : α → Y β) : bYn (okY a) k = k a := (rfl)
@[simp] theorem bQ_ok (a : α) (k : α → Y β) : bQ (some a) k = k a := (rfl)
@[simp] theorem bO_val (d : PyData) (k : PyData → Y β) : bR rfD (some (.val d)) k = k d := (rfl)
@[simp] theorem bO_own (o : Ob) (k : PyData → Y β) : bR rfD (some (.own o)) k = k o.d := (rfl)
@[simp] theorem bOL_own (xs : List PyData) (k : List PyData → Y β) : bR rfL (some (.own (.lst xs))) k = k xs := (rfl)
@[simp] theorem bOK_own (t : Bool) (kvs : List (PyData × PyData)) (k : List (PyData × PyData) → Y β) : bR (rfK t) (some (.own (.dct t kvs))) k = k kvs := by
  show bQ (if t = t then some kvs else none) k = k kvs
  rw [if_pos rfl]
  rfl
@[simp] theorem bB_bool (c : Bool) (k : Bool → Y β) : bB (.bool c) k = k c := (rfl)
@[simp] theorem bI_int (i : Int) (k : Int → Y β) : bI (.int i) k = k i := (rfl)
@[simp] theorem bG_true (m : Y β) : bG true m = m := (rfl)
@[simp] theorem bCL (d : PyData) (xs : List PyData) (k : PyData → List PyData → Y β) : bC ofL (some (d, .lst xs)) k = k d xs := (rfl)
@[simp] theorem bCK (t : Bool) (d : PyData) (xs : List (PyData × PyData)) (k : PyData → List (PyData × PyData) → Y β) : bC (ofK t) (some (d, .dct t xs)) k = k d xs := by
  show bQ (if t = t then some xs else none) (k d) = k d xs
  rw [if_pos rfl]
  rfl
@[simp] theorem bPL (xs : List PyData) (k : List PyData → Y β) : bP ofL (some (.lst xs)) k = k xs := (rfl)
@[simp] theorem bPK (t : Bool) (xs : List (PyData × PyData)) (k : List (PyData × PyData) → Y β) : bP (ofK t) (some (.dct t xs)) k = k xs := by
  show bQ (if t = t then some xs else none) k = k xs
  rw [if_pos rfl]
  rfl
@[simp] theorem unT_tuple (ds : List PyData) : unT (.tuple ds) = some ds := (rfl)
@[simp] theorem unT_raw (ds : List PyData) : unT (.dict [(.none, .list ds)]) = some ds := (rfl)
@[simp] theorem unT_pair (x y : PyData) : unT (pairD x y) = some [x, y] := (rfl)
@[simp] theorem unL_list (ds : List PyData) : unL (.list ds) = some ds := (rfl)
@[simp] theorem at2_ok (a b : PyData) (k : PyData → PyData → Y β) : at2 (some [a, b]) k = k a b := (rfl)
@[simp] theorem at3_ok (a b c : PyData) (k : PyData → PyData → PyData → Y β) : at3 (some [a, b, c]) k = k a b c := (rfl)
@[simp] theorem at4_ok (a b c d : PyData) (k : PyData → PyData → PyData → PyData → Y β) : at4 (some [a, b, c, d]) k = k a b c d := (rfl)
@[simp] theorem forS_nil (s : σ) (f : α → σ → Y σ) : forS [] s f = okY s := (rfl)
theorem forS_cons (x : α) (xs : List α) (s : σ) (f : α → σ → Y σ) : forS (x :: xs) s f = bY (f x s) fun s => forS xs s f := rfl
@[simp] theorem forY_nil (s : σ) (f : α → σ → Y (Lp ρ σ)) : forY [] s f = okY (.go s) := (rfl)
theorem forY_cons (x : α) (xs : List α) (s : σ) (f : α → σ → Y (Lp ρ σ)) : forY (x :: xs) s f = bY (f x s) fun l => match l with
    | .go s => forY xs s f
    | .bk s => okY (.go s)
    | .rt r => okY (.rt r) := rfl
/-! whole numbers -/
@[simp] theorem addI (i j : Int) : addD (.int i) (.int j) = some (.val (.int (i + j))) := (rfl)
@[simp] theorem subI (i j : Int) : subD (.int i) (.int j) = some (.val (.int (i - j))) := (rfl)
@[simp] theorem negI (i : Int) : negD (.int i) = some (.val (.int (-i))) := (rfl)
def Sm (i : Int) : Prop := Builtin.Int.intBits i ≤ 4000000
theorem sm_lt {i : Int} {n : Nat} (h : i.natAbs < 2 ^ n) (hn : n ≤ 4000000) : Sm i := Nat.le_trans (PySem.intBits_le_iff.mpr h) hn
theorem sm_of {i : Int} (h0 : 0 ≤ i) (h : i < 18446744073709551616) : Sm i := sm_lt (n := 64) (by
  have : (2 : Nat) ^ 64 = 18446744073709551616 := by decide
  omega) (by decide)
theorem mulI {i j : Int} (hi : Sm i) (hj : Sm j) : mulD (.int i) (.int j) = some (.val (.int (i * j))) := by
  have e : mulD (.int i) (.int j) = if Builtin.Int.intBits i + Builtin.Int.intBits j ≤ 100000000 then some (.val (.int (i * j))) else none := rfl
  rw [e, if_pos (by unfold Sm at hi hj; omega)]
theorem modI {i j : Int} (h : 0 < j) : modD (.int i) (.int j) = some (.val (.int (i % j))) := by
  have e : modD (.int i) (.int j) = if 0 < j then some (.val (.int (i % j))) else none := rfl
  rw [e, if_pos h]
theorem fdivI {i j : Int} (h : 0 < j) (h2 : j < 18446744073709551616) : fdivD (.int i) (.int j) = some (.val (.int (i / j))) := by
  have e : fdivD (.int i) (.int j) = if 0 < j ∧ j.natAbs.log2 < 9000 then some (.val (.int (i / j))) else none := rfl
  have z : j.natAbs < 2 ^ 64 := by
    have : (2 : Nat) ^ 64 = 18446744073709551616 := by decide
    omega
  have : j.natAbs.log2 < 64 := (Nat.log2_lt (by omega)).mpr z
  rw [e, if_pos ⟨h, by omega⟩]
theorem beq_dec {α : Type} [BEq α] [LawfulBEq α] [DecidableEq α] (a b : α) : (a == b) = decide (a = b) := by
  rw [Bool.eq_iff_iff, beq_iff_eq, decide_eq_true_iff]
theorem cmpD_ok {C f : PyData → PyData → Bool} {x y : PyData} (h1 : okD x = true) (h2 : okD y = true) (h3 : C x y = true) : cmpD C f x y = some (.val (.bool (f x y))) := by
  unfold cmpD
  rw [if_pos ⟨h1, h2, h3⟩]
theorem eqA_ok {x y : PyData} (h1 : okD x = true) (h2 : okD y = true) : eqA x y = some (.val (.bool (PyData.eqv x y))) := by
  have e : cmpD cY PyData.eqv x y = some (.val (.bool (PyData.eqv x y))) := cmpD_ok h1 h2 rfl
  unfold eqA
  rw [e]
theorem neA_ok {x y : PyData} (h1 : okD x = true) (h2 : okD y = true) : neA x y = some (.val (.bool (!PyData.eqv x y))) := by
  have e : cmpD cY (fun x y => !PyData.eqv x y) x y = some (.val (.bool (!PyData.eqv x y))) := cmpD_ok h1 h2 rfl
  unfold neA
  rw [e]
@[simp] theorem eqA_int (a b : Int) : eqA (.int a) (.int b) = some (.val (.bool (decide (a = b)))) := by
  rw [eqA_ok rfl rfl, PyData.eqv, beq_dec]
@[simp] theorem neA_int (a b : Int) : neA (.int a) (.int b) = some (.val (.bool (!decide (a = b)))) := by
  rw [neA_ok rfl rfl, PyData.eqv, beq_dec]
@[simp] theorem eqA_str (a b : Str) : eqA (.str a) (.str b) = some (.val (.bool (decide (a = b)))) := by
  rw [eqA_ok rfl rfl, PyData.eqv, beq_dec]
@[simp] theorem neA_str (a b : Str) : neA (.str a) (.str b) = some (.val (.bool (!decide (a = b)))) := by
  rw [neA_ok rfl rfl, PyData.eqv, beq_dec]
@[simp] theorem cmp_int (f : PyData → PyData → Bool) (a b : Int) : cmpD cAl f (.int a) (.int b) = some (.val (.bool (f (.int a) (.int b)))) := cmpD_ok rfl rfl rfl
@[simp] theorem cmp_str (f : PyData → PyData → Bool) (a b : Str) : cmpD cAl f (.str a) (.str b) = some (.val (.bool (f (.str a) (.str b)))) := cmpD_ok rfl rfl rfl
@[simp] theorem lt_int' (a b : Int) : dataLt (.int a) (.int b) = decide (a < b) := dataLt_int a b
@[simp] theorem lt_str' (a b : Str) : dataLt (.str a) (.str b) = decide (a.cps.toList < b.cps.toList) := dataLt_str a b
/-! places -/
theorem atI_nat {α : Type} (xs : List α) (i : Nat) : atI xs (i : Int) = xs[i]? := by
  unfold atI ixN
  rw [if_pos (by omega)]
  by_cases h : i < xs.length
  · rw [if_pos (by omega)]
    simp
  · rw [if_neg (by omega), List.getElem?_eq_none (by omega)]
    rfl
theorem atI_pos {α : Type} (xs : List α) {i : Int} (h : 0 ≤ i) : atI xs i = xs[i.toNat]? := by
  obtain ⟨n, rfl⟩ := Int.eq_ofNat_of_zero_le h
  exact atI_nat xs n
theorem ixL {xs : List PyData} {i : Int} {d : PyData} (h : 0 ≤ i) (e : xs[i.toNat]? = some d) : ixD (.list xs) (.int i) = some (.val d) := by
  show (atI xs i).map RD.val = _
  rw [atI_pos xs h, e]
  rfl
theorem ixT {xs : List PyData} {i : Int} {d : PyData} (h : 0 ≤ i) (e : xs[i.toNat]? = some d) : ixD (.tuple xs) (.int i) = some (.val d) := by
  show (atI xs i).map RD.val = _
  rw [atI_pos xs h, e]
  rfl
theorem ixLn {xs : List PyData} {i : Nat} {d : PyData} (e : xs[i]? = some d) : ixD (.list xs) (.int i) = some (.val d) := ixL (by omega) (by simpa using e)
theorem ixTn {xs : List PyData} {i : Nat} {d : PyData} (e : xs[i]? = some d) : ixD (.tuple xs) (.int i) = some (.val d) := ixT (by omega) (by simpa using e)
@[simp] theorem ixT0 (x : PyData) (xs : List PyData) : ixD (.tuple (x :: xs)) (.int 0) = some (.val x) := ixT (by decide) rfl
@[simp] theorem ixT1 (x y : PyData) (xs : List PyData) : ixD (.tuple (x :: y :: xs)) (.int 1) = some (.val y) := ixT (by decide) rfl
@[simp] theorem ixT2 (x y z : PyData) (xs : List PyData) : ixD (.tuple (x :: y :: z :: xs)) (.int 2) = some (.val z) := ixT (by decide) rfl
@[simp] theorem ixL0 (x : PyData) (xs : List PyData) : ixD (.list (x :: xs)) (.int 0) = some (.val x) := ixL (by decide) rfl
@[simp] theorem ixL1 (x y : PyData) (xs : List PyData) : ixD (.list (x :: y :: xs)) (.int 1) = some (.val y) := ixL (by decide) rfl
@[simp] theorem ixL2 (x y z : PyData) (xs : List PyData) : ixD (.list (x :: y :: z :: xs)) (.int 2) = some (.val z) := ixL (by decide) rfl
@[simp] theorem putO0 (x d : PyData) (xs : List PyData) : putO (.lst (x :: xs)) (.int 0) d = some (.lst (d :: xs)) := by
  show (ixN (xs.length + 1) 0).map _ = _
  unfold ixN
  rw [if_pos (by decide), if_pos (by omega)]
  rfl
theorem putOn {xs : List PyData} {i : Nat} {d : PyData} (h : i < xs.length) : putO (.lst xs) (.int i) d = some (.lst (xs.set i d)) := by
  show (ixN xs.length i).map _ = _
  unfold ixN
  rw [if_pos (by omega), if_pos (by omega)]
  rfl
@[simp] theorem len_list (xs : List PyData) : lenD [.list xs] = some (.val (.int xs.length)) := (rfl)
@[simp] theorem len_tuple (xs : List PyData) : lenD [.tuple xs] = some (.val (.int xs.length)) := (rfl)
@[simp] theorem len_scr (ns : List Int) : lenD [scrD ns] = some (.val (.int ns.length)) := by
  unfold scrD lenD
  simp
theorem len_str {s : Str} (h : s.length ≤ lim) : lenD [.str s] = some (.val (.int s.length)) := by
  show (if s.length ≤ lim then some (RD.val (.int s.length)) else none) = _
  rw [if_pos h]
theorem rg1_nat {n : Nat} (h : n < 1000000) : rg1 [.int n] = some (rngD 0 n) := by
  have e : rg1 [.int n] = if -1000000000 ≤ (n : Int) ∧ (n : Int) < 1000000000 then some (rngD 0 (n : Int).toNat) else none := rfl
  rw [e, if_pos ⟨by omega, by omega⟩, Int.toNat_natCast]
theorem rngD0 (n : Nat) : rngD 0 n = (List.range n).map fun i => PyData.int (i : Nat) := by
  unfold rngD
  simp
@[simp] theorem selA_list (xs : List PyData) : selA (.list xs) = some xs := (rfl)
@[simp] theorem selA_tuple (xs : List PyData) : selA (.tuple xs) = some xs := (rfl)
@[simp] theorem tupleD_list (xs : List PyData) : tupleD [.list xs] = some (.val (.tuple xs)) := (rfl)
@[simp] theorem tupleD_tuple (xs : List PyData) : tupleD [.tuple xs] = some (.val (.tuple xs)) := (rfl)
@[simp] theorem listD_list (xs : List PyData) : listD [.list xs] = some (.own (.lst xs)) := (rfl)
@[simp] theorem listD_tuple (xs : List PyData) : listD [.tuple xs] = some (.own (.lst xs)) := (rfl)
@[simp] theorem ob_lst (xs : List PyData) : (Ob.lst xs).d = .list xs := (rfl)
@[simp] theorem ob_dct (t : Bool) (kvs : List (PyData × PyData)) : (Ob.dct t kvs).d = .dict kvs := (rfl)
@[simp] theorem tru_bool (c : Bool) : truD (.bool c) = some c := (rfl)
@[simp] theorem tru_none : truD .none = some false := (rfl)
@[simp] theorem tru_list (xs : List PyData) : truD (.list xs) = some (!xs.isEmpty) := (rfl)
theorem app_ok {xs : List PyData} {d : PyData} (h : xs.length < lim) : chApp (.lst xs) [d] = some (.none, .lst (xs ++ [d])) := by
  show (if xs.length < lim then some (PyData.none, Ob.lst (xs ++ [d])) else none) = _
  rw [if_pos h]
@[simp] theorem pop_ok (xs : List PyData) (d : PyData) : chPop (.lst (xs ++ [d])) [] = some (d, .lst xs) := by
  show (match (xs ++ [d]).getLast? with
    | some d' => some (d', Ob.lst (xs ++ [d]).dropLast)
    | none => none) = _
  simp
theorem popA_ok {xs : List PyData} {i : Nat} {d : PyData} (h : xs[i]? = some d) (hl : xs.length < 1000000) : chPopA (.lst xs) [.int i] = some (d, .lst (xs.eraseIdx i)) := by
  have hi : i < xs.length := by
    rcases Nat.lt_or_ge i xs.length with z | z
    · exact z
    · rw [List.getElem?_eq_none z] at h
      cases h
  have s : seqIndex? (i : Int) xs.length = some i := by
    unfold seqIndex?
    simp
    omega
  show (if -1000000000 ≤ (i : Int) ∧ (i : Int) < 1000000000 then match seqIndex? (i : Int) xs.length with
      | some j => match xs[j]? with
        | some d => some (d, Ob.lst (xs.eraseIdx j))
        | none => none
      | none => none
    else none) = _
  rw [if_pos ⟨by omega, by omega⟩, s]
  simp only [h]
/-! loops -/
theorem forS_pure {α σ : Type} {f : α → σ → Y σ} (g : α → σ → σ) : ∀ (xs : List α) (s : σ), (∀ x ∈ xs, ∀ s, f x s = okY (g x s)) → forS xs s f = okY (xs.foldl (fun s x => g x s) s)
  | [], s, _ => rfl
  | x :: xs, s, h => by
    rw [forS_cons, h x List.mem_cons_self s, bY_ok, forS_pure g xs _ fun y hy => h y (List.mem_cons_of_mem _ hy)]
    rfl
/-- by what holds ahead of each turn -/
theorem forS_inv {α σ : Type} {f : α → σ → Y σ} (I : Nat → σ → Prop) {xs : List α} {s : σ} (h0 : I 0 s) (h : ∀ i x s, xs[i]? = some x → I i s → ∃ s', f x s = okY s' ∧ I (i + 1) s') : ∃ s', forS xs s f = okY s' ∧ I xs.length s' := by
  have gen : ∀ (ys : List α) (n : Nat) (s : σ), I n s → (∀ i x, ys[i]? = some x → xs[n + i]? = some x) → n + ys.length = xs.length → ∃ s', forS ys s f = okY s' ∧ I xs.length s' := by
    intro ys
    induction ys with
    | nil => exact fun n s hi _ hl => ⟨s, rfl, by rw [← hl]; exact hi⟩
    | cons y ys ih =>
      intro n s hi hx hl
      obtain ⟨s', h1, h2⟩ := h n y s (by simpa using hx 0 y rfl) hi
      obtain ⟨s2, h3, h4⟩ := ih (n + 1) s' h2 (fun i x hi => by
        have := hx (i + 1) x (by simpa using hi)
        rwa [show n + (i + 1) = n + 1 + i by omega] at this) (by rw [List.length_cons] at hl; omega)
      refine ⟨s2, ?_, h4⟩
      rw [forS_cons, h1, bY_ok, h3]
  exact gen xs 0 s h0 (fun i x hi => by simpa using hi) (by omega)
/-- over 0, 1, .. -/
theorem forS_rng {σ : Type} {f : PyData → σ → Y σ} (I : Nat → σ → Prop) {n : Nat} {s : σ} (h0 : I 0 s) (h : ∀ i s, i < n → I i s → ∃ s', f (.int i) s = okY s' ∧ I (i + 1) s') : ∃ s', forS (rngD 0 n) s f = okY s' ∧ I n s' := by
  have hl : (rngD 0 n).length = n := by unfold rngD; simp
  have z := forS_inv (f := f) (xs := rngD 0 n) (s := s) I h0 fun i x s hx hi => by
    rw [rngD0, List.getElem?_map] at hx
    by_cases q : i < n
    · rw [List.getElem?_range q] at hx
      cases hx
      exact h i s q hi
    · rw [List.getElem?_eq_none (by simp; omega)] at hx
      cases hx
  rwa [hl] at z
theorem compL_ok {α β : Type} {f : α → Y (Option β)} (g : α → Option β) : ∀ (xs : List α), (∀ x ∈ xs, f x = okY (g x)) → compL f xs = some (xs.filterMap g)
  | [], _ => rfl
  | x :: xs, h => by
    have e : compL f (x :: xs) = match f x with
      | some (.ok o) => (compL f xs).map fun ys => optL o ++ ys
      | _ => none := rfl
    rw [e, h x List.mem_cons_self, compL_ok g xs fun y hy => h y (List.mem_cons_of_mem _ hy)]
    show some (optL (g x) ++ _) = _
    rw [List.filterMap_cons]
    cases g x <;> rfl
theorem compP_ok {α β : Type} {f : α → Y (Option β)} (g : α → Option β) {xs : List α} (hl : xs.length ≤ lim) (h : ∀ x ∈ xs, f x = okY (g x)) : compP xs f = some (xs.filterMap g) := by
  unfold compP
  rw [if_pos hl, compL_ok g xs h]
theorem compP_map {α β : Type} {f : α → Y (Option β)} (g : α → β) {xs : List α} (hl : xs.length ≤ lim) (h : ∀ x ∈ xs, f x = okY (some (g x))) : compP xs f = some (xs.map g) := by
  rw [compP_ok (fun x => some (g x)) hl h]
  congr 1
  exact congrFun List.filterMap_eq_map xs
theorem compP_filter {α : Type} {f : α → Y (Option α)} (p : α → Bool) {xs : List α} (hl : xs.length ≤ lim) (h : ∀ x ∈ xs, f x = okY (if p x = true then some x else none)) : compP xs f = some (xs.filter p) := by
  rw [compP_ok (fun x => if p x = true then some x else none) hl h]
  congr 1
  induction xs with
  | nil => rfl
  | cons x xs ih =>
    rw [List.filterMap_cons, List.filter_cons, ← ih (by rw [List.length_cons] at hl; omega) fun y hy => h y (List.mem_cons_of_mem _ hy)]
    cases p x <;> rfl
/-- over 0, 1, .. -/
theorem compP_rng {β : Type} {f : PyData → Y (Option β)} (g : Nat → β) {n : Nat} (hl : n ≤ lim) (h : ∀ i, i < n → f (.int i) = okY (some (g i))) : compP (rngD 0 n) f = some ((List.range n).map g) := by
  rw [rngD0]
  unfold compP
  rw [if_pos (by simpa using hl)]
  have gen : ∀ l : List Nat, (∀ i ∈ l, i < n) → compL f (l.map fun i => PyData.int (i : Nat)) = some (l.map g) := by
    intro l
    induction l with
    | nil => exact fun _ => rfl
    | cons i l ih =>
      intro hi
      have e : compL f (((i :: l).map fun i => PyData.int (i : Nat))) = match f (.int i) with
        | some (.ok o) => (compL f (l.map fun i => PyData.int (i : Nat))).map fun ys => optL o ++ ys
        | _ => none := rfl
      rw [e, h i (hi i List.mem_cons_self), ih fun j hj => hi j (List.mem_cons_of_mem _ hj)]
      rfl
  exact gen _ fun i hi => List.mem_range.mp hi
/-- with what changes -/
theorem compS_inv {α β σ : Type} {f : α → σ → Y (Option β × σ)} (I : Nat → List β → σ → Prop) {xs : List α} {s : σ} (hl : xs.length ≤ lim) (h0 : I 0 [] s) (h : ∀ i x acc s, xs[i]? = some x → I i acc s → ∃ o s', f x s = okY (o, s') ∧ I (i + 1) (acc ++ optL o) s') : ∃ ys s', compS xs s f = some (ys, s') ∧ I xs.length ys s' := by
  have gen : ∀ (ys : List α) (n : Nat) (acc : List β) (s : σ), I n acc s → (∀ i x, ys[i]? = some x → xs[n + i]? = some x) → n + ys.length = xs.length → ∃ zs s', compT f ys s = some (zs, s') ∧ I xs.length (acc ++ zs) s' := by
    intro ys
    induction ys with
    | nil => exact fun n acc s hi _ hl => ⟨[], s, rfl, by rw [List.append_nil, ← hl]; exact hi⟩
    | cons y ys ih =>
      intro n acc s hi hx hl
      obtain ⟨o, s', h1, h2⟩ := h n y acc s (by simpa using hx 0 y rfl) hi
      obtain ⟨zs, s2, h3, h4⟩ := ih (n + 1) _ s' h2 (fun i x hi => by
        have := hx (i + 1) x (by simpa using hi)
        rwa [show n + (i + 1) = n + 1 + i by omega] at this) (by rw [List.length_cons] at hl; omega)
      have e : compT f (y :: ys) s = match f y s with
        | some (.ok (o, s)) => (compT f ys s).map fun p => (optL o ++ p.1, p.2)
        | _ => none := rfl
      refine ⟨optL o ++ zs, s2, ?_, by rw [← List.append_assoc]; exact h4⟩
      rw [e, h1]
      show (compT f ys s').map _ = _
      rw [h3]
      rfl
  unfold compS
  rw [if_pos hl]
  obtain ⟨zs, s', h1, h2⟩ := gen xs 0 [] s h0 (fun i x hi => by simpa using hi) (by omega)
  exact ⟨zs, s', h1, by simpa using h2⟩
theorem compS_rng {β σ : Type} {f : PyData → σ → Y (Option β × σ)} (I : Nat → List β → σ → Prop) {n : Nat} {s : σ} (hl : n ≤ lim) (h0 : I 0 [] s) (h : ∀ i acc s, i < n → I i acc s → ∃ o s', f (.int i) s = okY (o, s') ∧ I (i + 1) (acc ++ optL o) s') : ∃ ys s', compS (rngD 0 n) s f = some (ys, s') ∧ I n ys s' := by
  have hl' : (rngD 0 n).length = n := by unfold rngD; simp
  have z := compS_inv (f := f) (xs := rngD 0 n) (s := s) I (by omega) h0 fun i x acc s hx hi => by
    rw [rngD0, List.getElem?_map] at hx
    by_cases q : i < n
    · rw [List.getElem?_range q] at hx
      cases hx
      exact h i acc s q hi
    · rw [List.getElem?_eq_none (by simp; omega)] at hx
      cases hx
  rwa [hl'] at z
/-- a while, by a number of turns left -/
theorem whY_inv {f : σ → Y (Lp ρ σ)} (I : Nat → σ → Prop) (Q : σ → Prop) (h : ∀ n s, I n s → (∃ s', f s = okY (.bk s') ∧ Q s') ∨ ∃ s', f s = okY (.go s') ∧ ∃ m, m < n ∧ I m s') : ∀ (n N : Nat) (s : σ), I n s → n < N → ∃ s', whY N s f = okY (.go s') ∧ Q s' := by
  intro n
  induction n using Nat.strongRecOn with
  | ind n ih =>
    intro N s hi hN
    cases N with
    | zero => omega
    | succ N =>
      have e : whY (N + 1) s f = bY (f s) fun l => match l with
        | .go s => whY N s f
        | .bk s => okY (.go s)
        | .rt r => okY (.rt r) := rfl
      rw [e]
      rcases h n s hi with ⟨s', h1, h2⟩ | ⟨s', h1, m, h2, h3⟩
      · exact ⟨s', by rw [h1, bY_ok], h2⟩
      · obtain ⟨s2, h4, h5⟩ := ih m h2 N s' h3 (by omega)
        exact ⟨s2, by rw [h1, bY_ok]; exact h4, h5⟩
/-- a search that finds nothing -/
theorem forY_none {α : Type} {f : α → σ → Y (Lp ρ σ)} {s : σ} : ∀ {xs : List α}, (∀ x ∈ xs, f x s = okY (.go s)) → forY xs s f = okY (.go s)
  | [], _ => rfl
  | x :: xs, h => by
    rw [forY_cons, h x List.mem_cons_self, bY_ok]
    exact forY_none fun y hy => h y (List.mem_cons_of_mem _ hy)
/-- .. the first that is found -/
theorem forY_find {α : Type} {f : α → Unit → Y (Lp ρ Unit)} (g : α → Option ρ) : ∀ {xs : List α}, (∀ x ∈ xs, f x () = okY (match g x with
    | some r => .rt r
    | none => .go ())) → forY xs () f = okY (match xs.findSome? g with
    | some r => .rt r
    | none => .go ())
  | [], _ => rfl
  | x :: xs, h => by
    rw [forY_cons, h x List.mem_cons_self, List.findSome?_cons]
    cases q : g x with
    | some r => rfl
    | none =>
      rw [bY_ok]
      exact forY_find g fun y hy => h y (List.mem_cons_of_mem _ hy)
end
end Mr
namespace Law
open PySem PySem.Spec PyProof.Rows L2 PySem.W Pv Mr
/-! draws -/
def Dr (l : List PyData) : Prop := ∃ a b : Int, l = [.int a, .int b] ∧ 0 ≤ a ∧ (b = 0 ∨ (b = 1 ∧ a < 2147483648))
theorem ev_next {l : List PyData} {s : Int} (hd : Dr l) (hs : 0 < s) (hs2 : s ≤ 1000000000) : ∃ (n : Nat) (l' : List PyData), m__law_next l (.int s) = okY (.int n, l') ∧ (n : Int) < s ∧ Dr l' := by
  obtain ⟨a, b, rfl, h0, rfl | ⟨rfl, h1⟩⟩ := hd
  · have p1 : 0 ≤ a % s := Int.emod_nonneg _ (by omega)
    have p2 : a % s < s := Int.emod_lt_of_pos _ hs
    refine ⟨(a % s).toNat, [.int (a / s), .int 0], ?_, by omega, _, _, rfl, Int.ediv_nonneg h0 (by omega), .inl rfl⟩
    simp [m__law_next, modI hs, fdivI hs (show s < 18446744073709551616 by omega), Int.toNat_of_nonneg p1]
  · obtain ⟨a1, e1⟩ : ∃ a1, a1 = (a * 48271 + 11) % 2147483647 := ⟨_, rfl⟩
    obtain ⟨m, e2⟩ : ∃ m, m = (a1 * a1 + 16807 * a1) % 2147483629 := ⟨_, rfl⟩
    have ha1 : 0 ≤ a1 ∧ a1 < 2147483647 := by omega
    have hm : 0 ≤ m ∧ m < 2147483629 := by
      subst e2
      exact ⟨Int.emod_nonneg _ (by decide), Int.emod_lt_of_pos _ (by decide)⟩
    have s1 : Sm a1 := sm_of ha1.1 (by omega)
    have s2 : Sm m := sm_of hm.1 (by omega)
    have z1 := mulI (sm_of h0 (by omega)) (sm_of (i := 48271) (by decide) (by decide))
    have z2 := mulI s1 s1
    have z3 := mulI (sm_of (i := 16807) (by decide) (by decide)) s1
    have z4 := mulI s2 s2
    have z5 := mulI (sm_of (i := 7) (by decide) (by decide)) s2
    have p1 : 0 ≤ (m * m + 7 * m) % 2147483587 / 5 % s := Int.emod_nonneg _ (by omega)
    have p2 : (m * m + 7 * m) % 2147483587 / 5 % s < s := Int.emod_lt_of_pos _ hs
    refine ⟨((m * m + 7 * m) % 2147483587 / 5 % s).toNat, [.int a1, .int 1], ?_, by omega, _, _, rfl, ha1.1, .inr ⟨rfl, by omega⟩⟩
    simp [m__law_next, z1, modI, ← e1, z2, z3, ← e2, z4, z5, fdivI, modI hs, Int.toNat_of_nonneg p1]
theorem pow18 : powD (.int 10) (.int 18) = some (.val (.int 1000000000000000000)) := by simp [powD]
theorem ev_begun {c : Int} {k : Nat} (hc : Builtin.Int.intBits c ≤ 1048576) (hk : k < 1000) : ∃ l, m__law_begun (.int c) (.int k) = okY l ∧ Dr l := by
  by_cases h : c < 1000000000000000000
  · obtain ⟨m, e⟩ : ∃ m, m = (c * 48271 + 104729 * (k + 1)) % 2147483647 := ⟨_, rfl⟩
    have hm : 0 ≤ m ∧ m < 2147483647 := by omega
    have s1 : Sm m := sm_of hm.1 (by omega)
    have z1 := mulI (i := c) (Nat.le_trans hc (by decide)) (sm_of (i := 48271) (by decide) (by decide))
    have z2 := mulI (sm_of (i := 104729) (by decide) (by decide)) (sm_of (i := (k : Int) + 1) (by omega) (by omega))
    have z3 := mulI s1 s1
    have z4 := mulI (sm_of (i := 40692) (by decide) (by decide)) s1
    refine ⟨[.int (1 + (m * m + 40692 * m) % 2147483629), .int 1], ?_, _, _, rfl, ?_, .inr ⟨rfl, ?_⟩⟩
    · simp [m__law_begun, pow18, h, z1, z2, modI, ← e, z3, z4]
    · have := Int.emod_nonneg (m * m + 40692 * m) (show (2147483629 : Int) ≠ 0 by decide)
      omega
    · have := Int.emod_lt_of_pos (m * m + 40692 * m) (show (0 : Int) < 2147483629 by decide)
      omega
  · refine ⟨[.int (c - 1000000000000000000), .int 0], ?_, _, _, rfl, by omega, .inl rfl⟩
    simp [m__law_begun, pow18, h]
/-! names: texts by their codes -/
def nm (l : List Nat) : PyData := .str ⟨l.toArray⟩
theorem nm_inj {a b : List Nat} (h : nm a = nm b) : a = b := by
  unfold nm at h
  injection h with h
  injection h with h
  simpa using congrArg Array.toList h
def nmL (s w k : Nat) : List Nat := match w with
  | 0 => [97 + (s + 5 * k) % 26]
  | 1 => (97 + (s + 5 * k) % 26) :: List.replicate (k % 5) (97 + s)
  | 2 => List.replicate (k % 5) (97 + s) ++ [97 + (s + 5 * k) % 26]
  | _ => List.replicate (1 + k % 5) (97 + (s % 11 + k / 5))
theorem nm_ok : ∀ (s : Fin 26) (w : Fin 4) (k : Fin 13), 1 ≤ (nmL s w k).length ∧ (nmL s w k).length ≤ 6 ∧ (nmL s w k).all (fun c => decide (97 ≤ c ∧ c ≤ 122)) = true := by decide +kernel
theorem nm_ne : ∀ (s : Fin 26) (w : Fin 4) (k : Fin 13) (j : Fin 13), nmL s w k = nmL s w j → k = j := by decide +kernel
def letters : Str := "abcdefghijklmnopqrstuvwxyz"
theorem letters_at : ∀ i : Fin 26, atI letters.cps.toList ((i.val : Nat) : Int) = some (97 + i.val) := by decide +kernel
theorem letters_len : letters.length = 26 := by decide +kernel
theorem ix_let {i : Nat} (h : i < 26) : ixD (.str letters) (.int i) = some (.val (nm [97 + i])) := by
  have e : ixD (.str letters) (.int i) = if letters.length ≤ lim then (atI letters.cps.toList (i : Int)).map fun c => RD.val (.str ⟨#[c]⟩) else none := rfl
  rw [e, letters_len, if_pos (by decide), letters_at ⟨i, h⟩]
  rfl
theorem mul_rep {c : Nat} {n : Nat} (h : n < 1000) : mulD (nm [c]) (.int n) = some (.val (nm (List.replicate n c))) := by
  have e : mulD (nm [c]) (.int n) = if (n : Int) < 1000000 ∧ -1000000 < (n : Int) ∧ (⟨[c].toArray⟩ : Str).length ≤ 1000 ∧ (⟨[c].toArray⟩ : Str).length * (n : Int).toNat ≤ lim then some (.val (.str (mulS ⟨[c].toArray⟩ n))) else none := rfl
  have l : (⟨[c].toArray⟩ : Str).length = 1 := rfl
  rw [e, l, if_pos ⟨by omega, by omega, by omega, by show 1 * (n : Int).toNat ≤ 1000000; omega⟩]
  unfold mulS nm
  simp
theorem nm_len (a : List Nat) : (⟨a.toArray⟩ : Str).length = a.length := by simp [Str.length]
theorem add_nm {a b : List Nat} (h : a.length + b.length ≤ 1000) : addD (nm a) (nm b) = some (.val (nm (a ++ b))) := by
  have e : addD (nm a) (nm b) = if (⟨a.toArray⟩ : Str).length + (⟨b.toArray⟩ : Str).length ≤ lim then some (.val (.str (⟨a.toArray⟩ ++ ⟨b.toArray⟩))) else none := rfl
  rw [e, nm_len, nm_len, if_pos (by show _ ≤ 1000000; omega)]
  have z : ((⟨a.toArray⟩ : Str) ++ ⟨b.toArray⟩) = ⟨(a ++ b).toArray⟩ := by
    show Str.append _ _ = _
    simp [Str.append]
  rw [z]
  rfl
/-- names: what they are -/
def IsN (l : List Nat) : Prop := 1 ≤ l.length ∧ l.length ≤ 6 ∧ ∀ c ∈ l, 97 ≤ c ∧ c ≤ 122
structure HN (ls : List (List Nat)) : Prop where
  pos : 1 ≤ ls.length
  le : ls.length ≤ 12
  nms : ∀ l ∈ ls, IsN l
  asc : ls.Pairwise fun a b => a < b
def hp (ls : List (List Nat)) : PyData := .tuple (ls.map nm)
theorem dataLt_nm (a b : List Nat) : dataLt (nm a) (nm b) = decide (a < b) := by
  unfold nm
  rw [dataLt_str]
theorem lt_total {a b : List Nat} (h : a ≠ b) : a < b ∨ b < a := by
  rcases Classical.em (a < b) with q | q
  · exact .inl q
  · rcases Classical.em (b < a) with q2 | q2
    · exact .inr q2
    · exact absurd (List.le_antisymm q2 q) h
theorem sortD_pw (ds : List PyData) : (sortD ds).Pairwise fun a b => dataLe false id a b = true := by
  unfold sortD
  refine List.pairwise_mergeSort (fun a b c h1 h2 => ?_) (fun a b => ?_) ds
  · have h1 : (!dataLt b a) = true := h1
    have h2 : (!dataLt c b) = true := h2
    show (!dataLt c a) = true
    cases q : dataLt c a with
    | false => rfl
    | true =>
      rcases lex_negTrans (O := itemOrd) _ (keyToks b) _ q with z | z
      · have z : dataLt c b = true := z
        rw [z] at h2
        cases h2
      · have z : dataLt b a = true := z
        rw [z] at h1
        cases h1
  · show (!dataLt b a || !dataLt a b) = true
    cases q : dataLt b a with
    | false => rfl
    | true =>
      cases q2 : dataLt a b with
      | false => rfl
      | true =>
        have z := lex_trans (O := itemOrd) _ _ _ q q2
        rw [lex_irrefl] at z
        cases z
/-- what is told by an ordering of α -/
theorem sort_by {α : Type} {e : α → PyData} (inj : ∀ a b, e a = e b → a = b) {lt : α → α → Prop} [∀ a b, Decidable (lt a b)] (hlt : ∀ a b, dataLt (e a) (e b) = decide (lt a b)) (tot : ∀ a b, a ≠ b → lt a b ∨ lt b a) {ls : List α} (ok : sortOk (ls.map e) = true) (hn : ls.Nodup) : ∃ ms : List α, ms.Perm ls ∧ (ms.Pairwise lt) ∧ sortedA [.list (ls.map e)] = some (.own (.lst (ms.map e))) := by
  have e1 : sortedD1 [.list (ls.map e)] = if sortOk (ls.map e) = true then some (.own (.lst (sortD (ls.map e)))) else none := rfl
  have p : (sortD (ls.map e)).Perm (ls.map e) := List.mergeSort_perm _ _
  obtain ⟨ms, h1, h2⟩ : ∃ ms : List α, sortD (ls.map e) = ms.map e ∧ ms.Perm ls := by
    have hm : ∀ x ∈ sortD (ls.map e), ∃ l, x = e l := fun x hx => by
      obtain ⟨l, _, rfl⟩ := List.mem_map.mp (p.mem_iff.mp hx)
      exact ⟨l, rfl⟩
    have : ∀ xs : List PyData, (∀ x ∈ xs, ∃ l, x = e l) → ∃ ms : List α, xs = ms.map e := fun xs h => by
      induction xs with
      | nil => exact ⟨[], rfl⟩
      | cons x xs ih =>
        obtain ⟨l, rfl⟩ := h x List.mem_cons_self
        obtain ⟨ms, rfl⟩ := ih fun y hy => h y (List.mem_cons_of_mem _ hy)
        exact ⟨l :: ms, rfl⟩
    obtain ⟨ms, hms⟩ := this _ hm
    refine ⟨ms, hms, ?_⟩
    rw [hms] at p
    cases ls with
    | nil =>
      have := p.length_eq
      simp at this
      subst this
      exact .nil
    | cons a0 ls0 =>
      classical
      have dec : ∃ f : PyData → α, ∀ l, f (e l) = l := ⟨fun d => if h : ∃ l, e l = d then h.choose else a0, fun l => by
        have h : ∃ l', e l' = e l := ⟨l, rfl⟩
        show (if h : ∃ l', e l' = e l then h.choose else a0) = l
        rw [dif_pos h]
        exact inj _ _ h.choose_spec⟩
      obtain ⟨f, hf⟩ := dec
      have z := p.map f
      rw [List.map_map, List.map_map] at z
      have hid : (f ∘ e) = id := funext fun l => hf l
      rw [hid, List.map_id, List.map_id] at z
      exact z
  refine ⟨ms, h2, ?_, ?_⟩
  · have s := sortD_pw (ls.map e)
    rw [h1, List.pairwise_map] at s
    have nd : ms.Nodup := h2.nodup_iff.mpr hn
    refine (s.and nd).imp fun {a b} z => ?_
    have z1 : (!dataLt (e b) (e a)) = true := z.1
    rw [hlt] at z1
    have z2 : ¬ lt b a := by simpa using z1
    rcases tot a b z.2 with q | q
    · exact q
    · exact absurd q z2
  · unfold sortedA
    rw [e1, if_pos ok, h1]
theorem sortOk_nm {ls : List (List Nat)} (hl : ls.length ≤ 1000) : sortOk (ls.map nm) = true := by
  unfold sortOk
  simp only [Bool.and_eq_true, Bool.or_eq_true, decide_eq_true_eq]
  refine ⟨⟨⟨?_, .inr ?_⟩, ?_⟩, by rw [List.length_map]; show ls.length ≤ 1000000; omega⟩
  · unfold alikes
    simp [nm, alike]
  · simp [nm, plnE]
  · simp [nm, okD, noD, PyData.depth]
theorem sort_nm {ls : List (List Nat)} (hl : ls.length ≤ 1000) (hn : ls.Nodup) : ∃ ms : List (List Nat), ms.Perm ls ∧ (ms.Pairwise fun a b => a < b) ∧ sortedA [.list (ls.map nm)] = some (.own (.lst (ms.map nm))) :=
  sort_by (e := nm) (fun _ _ => nm_inj) (lt := fun a b => a < b) dataLt_nm (fun _ _ => lt_total) (sortOk_nm hl) hn
theorem nm_turn {s w k : Nat} (hs : s < 26) (hw : w < 4) : ixD (.list [nm [97 + (s + 5 * k) % 26], nm ((97 + (s + 5 * k) % 26) :: List.replicate (k % 5) (97 + s)), nm (List.replicate (k % 5) (97 + s) ++ [97 + (s + 5 * k) % 26]), nm (List.replicate (1 + k % 5) (97 + (s % 11 + k / 5)))]) (.int w) = some (.val (nm (nmL s w k))) := by
  have : w = 0 ∨ w = 1 ∨ w = 2 ∨ w = 3 := by omega
  rcases this with rfl | rfl | rfl | rfl <;> rfl
end Law
namespace Law
open PySem PySem.Spec PyProof.Rows L2 PySem.W Pv Mr
theorem modN {i j : Nat} (h : 0 < j) : modD (.int i) (.int j) = some (.val (.int ((i % j : Nat) : Int))) := by
  rw [modI (by omega)]
  simp
theorem ev_names {l : List PyData} {n : Nat} (hd : Dr l) (hn : n ≤ 13) : ∃ (ls : List (List Nat)) (l' : List PyData), m__law_names l (.int n) = okY (hp ls, l') ∧ Dr l' ∧ ls.length = n ∧ (∀ a ∈ ls, IsN a) ∧ ls.Pairwise fun a b => a < b := by
  obtain ⟨s, l1, e1, hs, d1⟩ := ev_next (s := 26) hd (by decide) (by decide)
  obtain ⟨w, l2, e2, hw, d2⟩ := ev_next (s := 4) d1 (by decide) (by decide)
  have turn : ∀ k, k < n → nmL s w k ∈ (List.range n).map (nmL s w) := fun k hk => List.mem_map.mpr ⟨k, List.mem_range.mpr hk, rfl⟩
  have nd : ((List.range n).map (nmL s w)).Nodup := by
    refine List.pairwise_map.mpr (List.Pairwise.imp_of_mem (fun {a b} ha hb ne e => ne ?_) (List.nodup_range (n := n)))
    rw [List.mem_range] at ha hb
    have z := nm_ne ⟨s, by omega⟩ ⟨w, by omega⟩ ⟨a, by omega⟩ ⟨b, by omega⟩ e
    exact congrArg Fin.val z
  obtain ⟨ms, h1, h2, h3⟩ := sort_nm (ls := (List.range n).map (nmL s w)) (by simp; omega) nd
  refine ⟨ms, l2, ?_, d2, by rw [h1.length_eq]; simp, fun a ha => ?_, h2⟩
  · unfold m__law_names
    simp only [bY_ok, e1, e2, bYn_ok]
    rw [rg1_nat (by omega), bQ_ok]
    obtain ⟨s', hf, hI⟩ := forS_rng (n := n) (s := ([] : List PyData)) (f := fun k found =>
      bO (mulD (.int 5) k) fun t => bO (addD (.int s) t) fun t1 => bO (modD t1 (.int 26)) fun t2 => bO (ixD (.str letters) t2) fun letter => bO (ixD (.str letters) (.int s)) fun t3 => bO (modD k (.int 5)) fun t4 => bO (mulD t3 t4) fun alike_here => bO (modD (.int s) (.int 11)) fun t5 => bO (fdivD k (.int 5)) fun t6 => bO (addD t5 t6) fun t7 => bO (ixD (.str letters) t7) fun t8 => bO (modD k (.int 5)) fun t9 => bO (addD (.int 1) t9) fun t10 => bO (mulD t8 t10) fun run => bO (addD letter alike_here) fun t11 => bO (addD alike_here letter) fun t12 => bO (ixD (.list [letter, t11, t12, run]) (.int w)) fun t13 => bC ofL (chApp (.lst found) [t13]) fun r found1 => okY found1)
      (fun k found => found = (List.range k).map fun k => nm (nmL s w k)) rfl fun k found hk hf => by
        subst hf
        refine ⟨_, ?_, rfl⟩
        have m1 : mulD (.int 5) (.int k) = some (.val (.int ((5 * k : Nat) : Int))) := by
          rw [mulI (sm_of (by decide) (by decide)) (sm_of (by omega) (by omega))]
          simp
        have m2 : modD (.int ((s : Int) + ((5 * k : Nat) : Int))) (.int 26) = some (.val (.int (((s + 5 * k) % 26 : Nat) : Int))) := by
          have := modN (i := s + 5 * k) (j := 26) (by decide)
          simpa using this
        have m3 : modD (.int k) (.int 5) = some (.val (.int ((k % 5 : Nat) : Int))) := modN (j := 5) (by decide)
        have m4 : modD (.int s) (.int 11) = some (.val (.int ((s % 11 : Nat) : Int))) := modN (j := 11) (by decide)
        have m5 : fdivD (.int k) (.int 5) = some (.val (.int ((k / 5 : Nat) : Int))) := by
          rw [fdivI (by decide) (by decide)]
          simp
        have m6 : ∀ a b : Nat, addD (.int a) (.int b) = some (.val (.int ((a + b : Nat) : Int))) := fun a b => by simp
        have m7 : addD (.int 1) (.int ((k % 5 : Nat) : Int)) = some (.val (.int ((1 + k % 5 : Nat) : Int))) := m6 1 _
        have x1 := ix_let (i := (s + 5 * k) % 26) (by omega)
        have x2 := ix_let (i := s) (by omega)
        have x3 := ix_let (i := s % 11 + k / 5) (by omega)
        have y1 := mul_rep (c := 97 + s) (n := k % 5) (by omega)
        have y2 := mul_rep (c := 97 + (s % 11 + k / 5)) (n := 1 + k % 5) (by omega)
        have a1 := add_nm (a := [97 + (s + 5 * k) % 26]) (b := List.replicate (k % 5) (97 + s)) (by simp; omega)
        have a2 := add_nm (a := List.replicate (k % 5) (97 + s)) (b := [97 + (s + 5 * k) % 26]) (by simp; omega)
        have t := nm_turn (s := s) (w := w) (k := k) (by omega) (by omega)
        have ap := app_ok (xs := (List.range k).map fun k => nm (nmL s w k)) (d := nm (nmL s w k)) (by simp; show k < 1000000; omega)
        simp only [m1, bO_val, addI]
        simp only [m2, bO_val, x1, x2, m3, y1, m4, m5, m6, x3, m7, y2, a1, a2]
        simp only [List.singleton_append]
        simp only [t, bO_val, ap, bCL]
        rw [List.range_succ, List.map_append]
        rfl
    have hf' : forS (rngD 0 n) ([] : List PyData) (fun k found =>
      bO (mulD (.int 5) k) fun t => bO (addD (.int s) t) fun t1 => bO (modD t1 (.int 26)) fun t2 => bO (ixD (.str "abcdefghijklmnopqrstuvwxyz") t2) fun letter => bO (ixD (.str "abcdefghijklmnopqrstuvwxyz") (.int s)) fun t3 => bO (modD k (.int 5)) fun t4 => bO (mulD t3 t4) fun alike_here => bO (modD (.int s) (.int 11)) fun t5 => bO (fdivD k (.int 5)) fun t6 => bO (addD t5 t6) fun t7 => bO (ixD (.str "abcdefghijklmnopqrstuvwxyz") t7) fun t8 => bO (modD k (.int 5)) fun t9 => bO (addD (.int 1) t9) fun t10 => bO (mulD t8 t10) fun run => bO (addD letter alike_here) fun t11 => bO (addD alike_here letter) fun t12 => bO (ixD (.list [letter, t11, t12, run]) (.int w)) fun t13 => bC ofL (chApp (.lst found) [t13]) fun r found1 => okY found1) = okY s' := hf
    rw [hf', bY_ok, hI]
    have h3' : sortedA [.list ((List.range n).map fun k => nm (nmL s w k))] = some (.own (.lst (ms.map nm))) := by
      rw [← h3, List.map_map]
      rfl
    simp only [h3', bO_own, ob_lst, tupleD_list, bO_val]
    rfl
  · have z := h1.mem_iff.mp ha
    obtain ⟨k, hk, rfl⟩ := List.mem_map.mp z
    rw [List.mem_range] at hk
    obtain ⟨z1, z2, z3⟩ := nm_ok ⟨s, by omega⟩ ⟨w, by omega⟩ ⟨k, by omega⟩
    exact ⟨z1, z2, fun c hc => by
      have := List.all_eq_true.mp z3 c hc
      simpa using this⟩
end Law
namespace Mr
open PySem PySem.Spec PyProof.Rows L2 PySem.W Pv
section
variable {α β γ σ ρ : Type} {Q : β → Prop} {R : α → Prop}
/-- m comes to something of which Q holds -/
def Ev (m : Y α) (Q : α → Prop) : Prop := ∃ a, m = okY a ∧ Q a
theorem Ev.ok {Q : α → Prop} {a : α} (h : Q a) : Ev (okY a) Q := ⟨a, rfl, h⟩
theorem Ev.eq {Q : α → Prop} {m : Y α} {a : α} (e : m = okY a) (h : Q a) : Ev m Q := ⟨a, e, h⟩
theorem Ev.bY {m : Y α} {k : α → Y β} (h : Ev m R) (hk : ∀ a, R a → Ev (k a) Q) : Ev (bY m k) Q := by
  obtain ⟨a, rfl, ha⟩ := h
  exact hk a ha
theorem Ev.bYn {m : Y α} {k : α → Y β} (h : Ev m R) (hk : ∀ a, R a → Ev (k a) Q) : Ev (bYn m k) Q := by
  obtain ⟨a, rfl, ha⟩ := h
  exact hk a ha
theorem Ev.imp {Q R : α → Prop} {m : Y α} (h : Ev m R) (hk : ∀ a, R a → Q a) : Ev m Q := by
  obtain ⟨a, rfl, ha⟩ := h
  exact ⟨a, rfl, hk a ha⟩
theorem Ev.for_rng {f : PyData → σ → Y σ} {k : σ → Y β} {n : Nat} {s : σ} (I : Nat → σ → Prop) (h0 : I 0 s) (h : ∀ i s, i < n → I i s → Ev (f (.int i) s) (I (i + 1))) (hk : ∀ s, I n s → Ev (k s) Q) : Ev (Mr.bY (forS (rngD 0 n) s f) k) Q := by
  obtain ⟨s', h1, h2⟩ := forS_rng (f := f) I h0 h
  rw [h1]
  exact hk s' h2
theorem Ev.for_list {f : α → σ → Y σ} {k : σ → Y β} {xs : List α} {s : σ} (I : Nat → σ → Prop) (h0 : I 0 s) (h : ∀ i x s, xs[i]? = some x → I i s → Ev (f x s) (I (i + 1))) (hk : ∀ s, I xs.length s → Ev (k s) Q) : Ev (Mr.bY (forS xs s f) k) Q := by
  obtain ⟨s', h1, h2⟩ := forS_inv (f := f) I h0 h
  rw [h1]
  exact hk s' h2
theorem Ev.comp_rng {f : PyData → σ → Y (Option γ × σ)} {k : List γ × σ → Y β} {n : Nat} {s : σ} (I : Nat → List γ → σ → Prop) (hl : n ≤ lim) (h0 : I 0 [] s) (h : ∀ i acc s, i < n → I i acc s → Ev (f (.int i) s) fun p => I (i + 1) (acc ++ optL p.1) p.2) (hk : ∀ ys s, I n ys s → Ev (k (ys, s)) Q) : Ev (bQ (compS (rngD 0 n) s f) k) Q := by
  obtain ⟨ys, s', h1, h2⟩ := compS_rng (f := f) I hl h0 fun i acc s hi hI => by
    obtain ⟨⟨o, s'⟩, e1, e2⟩ := h i acc s hi hI
    exact ⟨o, s', e1, e2⟩
  rw [h1]
  exact hk ys s' h2
theorem Ev.map_rng {f : PyData → Y (Option γ)} {k : List γ → Y β} {n : Nat} (g : Nat → γ) (hl : n ≤ lim) (h : ∀ i, i < n → f (.int i) = okY (some (g i))) (hk : Ev (k ((List.range n).map g)) Q) : Ev (bQ (compP (rngD 0 n) f) k) Q := by
  rw [compP_rng g hl h]
  exact hk
theorem Ev.whil {f : σ → Y (Lp ρ σ)} {s : σ} {k : Fw ρ σ → Y β} (n : Nat) (hn : n < 100000) (I : Nat → σ → Prop) (J : σ → Prop) (h0 : I n s) (h : ∀ n s, I n s → Ev (f s) fun l => match l with
    | .bk s' => J s'
    | .go s' => ∃ m, m < n ∧ I m s'
    | .rt _ => False) (hk : ∀ s, J s → Ev (k (.go s)) Q) : Ev (Mr.bY (whY WN s f) k) Q := by
  obtain ⟨s', h1, h2⟩ := whY_inv (f := f) I J (fun n s hi => by
    obtain ⟨l, e1, e2⟩ := h n s hi
    cases l with
    | go s' => exact .inr ⟨s', e1, e2⟩
    | bk s' => exact .inl ⟨s', e1, e2⟩
    | rt r => exact e2.elim) n WN s h0 hn
  rw [h1]
  exact hk s' h2
end
end Mr
namespace Law
open PySem PySem.Spec PyProof.Rows L2 PySem.W Pv Mr
theorem next_ev {l : List PyData} {s : Int} (hd : Dr l) (hs : 0 < s) (hs2 : s ≤ 1000000000) : Ev (m__law_next l (.int s)) fun p => ∃ n : Nat, p.1 = .int n ∧ (n : Int) < s ∧ Dr p.2 := by
  obtain ⟨n, l', e, h1, h2⟩ := ev_next hd hs hs2
  exact ⟨_, e, n, rfl, h1, h2⟩
/-! dicts of pairs of places -/
abbrev PL := List ((Nat × Nat) × Int)
def prD (p : Nat × Nat) : PyData := .tuple [.int p.1, .int p.2]
def kvP (l : PL) : List (PyData × PyData) := l.map fun e => (prD e.1, .int e.2)
def getL (l : PL) (k : Nat × Nat) : Option Int := (l.find? fun e => decide (e.1 = k)).map (·.2)
def putL (l : PL) (k : Nat × Nat) (v : Int) : PL := if (l.any fun e => decide (e.1 = k)) = true then l.map fun e => if e.1 = k then (e.1, v) else e else l ++ [(k, v)]
theorem keq_pr (p q : Nat × Nat) : keq (prD p) (prD q) = decide (p = q) := by
  show (((p.1 : Int) == (q.1 : Int)) && (((p.2 : Int) == (q.2 : Int)) && true)) = _
  rw [Bool.eq_iff_iff]
  simp [Prod.ext_iff]
  omega
theorem dGet_kvP : ∀ (l : PL) (k : Nat × Nat), dGet (kvP l) (prD k) = (getL l k).map PyData.int
  | [], _ => rfl
  | e :: l, k => by
    have ih := dGet_kvP l k
    unfold dGet getL kvP at *
    rw [List.map_cons, List.find?_cons, List.find?_cons, keq_pr]
    cases q : decide (e.1 = k) with
    | true => rfl
    | false => exact ih
theorem any_kvP (l : PL) (k : Nat × Nat) : ((kvP l).any fun kv => keq kv.1 (prD k)) = l.any fun e => decide (e.1 = k) := by
  unfold kvP
  rw [List.any_map]
  congr 1
  funext e
  exact keq_pr e.1 k
theorem dPut_kvP (l : PL) (k : Nat × Nat) (v : Int) : dPut (kvP l) (prD k) (.int v) = kvP (putL l k v) := by
  unfold dPut putL
  rw [any_kvP]
  split
  · unfold kvP
    rw [List.map_map, List.map_map]
    refine List.map_congr_left fun e _ => ?_
    show (if keq (prD e.1) (prD k) = true then (prD e.1, PyData.int v) else (prD e.1, .int e.2)) = _
    rw [keq_pr]
    by_cases q : e.1 = k
    · simp [q]
    · simp [q]
  · unfold kvP
    rw [List.map_append]
    rfl
theorem mem_putL {l : PL} {k : Nat × Nat} {v : Int} {e : (Nat × Nat) × Int} (h : e ∈ putL l k v) : e ∈ l ∨ e = (k, v) := by
  unfold putL at h
  split at h
  · obtain ⟨x, hx, rfl⟩ := List.mem_map.mp h
    by_cases q : x.1 = k
    · rw [if_pos q, q]
      exact .inr rfl
    · rw [if_neg q]
      exact .inl hx
  · rcases List.mem_append.mp h with z | z
    · exact .inl z
    · exact .inr (List.mem_singleton.mp z)
theorem len_putL (l : PL) (k : Nat × Nat) (v : Int) : (putL l k v).length ≤ l.length + 1 := by
  unfold putL
  split
  · rw [List.length_map]
    omega
  · simp
theorem keys_putL {l : PL} (k : Nat × Nat) (v : Int) (h : (l.map (·.1)).Nodup) : ((putL l k v).map (·.1)).Nodup := by
  unfold putL
  split
  · rw [List.map_map]
    have e : ((fun x : (Nat × Nat) × Int => x.1) ∘ fun e => if e.1 = k then (e.1, v) else e) = fun x => x.1 := funext fun e => by
      show (if e.1 = k then (e.1, v) else e).1 = e.1
      split <;> rfl
    rw [e]
    exact h
  · rename_i q
    rw [List.map_append, List.nodup_append]
    refine ⟨h, by simp, fun a ha b hb e => q ?_⟩
    obtain ⟨x, hx, rfl⟩ := List.mem_map.mp ha
    have hb : b = k := by simpa using hb
    exact List.any_eq_true.mpr ⟨x, hx, by simp [e, hb]⟩
theorem getL_put : ∀ (l : PL) (k : Nat × Nat) (v : Int) (j : Nat × Nat), getL (putL l k v) j = if j = k then some v else getL l j := by
  intro l k v j
  unfold putL
  split
  · rename_i q
    induction l with
    | nil => simp at q
    | cons e l ih =>
      unfold getL at *
      rw [List.map_cons, List.find?_cons, List.find?_cons]
      by_cases h1 : e.1 = k
      · by_cases h2 : j = k
        · simp [h1, h2]
        · have h3 : ¬ k = j := fun z => h2 z.symm
          simp only [h1, if_true, h3, decide_false, if_neg h2]
          by_cases q2 : (l.any fun e => decide (e.1 = k)) = true
          · have := ih q2
            rw [if_neg h2] at this
            exact this
          · have : l.map (fun e => if e.1 = k then (e.1, v) else e) = l := by
              refine (List.map_congr_left fun x hx => ?_).trans (List.map_id l)
              rw [if_neg fun z => q2 (List.any_eq_true.mpr ⟨x, hx, by simp [z]⟩)]
              rfl
            rw [this]
      · have q2 : (l.any fun e => decide (e.1 = k)) = true := by
          rw [List.any_cons] at q
          simpa [h1] using q
        rw [if_neg h1]
        by_cases h2 : e.1 = j
        · have h3 : ¬ j = k := fun z => h1 (h2.trans z)
          simp [h2, h3]
        · simp only [h2, decide_false]
          exact ih q2
  · rename_i q
    unfold getL
    rw [List.find?_append]
    by_cases h2 : j = k
    · subst h2
      have : (l.find? fun e => decide (e.1 = j)) = none := by
        rw [List.find?_eq_none]
        intro x hx z
        exact q (List.any_eq_true.mpr ⟨x, hx, z⟩)
      rw [this]
      simp
    · have h3 : ¬ k = j := fun z => h2 z.symm
      rw [if_neg h2]
      simp [h3]
theorem putT_kv {l : PL} {j k : Nat} {v : Int} (hl : l.length < 1000) : putT (kvP l) [.int j, .int k] (.int v) = some (kvP (putL l (j, k) v)) := by
  unfold putT
  rw [if_pos ⟨rfl, by unfold kvP; rw [List.length_map]; show l.length < 1000000; omega, by show 2 ≤ 1000000; omega⟩]
  exact congrArg some (dPut_kvP l (j, k) v)
theorem putO_kv {l : PL} {p : Nat × Nat} {v : Int} (hl : l.length < 1000) : putO (.dct true (kvP l)) (prD p) (.int v) = some (.dct true (kvP (putL l p v))) := by
  have e : putO (.dct true (kvP l)) (prD p) (.int v) = if (asKs [.int (p.1 : Int), .int (p.2 : Int)]).isSome = true ∧ allD [.int (p.1 : Int), .int (p.2 : Int)] = true ∧ (kvP l).length < lim then some (.dct true (dPut (kvP l) (prD p) (.int v))) else none := rfl
  rw [e, if_pos ⟨rfl, rfl, by unfold kvP; rw [List.length_map]; show l.length < 1000000; omega⟩, dPut_kvP]
theorem ix_kv {l : PL} {p : Nat × Nat} {v : Int} (h : getL l p = some v) : ixD (.dict (kvP l)) (prD p) = some (.val (.int v)) := by
  cases l with
  | nil => cases h
  | cons e l =>
    have e1 : ixD (.dict (kvP (e :: l))) (prD p) = if keyOk (kvP (e :: l)) (prD p) = true then (dGet (kvP (e :: l)) (prD p)).map RD.val else none := rfl
    have k : keyOk (kvP (e :: l)) (prD p) = true := rfl
    rw [e1, if_pos k, dGet_kvP, h]
    rfl
/-- numbers for some pairs of places in order, from 1 to B -/
structure TP (n : Nat) (B : Int) (D : Nat → Nat → Prop) (c : Nat) (l : PL) : Prop where
  has : ∀ j k, j < k → k < n → D j k → ∃ v, getL l (j, k) = some v
  mem : ∀ e ∈ l, e.1.1 < e.1.2 ∧ e.1.2 < n ∧ 1 ≤ e.2 ∧ e.2 ≤ B
  nd : (l.map (·.1)).Nodup
  len : l.length ≤ c
theorem mem_getL {l : PL} {p : Nat × Nat} {v : Int} (h : getL l p = some v) : (p, v) ∈ l := by
  unfold getL at h
  cases q : l.find? fun e => decide (e.1 = p) with
  | none => rw [q] at h; cases h
  | some e =>
    rw [q] at h
    have h : some e.2 = some v := h
    have a := List.find?_some q
    have b := List.mem_of_find?_eq_some q
    have a : e.1 = p := by simpa using a
    have h : e.2 = v := Option.some.inj h
    rw [← a, ← h]
    exact b
theorem getL_mem : ∀ {l : PL} (nd : (l.map (·.1)).Nodup) {e : (Nat × Nat) × Int}, e ∈ l → getL l e.1 = some e.2
  | x :: l, nd, e, h => by
    rw [List.map_cons, List.nodup_cons] at nd
    unfold getL
    rw [List.find?_cons]
    rcases List.mem_cons.mp h with rfl | h
    · simp
    · have ne : x.1 ≠ e.1 := fun z => nd.1 (List.mem_map.mpr ⟨e, h, z.symm⟩)
      have z := getL_mem nd.2 h
      unfold getL at z
      simp [ne]
      simpa using z
theorem TP.put {n : Nat} {B : Int} {D D' : Nat → Nat → Prop} {c : Nat} {l : PL} {j k : Nat} {v : Int} (h : TP n B D c l) (hjk : j < k) (hk : k < n) (h1 : 1 ≤ v) (h2 : v ≤ B) (hD : ∀ a b, D' a b → D a b ∨ (a = j ∧ b = k)) : TP n B D' (c + 1) (putL l (j, k) v) where
  has a b hab hb hd := by
    rw [getL_put]
    by_cases q : (a, b) = (j, k)
    · rw [if_pos q]
      exact ⟨v, rfl⟩
    · rw [if_neg q]
      rcases hD a b hd with z | ⟨z1, z2⟩
      · exact h.has a b hab hb z
      · exact absurd (by rw [z1, z2]) q
  mem e he := by
    rcases mem_putL he with z | z
    · exact h.mem e z
    · subst z
      exact ⟨hjk, hk, h1, h2⟩
  nd := keys_putL _ _ h.nd
  len := Nat.le_trans (len_putL _ _ _) (Nat.succ_le_succ h.len)
theorem TP.start {n : Nat} {B : Int} : TP n B (fun _ _ => False) 0 [] := ⟨fun _ _ _ _ z => z.elim, fun _ z => (by cases z), List.nodup_nil, Nat.le_refl _⟩
theorem TP.sub {n : Nat} {B : Int} {D D' : Nat → Nat → Prop} {c c' : Nat} {l : PL} (h : TP n B D c l) (hD : ∀ a b, a < b → b < n → D' a b → D a b) (hc : c ≤ c') : TP n B D' c' l := ⟨fun j k a b d => h.has j k a b (hD j k a b d), h.mem, h.nd, Nat.le_trans h.len hc⟩
/-- the numbers of a table of n names: for each pair of places in order, from 1 to B -/
abbrev TB (n : Nat) (B : Int) (l : PL) : Prop := TP n B (fun _ _ => True) 200 l
theorem TP.get {n : Nat} {B : Int} {D : Nat → Nat → Prop} {c : Nat} {l : PL} (h : TP n B D c l) {j k : Nat} (hjk : j < k) (hk : k < n) (hd : D j k) : ∃ v, getL l (j, k) = some v ∧ 1 ≤ v ∧ v ≤ B := by
  obtain ⟨v, e⟩ := h.has j k hjk hk hd
  obtain ⟨_, _, h1, h2⟩ := h.mem _ (mem_getL e)
  exact ⟨v, e, h1, h2⟩
abbrev BB : Int := 100000000000000000000000000000000000000000000000000000000000000
end Law
namespace Law
open PySem PySem.Spec PyProof.Rows L2 PySem.W Pv Mr
abbrev nI (n : Nat) : PyData := .int n
theorem lrg1_nat {n : Nat} (h : n < 1000000) : lrg1 (.int n) = some ((List.range n).map nI) := by
  have e : lrg1 (.int n) = if -1000000 ≤ (n : Int) ∧ (n : Int) < 1000000 then some (rngD 0 (n : Int).toNat) else none := rfl
  rw [e, if_pos ⟨by omega, by omega⟩, Int.toNat_natCast, rngD0]
theorem ok_ints (ls : List Nat) : okD (.list (ls.map nI)) = true := by
  unfold okD
  rw [Bool.and_eq_true]
  have h1 : ∀ ls : List Nat, noDs (ls.map nI) = true := fun ls => by
    induction ls with
    | nil => rfl
    | cons a l ih => rw [List.map_cons, noDs, ih]; rfl
  have h2 : ∀ ls : List Nat, PyData.depthAll (ls.map nI) = 0 := fun ls => by
    induction ls with
    | nil => rfl
    | cons a l ih => rw [List.map_cons, PyData.depthAll, ih]; rfl
  exact ⟨h1 ls, by rw [PyData.depth, h2]; rfl⟩
theorem ne_nil (xs : List Nat) : neA (.list (xs.map nI)) (.list []) = some (.val (.bool (!decide (xs = [])))) := by
  rw [neA_ok (ok_ints xs) rfl]
  cases xs <;> rfl
theorem erase_map {α β : Type} (f : α → β) : ∀ (l : List α) (i : Nat), (l.map f).eraseIdx i = (l.eraseIdx i).map f
  | [], _ => rfl
  | _ :: _, 0 => rfl
  | a :: l, i + 1 => congrArg (f a :: ·) (erase_map f l i)
theorem erase_perm {α : Type} : ∀ (l : List α) (i : Nat) (h : i < l.length), (l[i] :: l.eraseIdx i).Perm l
  | _ :: _, 0, _ => List.Perm.refl _
  | a :: l, i + 1, h => (List.Perm.swap a (l[i]'(Nat.lt_of_succ_lt_succ h)) (l.eraseIdx i)).trans ((erase_perm l i (Nat.lt_of_succ_lt_succ h)).cons a)
theorem sort_two (a b : Nat) : sortedA [.list [nI a, nI b]] = some (.own (.lst [nI (min a b), nI (max a b)])) := by
  have e1 : sortedD1 [.list [nI a, nI b]] = if sortOk [nI a, nI b] = true then some (.own (.lst (sortD [nI a, nI b]))) else none := rfl
  have ok : sortOk [nI a, nI b] = true := by
    unfold sortOk alikes
    simp [nI, alike, plnE, okD, noD, PyData.depth]
    decide
  have le : ∀ x y : Nat, dataLe false id (nI x) (nI y) = decide (x ≤ y) := fun x y => by
    show (!dataLt (nI y) (nI x)) = _
    unfold nI
    rw [dataLt_int, Bool.eq_iff_iff]
    simp
  have s : sortD [nI a, nI b] = [nI (min a b), nI (max a b)] := by
    unfold sortD
    by_cases q : a ≤ b
    · rw [Nat.min_eq_left q, Nat.max_eq_right q]
      refine List.mergeSort_of_pairwise ?_
      refine List.pairwise_cons.mpr ⟨fun y hy => ?_, List.pairwise_singleton _ _⟩
      rw [List.mem_singleton.mp hy, le]
      simpa using q
    · rw [Nat.min_eq_right (by omega), Nat.max_eq_left (by omega)]
      have p := sortD_pw [nI a, nI b]
      have pm : (sortD [nI a, nI b]).Perm [nI a, nI b] := List.mergeSort_perm _ _
      unfold sortD at p pm
      generalize List.mergeSort [nI a, nI b] (dataLe false id) = l at p pm
      have hl := pm.length_eq
      match l, hl with
      | [x, y], _ =>
        have h1 : x ∈ [nI a, nI b] := pm.mem_iff.mp (by simp)
        have h2 : y ∈ [nI a, nI b] := pm.mem_iff.mp (by simp)
        have h3 : nI a ∈ [x, y] := pm.mem_iff.mpr (by simp)
        have h4 : nI b ∈ [x, y] := pm.mem_iff.mpr (by simp)
        have p1 := (List.pairwise_cons.mp p).1 y (by simp)
        simp only [List.mem_cons, List.not_mem_nil, or_false] at h1 h2 h3 h4
        rcases h1 with rfl | rfl <;> rcases h2 with rfl | rfl
        · rcases h4 with z | z <;> (unfold nI at z; injection z with z; omega)
        · rw [le] at p1
          simp at p1
          omega
        · rfl
        · rcases h3 with z | z <;> (unfold nI at z; injection z with z; omega)
  unfold sortedA
  rw [e1, if_pos ok, s]
theorem asIs_map : ∀ vs : List Int, asIs (vs.map PyData.int) = some vs
  | [] => rfl
  | v :: vs => by
    show (asIs (vs.map PyData.int)).map (v :: ·) = _
    rw [asIs_map vs]
    rfl
theorem foldl_max : ∀ (vs : List Int) (v : Int), (∀ x ∈ v :: vs, x ≤ vs.foldl max v) ∧ vs.foldl max v ∈ v :: vs
  | [], v => by simp
  | a :: vs, v => by
    obtain ⟨h1, h2⟩ := foldl_max vs (max v a)
    have h0 : max v a ≤ vs.foldl max (max v a) := h1 _ List.mem_cons_self
    refine ⟨fun x hx => ?_, ?_⟩
    · rw [List.foldl_cons]
      rcases List.mem_cons.mp hx with rfl | hx
      · omega
      · rcases List.mem_cons.mp hx with rfl | hx
        · omega
        · exact h1 x (List.mem_cons_of_mem _ hx)
    · rw [List.foldl_cons]
      rcases List.mem_cons.mp h2 with e | e
      · rw [e]
        rcases Int.le_total v a with z | z
        · rw [Int.max_eq_right z]; simp
        · rw [Int.max_eq_left z]; simp
      · exact List.mem_cons_of_mem _ (List.mem_cons_of_mem _ e)
theorem foldl_min : ∀ (vs : List Int) (v : Int), (∀ x ∈ v :: vs, vs.foldl min v ≤ x) ∧ vs.foldl min v ∈ v :: vs
  | [], v => by simp
  | a :: vs, v => by
    obtain ⟨h1, h2⟩ := foldl_min vs (min v a)
    have h0 : vs.foldl min (min v a) ≤ min v a := h1 _ List.mem_cons_self
    refine ⟨fun x hx => ?_, ?_⟩
    · rw [List.foldl_cons]
      rcases List.mem_cons.mp hx with rfl | hx
      · omega
      · rcases List.mem_cons.mp hx with rfl | hx
        · omega
        · exact h1 x (List.mem_cons_of_mem _ hx)
    · rw [List.foldl_cons]
      rcases List.mem_cons.mp h2 with e | e
      · rw [e]
        rcases Int.le_total v a with z | z
        · rw [Int.min_eq_left z]; simp
        · rw [Int.min_eq_right z]; simp
      · exact List.mem_cons_of_mem _ (List.mem_cons_of_mem _ e)
theorem max_list {vs : List Int} (h : vs ≠ []) : ∃ m, m ∈ vs ∧ (∀ v ∈ vs, v ≤ m) ∧ maxD1 [.list (vs.map PyData.int)] = some (.val (.int m)) := by
  cases vs with
  | nil => exact absurd rfl h
  | cons v vs =>
    refine ⟨vs.foldl max v, (foldl_max vs v).2, (foldl_max vs v).1, ?_⟩
    have e : maxD1 [.list ((v :: vs).map PyData.int)] = match asIs ((v :: vs).map PyData.int) with
      | some ns => (maxI ns).map fun m => RD.val (.int m)
      | none => none := rfl
    rw [e, asIs_map]
    rfl
theorem min_list {vs : List Int} (h : vs ≠ []) : ∃ m, m ∈ vs ∧ (∀ v ∈ vs, m ≤ v) ∧ minD1 [.list (vs.map PyData.int)] = some (.val (.int m)) := by
  cases vs with
  | nil => exact absurd rfl h
  | cons v vs =>
    refine ⟨vs.foldl min v, (foldl_min vs v).2, (foldl_min vs v).1, ?_⟩
    have e : minD1 [.list ((v :: vs).map PyData.int)] = match asIs ((v :: vs).map PyData.int) with
      | some ns => (minI ns).map fun m => RD.val (.int m)
      | none => none := rfl
    rw [e, asIs_map]
    rfl
theorem slL_nat {xs : List PyData} {p q : Nat} (hp : p ≤ q) (hq : q ≤ xs.length) : slD (.list xs) (some p) (some q) = some (.own (.lst ((xs.drop p).take (q - p)))) := by
  have e2 : slD (.list xs) (some p) (some q) = some (.own (.lst (Pv.cutD xs (some p) (some q)))) := rfl
  rw [e2]
  unfold Pv.cutD
  rw [HT.sIx_nat, HT.sIx_nat, Nat.min_eq_left hq, Nat.min_eq_left (by omega)]
end Law
namespace Mr
open PySem PySem.Spec PyProof.Rows L2 PySem.W Pv
theorem compP_maps {α β γ : Type} {f : α → Y (Option β)} {h : γ → α} (g : γ → Option β) {l : List γ} (hl : l.length ≤ lim) (hf : ∀ e ∈ l, f (h e) = okY (g e)) : compP (l.map h) f = some (l.filterMap g) := by
  have e : compL f (l.map h) = some (l.filterMap g) := by
    clear hl
    induction l with
    | nil => rfl
    | cons x l ih =>
      have e : compL f ((x :: l).map h) = match f (h x) with
        | some (.ok o) => (compL f (l.map h)).map fun ys => optL o ++ ys
        | _ => none := rfl
      rw [e, hf x List.mem_cons_self, ih fun y hy => hf y (List.mem_cons_of_mem _ hy)]
      show some (optL (g x) ++ _) = _
      rw [List.filterMap_cons]
      cases g x <;> rfl
  unfold compP
  rw [if_pos (by simpa using hl), e]
end Mr
namespace Law
open PySem PySem.Spec PyProof.Rows L2 PySem.W Pv Mr
theorem raw_kvP (l : PL) : isRaw (kvP l) = false := by
  cases l with
  | nil => rfl
  | cons e l => rfl
@[simp] theorem kvD_kvP (l : PL) : Mr.kvD (.dict (kvP l)) = some (kvP l) := by
  show (if isRaw (kvP l) = true then none else some (kvP l)) = _
  rw [raw_kvP]
  rfl
theorem keys_kvP (l : PL) : keysD (kvP l) = l.map fun e => prD e.1 := by
  unfold keysD kvP
  rw [List.map_map]
  rfl
theorem len_kvP (l : PL) : lenD [.dict (kvP l)] = some (.val (.int l.length)) := by
  cases l with
  | nil => rfl
  | cons e l =>
    show (if isRaw (kvP (e :: l)) = true then none else some (RD.val (.int (kvP (e :: l)).length))) = _
    rw [raw_kvP]
    unfold kvP
    simp
theorem in_pr (one : Nat) (p : Nat × Nat) : inD false (.int one) (prD p) = some (.val (.bool (decide (p.1 = one ∨ p.2 = one)))) := by
  have b : ∀ a : Nat, ((a : Int) == (one : Int)) = decide (a = one) := fun a => by
    rw [Bool.eq_iff_iff]
    simp
    omega
  unfold inD prD
  simp [okD, noD, noDs, PyData.depth, PyData.eqv, b]
/-- the pairs of a dict, put into a new one -/
def prs (l : PL) : List PyData := l.map fun e => .tuple [prD e.1, .int e.2]
theorem asPr_prs : ∀ l : PL, asPr (prs l) = some (l.map fun e => ([.inl (e.1.1 : Int), .inl (e.1.2 : Int)], PyData.int e.2))
  | [] => rfl
  | e :: l => by
    have z : asPr (prs (e :: l)) = match some [Sum.inl (e.1.1 : Int), Sum.inl (e.1.2 : Int)], asPr (prs l) with
      | some k, some r => some ((k, PyData.int e.2) :: r)
      | _, _ => none := rfl
    rw [z, asPr_prs l]
    rfl
theorem putAll_prs : ∀ (l k : PL), putAll (kvP k) (l.map fun e => ([.inl (e.1.1 : Int), .inl (e.1.2 : Int)], PyData.int e.2)) = kvP (l.foldl (fun k e => putL k e.1 e.2) k)
  | [], _ => rfl
  | e :: l, k => by
    rw [List.map_cons, List.foldl_cons]
    have z := dPut_kvP k e.1 e.2
    rw [← putAll_prs l (putL k e.1 e.2), ← z]
    rfl
theorem foldl_put : ∀ (l k : PL), (∀ e ∈ l, ∀ f ∈ k, f.1 ≠ e.1) → (l.map (·.1)).Nodup → l.foldl (fun k e => putL k e.1 e.2) k = k ++ l
  | [], k, _, _ => by simp
  | e :: l, k, h, nd => by
    rw [List.foldl_cons]
    have z : putL k e.1 e.2 = k ++ [e] := by
      unfold putL
      rw [if_neg fun y => ?_]
      obtain ⟨f, hf, hy⟩ := List.any_eq_true.mp y
      exact h e List.mem_cons_self f hf (by simpa using hy)
    rw [List.map_cons, List.nodup_cons] at nd
    rw [z, foldl_put l (k ++ [e]) (fun x hx f hf => ?_) nd.2, List.append_assoc]
    · rfl
    · rcases List.mem_append.mp hf with y | y
      · exact h x (List.mem_cons_of_mem _ hx) f y
      · rw [List.mem_singleton.mp y]
        exact fun w => nd.1 (List.mem_map.mpr ⟨x, hx, w.symm⟩)
theorem dict_prs {l : PL} (nd : (l.map (·.1)).Nodup) (hl : l.length < 1000) : dictA [.list (prs l)] = some (.own (.dct true (kvP l))) := by
  have z : dictT [.list (prs l)] = match asPr (prs l) with
    | some ps => if (prs l).length ≤ lim then some (.own (.dct true (putAll [] ps))) else none
    | none => none := rfl
  have h : (prs l).length ≤ lim := by
    unfold prs
    rw [List.length_map]
    show l.length ≤ 1000000
    omega
  have p := putAll_prs l []
  rw [foldl_put l [] (fun _ _ _ w => by cases w) nd] at p
  unfold dictA
  rw [z, asPr_prs]
  simp only [if_pos h]
  have e : putAll [] (l.map fun e => ([Sum.inl (e.1.1 : Int), Sum.inl (e.1.2 : Int)], PyData.int e.2)) = kvP l := p
  rw [e]
theorem fm_one (one : Nat) (t : PL) : (t.filterMap fun e : (Nat × Nat) × Int => if e.1.1 = one ∨ e.1.2 = one then some (PyData.int e.2) else none) = ((t.filter fun e => decide (e.1.1 = one ∨ e.1.2 = one)).map (·.2)).map PyData.int := by
  induction t with
  | nil => rfl
  | cons x t ih =>
    rw [List.filterMap_cons, List.filter_cons, ih]
    by_cases q : x.1.1 = one ∨ x.1.2 = one
    · simp [q]
    · simp [q]
abbrev B1 : Int := 200000000000000000000000000000000000000000000000000000000000000
theorem ix_ints {ws : List Int} {i : Nat} (h : i < ws.length) : ixD (.list (ws.map PyData.int)) (.int i) = some (.val (.int (ws.getD i 0))) := ixLn (by rw [List.getElem?_map, List.getElem?_eq_getElem h, List.getD_eq_getElem?_getD, List.getElem?_eq_getElem h]; rfl)
end Law
namespace Law
open PySem PySem.Spec PyProof.Rows L2 PySem.W Pv Mr
abbrev B2 : Int := 800000000000000000000000000000000000000000000000000000000000000
theorem eq_empty (t : PL) : eqA (.dict (kvP t)) (.dict []) = some (.val (.bool t.isEmpty)) := by
  have h : cmpD cY PyData.eqv (.dict (kvP t)) (.dict []) = none := by
    unfold cmpD
    rw [if_neg]
    rintro ⟨_, h, _⟩
    cases h
  unfold eqA
  rw [h]
  show (if isRaw (kvP t) = true then none else some (RD.val (.bool (false ^^ (kvP t).isEmpty)))) = _
  rw [raw_kvP]
  cases t <;> rfl
theorem hash_ne : ∀ (a b c d : Fin 12), hashI [(a.val : Int), (b.val : Int)] = hashI [(c.val : Int), (d.val : Int)] → a = c ∧ b = d := by decide +kernel
theorem intKeys_kvP (t : PL) : intKeys (kvP t) = true := by
  unfold intKeys kvP
  rw [List.all_map, List.all_eq_true]
  intro e _
  rfl
theorem copy_kvP {n : Nat} {B : Int} {t : PL} (ht : TB n B t) (hn : n ≤ 12) (h0 : t ≠ []) : dictA [.dict (kvP t)] = some (.own (.dct true (kvP t))) := by
  have z : dictA [.dict (kvP t)] = if kvP t ≠ [] ∧ intKeys (kvP t) = true ∧ ((kvP t).map fun kv => hashI' kv.1).Nodup then some (.own (.dct true (kvP t))) else none := rfl
  rw [z, if_pos]
  refine ⟨fun z => h0 (by simpa [kvP] using z), intKeys_kvP t, ?_⟩
  have e : ((kvP t).map fun kv => hashI' kv.1) = (t.map (·.1)).map fun p => hashI [(p.1 : Int), (p.2 : Int)] := by
    unfold kvP
    rw [List.map_map, List.map_map]
    rfl
  rw [e]
  refine List.pairwise_map.mpr (List.Pairwise.imp_of_mem (fun {a b} ha hb ne e => ne ?_) ht.nd)
  obtain ⟨x, hx, rfl⟩ := List.mem_map.mp ha
  obtain ⟨y, hy, rfl⟩ := List.mem_map.mp hb
  obtain ⟨a1, a2, _⟩ := ht.mem x hx
  obtain ⟨b1, b2, _⟩ := ht.mem y hy
  obtain ⟨z1, z2⟩ := hash_ne ⟨x.1.1, by omega⟩ ⟨x.1.2, by omega⟩ ⟨y.1.1, by omega⟩ ⟨y.1.2, by omega⟩ e
  exact Prod.ext (congrArg Fin.val z1) (congrArg Fin.val z2)
theorem sorted_keys {t : PL} (h0 : t ≠ []) (hl : t.length < 1000) : ∃ us : List (Nat × Nat), us.Perm (t.map (·.1)) ∧ sortedA [.dict (kvP t)] = some (.own (.lst (us.map prD))) := by
  have keys : (kvP t).map (·.1) = (t.map (·.1)).map prD := by
    unfold kvP
    rw [List.map_map, List.map_map]
    rfl
  have ok : sortOk ((kvP t).map (·.1)) = true := by
    rw [keys]
    unfold sortOk
    simp only [Bool.and_eq_true, Bool.or_eq_true, decide_eq_true_eq]
    refine ⟨⟨⟨?_, .inl ?_⟩, ?_⟩, by rw [List.length_map, List.length_map]; show t.length ≤ 1000000; omega⟩
    · unfold alikes
      simp [prD, alike, alikeAll]
    · simp [prD, tupE]
    · simp [prD, okD, noD, noDs, PyData.depth, PyData.depthAll]
  have z : sortedA [.dict (kvP t)] = if kvP t ≠ [] ∧ intKeys (kvP t) = true ∧ sortOk ((kvP t).map (·.1)) = true then some (.own (.lst (sortD ((kvP t).map (·.1))))) else none := rfl
  have p : (sortD ((kvP t).map (·.1))).Perm ((kvP t).map (·.1)) := List.mergeSort_perm _ _
  rw [z, if_pos ⟨fun z => h0 (by simpa [kvP] using z), intKeys_kvP t, ok⟩]
  rw [keys] at p ⊢
  have : ∀ xs : List PyData, (∀ x ∈ xs, ∃ l, x = prD l) → ∃ ms : List (Nat × Nat), xs = ms.map prD := fun xs h => by
    induction xs with
    | nil => exact ⟨[], rfl⟩
    | cons x xs ih =>
      obtain ⟨l, rfl⟩ := h x List.mem_cons_self
      obtain ⟨ms, rfl⟩ := ih fun y hy => h y (List.mem_cons_of_mem _ hy)
      exact ⟨l :: ms, rfl⟩
  obtain ⟨us, hus⟩ := this (sortD ((t.map (·.1)).map prD)) fun x hx => by
    obtain ⟨l, _, rfl⟩ := List.mem_map.mp (p.mem_iff.mp hx)
    exact ⟨l, rfl⟩
  refine ⟨us, ?_, by rw [hus]⟩
  rw [hus] at p
  have hd : ∀ q : Nat × Nat, (fun d : PyData => match d with
    | .tuple [.int a, .int b] => (a.toNat, b.toNat)
    | _ => (0, 0)) (prD q) = q := fun q => by
    show ((q.1 : Int).toNat, (q.2 : Int).toNat) = q
    simp
  have z := p.map (fun d : PyData => match d with
    | .tuple [.int a, .int b] => (a.toNat, b.toNat)
    | _ => (0, 0))
  rw [List.map_map, List.map_map] at z
  have hid : ((fun d : PyData => match d with
    | .tuple [.int a, .int b] => (a.toNat, b.toNat)
    | _ => (0, 0)) ∘ prD) = id := funext fun q => hd q
  rw [hid, List.map_id, List.map_id] at z
  exact z
/-! tables -/
def rowD (r : List Int) : PyData := .tuple (r.map PyData.int)
def tabD (ls : List (List Nat)) (rs : List (List Int)) : PyData := .tuple [hp ls, .tuple (rs.map rowD)]
structure IsTab (B : Int) (ls : List (List Nat)) (rs : List (List Int)) : Prop where
  hn : HN ls
  len : rs.length = ls.length
  row : ∀ k (h : k < rs.length), rs[k].length = k ∧ ∀ v ∈ rs[k], 1 ≤ v ∧ v ≤ B
def rowsOf (n : Nat) (t : PL) : List (List Int) := (List.range n).map fun k => (List.range k).map fun j => (getL t (j, k)).getD 0
theorem len_hp (ls : List (List Nat)) : lenD [hp ls] = some (.val (.int ls.length)) := by
  show some (RD.val (.int (ls.map nm).length)) = _
  rw [List.length_map]
theorem made_tab {ls : List (List Nat)} {n : Nat} {B : Int} {t : PL} (hl : ls.length = n) (h : HN ls) (ht : TB n B t) : IsTab B ls (rowsOf n t) := by
  refine ⟨h, by unfold rowsOf; simp [hl], fun k hk => ?_⟩
  have hk : k < n := by
    unfold rowsOf at hk
    simpa using hk
  have e : (rowsOf n t)[k]'(by unfold rowsOf; simpa using hk) = (List.range k).map fun j => (getL t (j, k)).getD 0 := by
    unfold rowsOf
    simp
  rw [e]
  refine ⟨by simp, fun v hv => ?_⟩
  obtain ⟨j, hj, rfl⟩ := List.mem_map.mp hv
  obtain ⟨v, e, h1, h2⟩ := ht.get (List.mem_range.mp hj) hk trivial
  rw [e]
  exact ⟨h1, h2⟩
theorem TP.up {n : Nat} {B B' : Int} {D : Nat → Nat → Prop} {c : Nat} {t : PL} (h : TP n B D c t) (hb : B ≤ B') : TP n B' D c t := ⟨h.has, fun e he => let ⟨a, b, c, d⟩ := h.mem e he; ⟨a, b, c, Int.le_trans d hb⟩, h.nd, h.len⟩
end Law
namespace Law
open PySem PySem.Spec PyProof.Rows L2 PySem.W Pv Mr
/-! ### names, heaps, tables: of anything -/
def letB (c : Nat) : Bool := decide (97 ≤ c ∧ c ≤ 122)
def nameB : PyData → Bool
  | .str s => decide (1 ≤ s.length) && decide (s.length ≤ 6) && s.cps.toList.all letB
  | _ => false
/-- plain data: no long texts, nothing of our own making -/
def good : PyData → Bool
  | .str s => decide (s.length ≤ lim)
  | .list xs => goods xs
  | .tuple xs => goods xs
  | .dict kvs => !isRaw kvs
  | _ => true
where goods : List PyData → Bool
  | [] => true
  | x :: xs => good x && goods xs
theorem goods_mem : ∀ {xs : List PyData}, good.goods xs = true → ∀ x ∈ xs, good x = true
  | x :: xs, h, y, hy => by
    rw [good.goods, Bool.and_eq_true] at h
    rcases List.mem_cons.mp hy with rfl | hy
    · exact h.1
    · exact goods_mem h.2 y hy
theorem goods_of : ∀ {xs : List PyData}, (∀ x ∈ xs, good x = true) → good.goods xs = true
  | [], _ => rfl
  | x :: xs, h => by
    rw [good.goods, h x List.mem_cons_self, goods_of fun y hy => h y (List.mem_cons_of_mem _ hy)]
    rfl
theorem let_in : ∀ c : Nat, letters.cps.contains c = letB c := fun c => by
  have e : letters.cps = #[97, 98, 99, 100, 101, 102, 103, 104, 105, 106, 107, 108, 109, 110, 111, 112, 113, 114, 115, 116, 117, 118, 119, 120, 121, 122] := by decide +kernel
  rw [e, Bool.eq_iff_iff]
  unfold letB
  simp
  omega
theorem all_tw {p : Nat → Bool} : ∀ l : List Nat, l.all p = true → l.takeWhile p = l
  | [], _ => rfl
  | a :: l, h => by
    rw [List.all_cons, Bool.and_eq_true] at h
    rw [List.takeWhile_cons, h.1, if_pos rfl, all_tw l h.2]
theorem tw_lt {p : Nat → Bool} : ∀ l : List Nat, l.all p ≠ true → (l.takeWhile p).length < l.length
  | [], h => absurd rfl h
  | a :: l, h => by
    rw [List.takeWhile_cons]
    cases q : p a with
    | false => simp
    | true =>
      have : l.all p ≠ true := fun z => h (by rw [List.all_cons, q, z]; rfl)
      have := tw_lt l this
      simp
      omega
theorem drop_tw {p : Nat → Bool} : ∀ l : List Nat, l.all p ≠ true → (l.drop (l.takeWhile p).length).all p ≠ true
  | [], h => absurd rfl h
  | a :: l, h => by
    rw [List.takeWhile_cons]
    cases q : p a with
    | false => simpa [q] using h
    | true =>
      have : l.all p ≠ true := fun z => h (by rw [List.all_cons, q, z]; rfl)
      simpa using drop_tw l this
theorem strip_iff (s c : Str) : Txt.stripChars s c = ("" : Str) ↔ s.cps.toList.all c.cps.contains = true := by
  have emp : ∀ x : Str, x = ("" : Str) ↔ x.length = 0 := fun x => by
    constructor
    · rintro rfl
      rfl
    · intro h
      obtain ⟨a⟩ := x
      have : a = #[] := Array.eq_empty_of_size_eq_zero h
      subst this
      decide +kernel
  rw [emp]
  unfold Txt.stripChars Txt.stripBy
  obtain ⟨p, hp⟩ : ∃ p : Nat → Bool, p = c.cps.contains := ⟨_, rfl⟩
  rw [← hp]
  have len : s.length = s.cps.toList.length := by simp [Str.length]
  by_cases h : s.cps.toList.all p = true
  · have lo : stripLo p true s = s.length := by
      unfold stripLo
      rw [if_pos rfl, all_tw _ h, len]
    have hi : stripHi p true s s.length = s.length := by
      unfold stripHi
      rw [if_pos rfl, len, List.drop_length]
      rfl
    simp only [h, iff_true]
    split
    · rename_i q
      unfold stripSame at q
      rw [lo, Bool.and_eq_true] at q
      simpa using q.1
    · unfold PySem.stripped Builtin.Str.strSub
      rw [lo, hi]
      simp [Str.length]
  · have h1 := tw_lt _ h
    have h2 := drop_tw _ h
    have lo : stripLo p true s = (s.cps.toList.takeWhile p).length := by
      unfold stripLo
      rw [if_pos rfl]
    have h3 : ((s.cps.toList.drop (s.cps.toList.takeWhile p).length).reverse.takeWhile p).length < (s.cps.toList.drop (s.cps.toList.takeWhile p).length).reverse.length := tw_lt _ (by rw [List.all_reverse]; exact h2)
    rw [List.length_reverse, List.length_drop] at h3
    have hi : stripHi p true s (stripLo p true s) = s.length - ((s.cps.toList.drop (s.cps.toList.takeWhile p).length).reverse.takeWhile p).length := by
      unfold stripHi
      rw [if_pos rfl, lo]
    refine iff_of_false ?_ h
    split
    · rw [len]
      omega
    · unfold PySem.stripped Builtin.Str.strSub
      rw [hi, lo]
      have : s.cps.size = s.cps.toList.length := by simp
      simp only [Str.length, Array.size_extract]
      rw [Str.length] at len
      omega
theorem any_str (d : PyData) (h : good d = true) : anyT ["str"] d = match d with
  | .str _ => true
  | _ => false := by
  cases d with
  | dict kvs =>
    cases kvs with
    | nil => rfl
    | cons kv kvs =>
      obtain ⟨k, v⟩ := kv
      cases k with
      | none => cases h
      | bool b => cases h
      | _ => rfl
  | _ => rfl
theorem any_tup (d : PyData) (h : good d = true) : anyT ["tuple"] d = match d with
  | .tuple _ => true
  | _ => false := by
  cases d with
  | dict kvs =>
    cases kvs with
    | nil => rfl
    | cons kv kvs =>
      obtain ⟨k, v⟩ := kv
      cases k with
      | none => cases h
      | bool b => cases h
      | _ => rfl
  | _ => rfl
theorem any_lst (d : PyData) (h : good d = true) : anyT ["list"] d = match d with
  | .list _ => true
  | _ => false := by
  cases d with
  | dict kvs =>
    cases kvs with
    | nil => rfl
    | cons kv kvs =>
      obtain ⟨k, v⟩ := kv
      cases k with
      | none => cases h
      | bool b => cases h
      | _ => rfl
  | _ => rfl
theorem any_int (d : PyData) (h : good d = true) : anyT ["int"] d = match d with
  | .int _ => true
  | .bool _ => true
  | _ => false := by
  cases d with
  | dict kvs =>
    cases kvs with
    | nil => rfl
    | cons kv kvs =>
      obtain ⟨k, v⟩ := kv
      cases k with
      | none => cases h
      | bool b => cases h
      | _ => rfl
  | _ => rfl
theorem any_bool (d : PyData) (h : good d = true) : anyT ["bool"] d = match d with
  | .bool _ => true
  | _ => false := by
  cases d with
  | dict kvs =>
    cases kvs with
    | nil => rfl
    | cons kv kvs =>
      obtain ⟨k, v⟩ := kv
      cases k with
      | none => cases h
      | bool b => cases h
      | _ => rfl
  | _ => rfl
theorem is_name_eq {d : PyData} (h : good d = true) : m_is_name d = okY (.bool (nameB d)) := by
  unfold m_is_name
  rw [any_str d h]
  cases d with
  | str s =>
    have hl : s.length ≤ lim := by simpa [good] using h
    simp only [tru_bool, bQ_ok, Bool.not_true, Bool.false_eq_true, if_false, len_str hl, bO_val, cmp_int, lt_int', bB_bool]
    have md : mtdOk "str" (.str s) = true := rfl
    have st : stripD (.str s) [.str letters] = some (.val (.str (Txt.stripChars s letters))) := by
      show (if s.length ≤ lim then some (RD.val (.str (Txt.stripChars s letters))) else none) = _
      rw [if_pos hl]
    have st' : stripD (.str s) [.str "abcdefghijklmnopqrstuvwxyz"] = some (.val (.str (Txt.stripChars s letters))) := st
    have e : (decide (Txt.stripChars s letters = ("" : Str))) = s.cps.toList.all letB := by
      rw [Bool.eq_iff_iff, decide_eq_true_iff, strip_iff]
      rw [show letters.cps.contains = letB from funext let_in]
    unfold nameB
    by_cases h1 : (s.length : Int) < 1
    · have h2 : ¬ 1 ≤ s.length := by omega
      simp [h1, h2]
    · have h2 : 1 ≤ s.length := by omega
      by_cases h3 : (6 : Int) < s.length
      · have h4 : ¬ s.length ≤ 6 := by omega
        simp [h1, h3, h4]
      · have h4 : s.length ≤ 6 := by omega
        simp only [h1, decide_false, Bool.not_false, if_true, h3, bY_ok, bB_bool, Bool.not_true, Bool.false_eq_true, if_false, md, bG_true, st', bO_val, eqA_str, e, h2, h4, decide_true, Bool.true_and]
  | _ => rfl
def wholeB (k : Int) : PyData → Bool
  | .int i => decide (k ≤ i)
  | _ => false
theorem asBs_map : ∀ bs : List Bool, asBs (bs.map PyData.bool) = some bs
  | [] => rfl
  | b :: bs => by
    show (asBs (bs.map PyData.bool)).map (b :: ·) = _
    rw [asBs_map bs]
    rfl
theorem allD1_map (bs : List Bool) : allD1 [.list (bs.map PyData.bool)] = some (.val (.bool (bs.all id))) := by
  show (asBs (bs.map PyData.bool)).map _ = _
  rw [asBs_map]
  rfl
theorem anyD1_map (bs : List Bool) : anyD1 [.list (bs.map PyData.bool)] = some (.val (.bool (bs.any id))) := by
  show (asBs (bs.map PyData.bool)).map _ = _
  rw [asBs_map]
  rfl
/-- the names of a heap, as texts -/
def riseB (xs : List PyData) : Bool := (List.range (xs.length - 1)).all fun i => dataLt (xs.getD i .none) (xs.getD (i + 1) .none)
theorem do_rise_eq {xs : List PyData} (hs : ∀ x ∈ xs, ∃ s, x = .str s) (h1 : 1 ≤ xs.length) (h2 : xs.length ≤ 1000) : m_do_rise (.tuple xs) = okY (.bool (riseB xs)) := by
  unfold m_do_rise
  have e1 : subD (.int xs.length) (.int 1) = some (.val (.int ((xs.length - 1 : Nat) : Int))) := by
    rw [subI]
    congr 3
    omega
  simp only [Mr.len_tuple, bO_val, e1]
  rw [rg1_nat (by omega), bQ_ok]
  rw [compP_rng (fun i => PyData.bool (dataLt (xs.getD i .none) (xs.getD (i + 1) .none))) (by show xs.length - 1 ≤ 1000000; omega) (fun i hi => by
    have g1 : ixD (.tuple xs) (.int i) = some (.val (xs.getD i .none)) := ixTn (by rw [List.getD_eq_getElem?_getD, List.getElem?_eq_getElem (by omega)]; rfl)
    have g2 : ixD (.tuple xs) (.int ((i : Int) + 1)) = some (.val (xs.getD (i + 1) .none)) := by
      have := ixTn (xs := xs) (i := i + 1) (d := xs.getD (i + 1) .none) (by rw [List.getD_eq_getElem?_getD, List.getElem?_eq_getElem (by omega)]; rfl)
      simpa using this
    obtain ⟨s1, z1⟩ := hs (xs.getD i .none) (by rw [List.getD_eq_getElem?_getD, List.getElem?_eq_getElem (by omega)]; exact List.getElem_mem _)
    obtain ⟨s2, z2⟩ := hs (xs.getD (i + 1) .none) (by rw [List.getD_eq_getElem?_getD, List.getElem?_eq_getElem (by omega)]; exact List.getElem_mem _)
    simp only [g1, bO_val, addI, g2, z1, z2, cmp_str])]
  have e2 : ((List.range (xs.length - 1)).map fun i => PyData.bool (dataLt (xs.getD i .none) (xs.getD (i + 1) .none))) = ((List.range (xs.length - 1)).map fun i => dataLt (xs.getD i .none) (xs.getD (i + 1) .none)).map PyData.bool := by
    rw [List.map_map]
    rfl
  rw [bQ_ok, e2, allD1_map]
  simp only [bO_val]
  unfold riseB
  rw [List.all_map]
  rfl
def heapB : PyData → Bool
  | .tuple xs => decide (1 ≤ xs.length) && decide (xs.length ≤ 12) && xs.all nameB && riseB xs
  | _ => false
theorem nameB_str {d : PyData} (h : nameB d = true) : ∃ s, d = .str s := by
  cases d with
  | str s => exact ⟨s, rfl⟩
  | _ => cases h
theorem is_heap_eq {d : PyData} (h : good d = true) : m_is_heap d = okY (.bool (heapB d)) := by
  unfold m_is_heap
  rw [any_tup d h]
  cases d with
  | tuple xs =>
    have hg := goods_mem (xs := xs) (by simpa [good] using h)
    simp only [tru_bool, bQ_ok, Bool.not_true, Bool.false_eq_true, if_false, Mr.len_tuple, bO_val, cmp_int, lt_int', bB_bool]
    unfold heapB
    by_cases h1 : (xs.length : Int) < 1
    · have h2 : ¬ 1 ≤ xs.length := by omega
      simp [h1, h2]
    · have h2 : 1 ≤ xs.length := by omega
      by_cases h3 : (12 : Int) < xs.length
      · have h4 : ¬ xs.length ≤ 12 := by omega
        simp [h1, h3, h4]
      · have h4 : xs.length ≤ 12 := by omega
        simp only [h1, decide_false, Bool.not_false, if_true, h3, bY_ok, bB_bool, Bool.not_true, Bool.false_eq_true, if_false, selA_tuple, bQ_ok]
        rw [compP_map (fun x => PyData.bool (nameB x)) (by show xs.length ≤ 1000000; omega) (fun x hx => by rw [is_name_eq (hg x hx), bYn_ok])]
        have e2 : (xs.map fun x => PyData.bool (nameB x)) = (xs.map nameB).map PyData.bool := by
          rw [List.map_map]
          rfl
        rw [bQ_ok, e2, allD1_map]
        simp only [bO_val, bB_bool, h2, h4, decide_true, Bool.true_and]
        have e3 : (xs.map nameB).all id = xs.all nameB := by rw [List.all_map]; rfl
        rw [e3]
        cases q : xs.all nameB with
        | false => simp
        | true =>
          simp only [if_true, Bool.true_and]
          rw [do_rise_eq (fun x hx => nameB_str (List.all_eq_true.mp q x hx)) h2 (by omega)]
          rfl
  | _ => rfl
def rowB (k : Nat) : PyData → Bool
  | .tuple xs => decide (xs.length = k) && xs.all (wholeB 1)
  | _ => false
def rowsB (n : Nat) (rows : List PyData) : Bool := decide (rows.length = n) && (List.range rows.length).all fun k => rowB k (rows.getD k .none)
def tableB : PyData → Bool
  | .tuple [h, .tuple rows] => heapB h && (match h with
    | .tuple xs => rowsB xs.length rows
    | _ => false)
  | _ => false
theorem enum_get (xs : List PyData) : enumD xs = (List.range xs.length).map fun i => pairD (.int (i : Nat)) (xs.getD i .none) := by
  unfold enumD
  refine List.ext_getElem (by simp) fun i h1 h2 => ?_
  have hi : i < xs.length := by simpa using h1
  simp [List.getD_eq_getElem?_getD, List.getElem?_eq_getElem hi]
theorem heapB_tup {d : PyData} (h : heapB d = true) : ∃ xs, d = .tuple xs ∧ 1 ≤ xs.length ∧ xs.length ≤ 12 := by
  cases d with
  | tuple xs =>
    unfold heapB at h
    simp only [Bool.and_eq_true, decide_eq_true_eq] at h
    exact ⟨xs, rfl, h.1.1.1, h.1.1.2⟩
  | _ => cases h
/-! those that are drawn -/
theorem good_nm {l : List Nat} (h : IsN l) : good (nm l) = true := by
  show decide ((⟨l.toArray⟩ : Str).length ≤ lim) = true
  rw [nm_len]
  have := h.2.1
  exact decide_eq_true (show l.length ≤ 1000000 by omega)
theorem nameB_nm {l : List Nat} (h : IsN l) : nameB (nm l) = true := by
  unfold nameB nm
  simp only [nm_len, h.1, h.2.1, decide_true, Bool.true_and]
  rw [List.all_eq_true]
  intro c hc
  have := h.2.2 c (by simpa using hc)
  exact decide_eq_true this
theorem good_hp {ls : List (List Nat)} (h : ∀ l ∈ ls, IsN l) : good (hp ls) = true := by
  unfold good hp
  exact goods_of fun x hx => by
    obtain ⟨l, hl, rfl⟩ := List.mem_map.mp hx
    exact good_nm (h l hl)
theorem riseB_nm {ls : List (List Nat)} (h : ls.Pairwise fun a b => a < b) : riseB (ls.map nm) = true := by
  unfold riseB
  rw [List.all_eq_true]
  intro i hi
  rw [List.mem_range, List.length_map] at hi
  have g : ∀ j (h : j < ls.length), (ls.map nm).getD j .none = nm ls[j] := fun j h => by
    rw [List.getD_eq_getElem?_getD, List.getElem?_map, List.getElem?_eq_getElem h]
    rfl
  rw [g i (by omega), g (i + 1) (by omega), dataLt_nm]
  exact decide_eq_true (List.pairwise_iff_getElem.mp h i (i + 1) (by omega) (by omega) (by omega))
theorem heapB_hp {ls : List (List Nat)} (h : HN ls) : heapB (hp ls) = true := by
  unfold heapB hp
  simp only [List.length_map, h.pos, h.le, decide_true, Bool.true_and, Bool.and_eq_true]
  refine ⟨List.all_eq_true.mpr fun x hx => ?_, riseB_nm h.asc⟩
  obtain ⟨l, hl, rfl⟩ := List.mem_map.mp hx
  exact nameB_nm (h.nms l hl)
theorem good_row (r : List Int) : good (rowD r) = true := by
  unfold good rowD
  exact goods_of fun x hx => by
    obtain ⟨l, hl, rfl⟩ := List.mem_map.mp hx
    rfl
theorem good_tab {B : Int} {ls : List (List Nat)} {rs : List (List Int)} (h : IsTab B ls rs) : good (tabD ls rs) = true := by
  have e : good (tabD ls rs) = (good (hp ls) && (good (.tuple (rs.map rowD)) && true)) := rfl
  rw [e, good_hp h.hn.nms]
  have : good (.tuple (rs.map rowD)) = true := goods_of fun x hx => by
    obtain ⟨l, hl, rfl⟩ := List.mem_map.mp hx
    exact good_row l
  rw [this]
  rfl
theorem tableB_tab {B : Int} {ls : List (List Nat)} {rs : List (List Int)} (h : IsTab B ls rs) : tableB (tabD ls rs) = true := by
  have e : tableB (tabD ls rs) = (heapB (hp ls) && rowsB (ls.map nm).length (rs.map rowD)) := rfl
  rw [e, heapB_hp h.hn, Bool.true_and]
  unfold rowsB
  simp only [List.length_map, h.len, decide_true, Bool.true_and]
  rw [List.all_eq_true]
  intro k hk
  rw [List.mem_range] at hk
  have hk' : k < rs.length := by rw [h.len]; exact hk
  have g : (rs.map rowD).getD k .none = rowD rs[k] := by
    rw [List.getD_eq_getElem?_getD, List.getElem?_map, List.getElem?_eq_getElem hk']
    rfl
  rw [g]
  obtain ⟨h1, h2⟩ := h.row k hk'
  unfold rowB rowD
  simp only [List.length_map, h1, decide_true, Bool.true_and]
  rw [List.all_eq_true]
  intro x hx
  obtain ⟨v, hv, rfl⟩ := List.mem_map.mp hx
  exact decide_eq_true (h2 v hv).1
end Law
namespace Mr
open PySem PySem.Spec PyProof.Rows L2 PySem.W Pv
section
variable {α β γ σ ρ : Type}
theorem forY_findm {f : α → Unit → Y (Lp ρ Unit)} {h : γ → α} (g : γ → Option ρ) : ∀ {l : List γ}, (∀ e ∈ l, f (h e) () = okY (match g e with
    | some r => .rt r
    | none => .go ())) → forY (l.map h) () f = okY (match l.findSome? g with
    | some r => .rt r
    | none => .go ())
  | [], _ => rfl
  | x :: xs, hf => by
    rw [List.map_cons, forY_cons, hf x List.mem_cons_self, List.findSome?_cons]
    cases q : g x with
    | some r => rfl
    | none =>
      rw [bY_ok]
      exact forY_findm g fun y hy => hf y (List.mem_cons_of_mem _ hy)
end
end Mr
namespace Law
open PySem PySem.Spec PyProof.Rows L2 PySem.W Pv Mr
/-! ### dicts by some keys -/
section
variable {κ : Type} [DecidableEq κ]
def getG (l : List (κ × PyData)) (k : κ) : Option PyData := (l.find? fun e => decide (e.1 = k)).map (·.2)
def putG (l : List (κ × PyData)) (k : κ) (v : PyData) : List (κ × PyData) := if (l.any fun e => decide (e.1 = k)) = true then l.map fun e => if e.1 = k then (e.1, v) else e else l ++ [(k, v)]
theorem getG_put (l : List (κ × PyData)) (k : κ) (v : PyData) (j : κ) : getG (putG l k v) j = if j = k then some v else getG l j := by
  unfold putG
  split
  · rename_i q
    induction l with
    | nil => simp at q
    | cons e l ih =>
      unfold getG at *
      rw [List.map_cons, List.find?_cons, List.find?_cons]
      by_cases h1 : e.1 = k
      · by_cases h2 : j = k
        · simp [h1, h2]
        · have h3 : ¬ k = j := fun z => h2 z.symm
          simp only [h1, if_true, h3, decide_false, if_neg h2]
          by_cases q2 : (l.any fun e => decide (e.1 = k)) = true
          · have := ih q2
            rw [if_neg h2] at this
            exact this
          · have : l.map (fun e => if e.1 = k then (e.1, v) else e) = l := by
              refine (List.map_congr_left fun x hx => ?_).trans (List.map_id l)
              rw [if_neg fun z => q2 (List.any_eq_true.mpr ⟨x, hx, by simp [z]⟩)]
              rfl
            rw [this]
      · have q2 : (l.any fun e => decide (e.1 = k)) = true := by
          rw [List.any_cons] at q
          simpa [h1] using q
        rw [if_neg h1]
        by_cases h2 : e.1 = j
        · have h3 : ¬ j = k := fun z => h1 (h2.trans z)
          simp [h2, h3]
        · simp only [h2, decide_false]
          exact ih q2
  · rename_i q
    unfold getG
    rw [List.find?_append]
    by_cases h2 : j = k
    · subst h2
      have : (l.find? fun e => decide (e.1 = j)) = none := by
        rw [List.find?_eq_none]
        intro x hx z
        exact q (List.any_eq_true.mpr ⟨x, hx, z⟩)
      rw [this]
      simp
    · have h3 : ¬ k = j := fun z => h2 z.symm
      rw [if_neg h2]
      simp [h3]
theorem len_putG (l : List (κ × PyData)) (k : κ) (v : PyData) : (putG l k v).length ≤ l.length + 1 := by
  unfold putG
  split
  · rw [List.length_map]
    omega
  · simp
/-- keys that are tuples -/
structure KeyE (e : κ → List PyData) : Prop where
  eq : ∀ a b, keqs (e a) (e b) = decide (a = b)
  ks : ∀ a, (asKs (e a)).isSome = true
  len : ∀ a, (e a).length ≤ 1000
variable {e : κ → List PyData}
def kvG (e : κ → List PyData) (l : List (κ × PyData)) : List (PyData × PyData) := l.map fun x => (.tuple (e x.1), x.2)
theorem dGet_kvG (he : KeyE e) : ∀ (l : List (κ × PyData)) (k : κ), dGet (kvG e l) (.tuple (e k)) = getG l k
  | [], _ => rfl
  | x :: l, k => by
    have ih := dGet_kvG he l k
    unfold dGet getG kvG at *
    rw [List.map_cons, List.find?_cons, List.find?_cons]
    have : keq (.tuple (e x.1)) (.tuple (e k)) = decide (x.1 = k) := he.eq x.1 k
    simp only [this]
    cases q : decide (x.1 = k) with
    | true => rfl
    | false => exact ih
theorem dPut_kvG (he : KeyE e) (l : List (κ × PyData)) (k : κ) (v : PyData) : dPut (kvG e l) (.tuple (e k)) v = kvG e (putG l k v) := by
  have an : ((kvG e l).any fun kv => keq kv.1 (.tuple (e k))) = l.any fun x => decide (x.1 = k) := by
    unfold kvG
    rw [List.any_map]
    congr 1
    funext x
    exact he.eq x.1 k
  unfold dPut putG
  rw [an]
  split
  · unfold kvG
    rw [List.map_map, List.map_map]
    refine List.map_congr_left fun x _ => ?_
    have : keq (.tuple (e x.1)) (.tuple (e k)) = decide (x.1 = k) := he.eq x.1 k
    show (if keq (.tuple (e x.1)) (.tuple (e k)) = true then (PyData.tuple (e x.1), v) else (.tuple (e x.1), x.2)) = _
    rw [this]
    by_cases q : x.1 = k
    · simp [q]
    · simp [q]
  · unfold kvG
    rw [List.map_append]
    rfl
theorem putT_kvG (he : KeyE e) {l : List (κ × PyData)} {k : κ} {v : PyData} (hl : l.length < 10000) : putT (kvG e l) (e k) v = some (kvG e (putG l k v)) := by
  unfold putT
  have := he.len k
  rw [if_pos ⟨he.ks k, by unfold kvG; rw [List.length_map]; show l.length < 1000000; omega, by show (e k).length ≤ 1000000; omega⟩]
  exact congrArg some (dPut_kvG he l k v)
theorem ix_kvG (he : KeyE e) {l : List (κ × PyData)} {k : κ} {v : PyData} (h : getG l k = some v) : ixD (.dict (kvG e l)) (.tuple (e k)) = some (.val v) := by
  cases l with
  | nil => cases h
  | cons x l =>
    have e1 : ixD (.dict (kvG e (x :: l))) (.tuple (e k)) = if keyOk (kvG e (x :: l)) (.tuple (e k)) = true then (dGet (kvG e (x :: l)) (.tuple (e k))).map RD.val else none := rfl
    have kk : keyOk (kvG e (x :: l)) (.tuple (e k)) = true := he.ks k
    rw [e1, if_pos kk, dGet_kvG he, h]
    rfl
end
/-- pairs of names -/
abbrev NN := List Nat × List Nat
def nnE (p : NN) : List PyData := [nm p.1, nm p.2]
theorem keq1_nm (a b : List Nat) : keq1 (nm a) (nm b) = decide (a = b) := by
  show ((⟨a.toArray⟩ : Str) == ⟨b.toArray⟩) = _
  rw [beq_dec, Bool.eq_iff_iff, decide_eq_true_iff, decide_eq_true_iff]
  constructor
  · intro h
    injection h with h
    simpa using congrArg Array.toList h
  · rintro rfl
    rfl
theorem nnE_key : KeyE nnE := ⟨fun a b => by
  show (keq1 (nm a.1) (nm b.1) && (keq1 (nm a.2) (nm b.2) && true)) = _
  rw [keq1_nm, keq1_nm, Bool.and_true, Bool.eq_iff_iff]
  simp [Prod.ext_iff], fun a => rfl, fun a => by show 2 ≤ 1000; omega⟩
/-! ### how far two names are -/
def dN (ls : List (List Nat)) (rs : List (List Int)) (a b : List Nat) : Int := if a = b then 0 else if ls.idxOf b < ls.idxOf a then (rs.getD (ls.idxOf a) []).getD (ls.idxOf b) 0 else (rs.getD (ls.idxOf b) []).getD (ls.idxOf a) 0
theorem HN.nodup {ls : List (List Nat)} (h : HN ls) : ls.Nodup := h.asc.imp fun {a b} z e => by
  subst e
  exact absurd z (List.lt_irrefl a)
theorem idx_get {ls : List (List Nat)} (h : ls.Nodup) {i : Nat} (hi : i < ls.length) : ls.idxOf ls[i] = i := by
  have h1 : ls.idxOf ls[i] < ls.length := List.idxOf_lt_length_iff.mpr (List.getElem_mem hi)
  have h2 : ls[ls.idxOf ls[i]] = ls[i] := List.getElem_idxOf h1
  exact (List.getElem_inj h).mp h2
theorem dN_comm (ls : List (List Nat)) (rs : List (List Int)) (a b : List Nat) : dN ls rs a b = dN ls rs b a := by
  unfold dN
  by_cases e : a = b
  · subst e
    rfl
  · have e' : ¬ b = a := fun z => e z.symm
    rw [if_neg e, if_neg e']
    by_cases h1 : ls.idxOf b < ls.idxOf a
    · rw [if_pos h1, if_neg (by omega)]
    · by_cases h2 : ls.idxOf a < ls.idxOf b
      · rw [if_neg h1, if_pos h2]
      · have : ls.idxOf a = ls.idxOf b := by omega
        rw [if_neg h1, if_neg h2, this]
theorem dN_get {ls : List (List Nat)} {rs : List (List Int)} (h : ls.Nodup) {i j : Nat} (hj : j < i) (hi : i < ls.length) : dN ls rs ls[i] ls[j] = (rs.getD i []).getD j 0 := by
  have ne : ls[i] ≠ ls[j] := fun z => by
    have := (List.getElem_inj h).mp z
    omega
  unfold dN
  rw [if_neg ne, idx_get h hi, idx_get h (by omega), if_pos hj]
theorem IsTab.pos {B : Int} {ls : List (List Nat)} {rs : List (List Int)} (h : IsTab B ls rs) {a b : List Nat} (ha : a ∈ ls) (hb : b ∈ ls) (ne : a ≠ b) : 1 ≤ dN ls rs a b ∧ dN ls rs a b ≤ B := by
  obtain ⟨i, hi, rfl⟩ := List.getElem_of_mem ha
  obtain ⟨j, hj, rfl⟩ := List.getElem_of_mem hb
  have nij : i ≠ j := fun z => ne (by subst z; rfl)
  have key : ∀ i j (hi : i < ls.length) (hj : j < i), 1 ≤ (rs.getD i []).getD j 0 ∧ (rs.getD i []).getD j 0 ≤ B := fun i j hi hj => by
    have hi' : i < rs.length := by rw [h.len]; exact hi
    obtain ⟨h1, h2⟩ := h.row i hi'
    rw [List.getD_eq_getElem?_getD (l := rs), List.getElem?_eq_getElem hi', Option.getD_some, List.getD_eq_getElem?_getD, List.getElem?_eq_getElem (by omega), Option.getD_some]
    exact h2 _ (List.getElem_mem _)
  rcases Nat.lt_or_gt_of_ne nij with z | z
  · rw [dN_comm, dN_get h.hn.nodup z hj]
    exact key j i hj z
  · rw [dN_get h.hn.nodup z hi]
    exact key i j hi z
/-- a dict of how far each two names are, either way about -/
structure Far2 (ls : List (List Nat)) (rs : List (List Int)) (l : List (NN × PyData)) : Prop where
  get : ∀ a ∈ ls, ∀ b ∈ ls, a ≠ b → getG l (a, b) = some (.int (dN ls rs a b))
/-- .. as far as it has come -/
structure FarT (ls : List (List Nat)) (rs : List (List Int)) (i j : Nat) (l : List (NN × PyData)) : Prop where
  get : ∀ x y (hx : x < ls.length) (hy : y < x), (x < i ∨ (x = i ∧ y < j)) → getG l (ls[x], ls[y]) = some (.int (dN ls rs ls[x] ls[y])) ∧ getG l (ls[y], ls[x]) = some (.int (dN ls rs ls[x] ls[y]))
  len : l.length ≤ i * 30 + 2 * j
theorem FarT.put {ls : List (List Nat)} {rs : List (List Int)} {i j : Nat} {l : List (NN × PyData)} (hn : ls.Nodup) (h : FarT ls rs i j l) (hi : i < ls.length) (hj : j < i) : FarT ls rs i (j + 1) (putG (putG l (ls[i], ls[j]) (.int (dN ls rs ls[i] ls[j]))) (ls[j], ls[i]) (.int (dN ls rs ls[i] ls[j]))) where
  get x y hx hy hd := by
    have inj : ∀ {a b : Nat} (ha : a < ls.length) (hb : b < ls.length), ls[a] = ls[b] → a = b := fun ha hb z => (List.getElem_inj hn).mp z
    rw [getG_put, getG_put, getG_put, getG_put]
    by_cases q : x = i ∧ y = j
    · obtain ⟨rfl, rfl⟩ := q
      constructor
      · split
        · rfl
        · rw [if_pos rfl]
      · rw [if_pos rfl]
    · have n1 : ¬ ((ls[x], ls[y]) = (ls[j], ls[i])) := fun z => by
        injection z with z1 z2
        have := inj _ _ z1
        have := inj _ _ z2
        omega
      have n2 : ¬ ((ls[x], ls[y]) = (ls[i], ls[j])) := fun z => by
        injection z with z1 z2
        exact q ⟨inj _ _ z1, inj _ _ z2⟩
      have n3 : ¬ ((ls[y], ls[x]) = (ls[j], ls[i])) := fun z => by
        injection z with z1 z2
        exact q ⟨inj _ _ z2, inj _ _ z1⟩
      have n4 : ¬ ((ls[y], ls[x]) = (ls[i], ls[j])) := fun z => by
        injection z with z1 z2
        have := inj _ _ z1
        have := inj _ _ z2
        omega
      rw [if_neg n1, if_neg n2, if_neg n3, if_neg n4]
      exact h.get x y hx hy (by omega)
  len := by
    have := h.len
    have := len_putG (putG l (ls[i], ls[j]) (.int (dN ls rs ls[i] ls[j]))) (ls[j], ls[i]) (.int (dN ls rs ls[i] ls[j]))
    have := len_putG l (ls[i], ls[j]) (.int (dN ls rs ls[i] ls[j]))
    omega
theorem FarT.to {ls : List (List Nat)} {rs : List (List Int)} {l : List (NN × PyData)} (h : FarT ls rs ls.length 0 l) : Far2 ls rs l := ⟨fun a ha b hb ne => by
  obtain ⟨i, hi, rfl⟩ := List.getElem_of_mem ha
  obtain ⟨j, hj, rfl⟩ := List.getElem_of_mem hb
  have nij : i ≠ j := fun z => ne (by subst z; rfl)
  rcases Nat.lt_or_gt_of_ne nij with z | z
  · rw [dN_comm]
    exact (h.get j i hj z (by omega)).2
  · exact (h.get i j hi z (by omega)).1⟩
theorem tab_0 (ls : List (List Nat)) (rs : List (List Int)) : ixD (tabD ls rs) (.int 0) = some (.val (hp ls)) := rfl
theorem tab_1 (ls : List (List Nat)) (rs : List (List Int)) : ixD (tabD ls rs) (.int 1) = some (.val (.tuple (rs.map rowD))) := rfl
theorem ix_rows {rs : List (List Int)} {k : Nat} (h : k < rs.length) : ixD (.tuple (rs.map rowD)) (.int k) = some (.val (rowD (rs.getD k []))) := ixTn (by rw [List.getElem?_map, List.getElem?_eq_getElem h, List.getD_eq_getElem?_getD, List.getElem?_eq_getElem h]; rfl)
theorem ix_row {r : List Int} {k : Nat} (h : k < r.length) : ixD (rowD r) (.int k) = some (.val (.int (r.getD k 0))) := ixTn (by rw [List.getElem?_map, List.getElem?_eq_getElem h, List.getD_eq_getElem?_getD, List.getElem?_eq_getElem h]; rfl)
theorem ix_hp {ls : List (List Nat)} {k : Nat} (h : k < ls.length) : ixD (hp ls) (.int k) = some (.val (nm ls[k])) := ixTn (by rw [List.getElem?_map, List.getElem?_eq_getElem h]; rfl)
theorem row_len {B : Int} {ls : List (List Nat)} {rs : List (List Int)} (h : IsTab B ls rs) {k : Nat} (hk : k < ls.length) : (rs.getD k []).length = k := by
  have hk' : k < rs.length := by rw [h.len]; exact hk
  rw [List.getD_eq_getElem?_getD, List.getElem?_eq_getElem hk', Option.getD_some]
  exact (h.row k hk').1
theorem int_get {r : List Int} {j : Nat} (h : j < r.length) : (r.map PyData.int)[j]? = some (.int (r.getD j 0)) := by
  rw [List.getElem?_map, List.getElem?_eq_getElem h, List.getD_eq_getElem?_getD, List.getElem?_eq_getElem h]
  rfl
/-! ### the first fault -/
/-- the first three names at which a number is above the bound -/
def FF (ls : List (List Nat)) (rs : List (List Int)) (bd : Int → Int → Int) : Option (List Nat × List Nat × List Nat) :=
  ls.findSome? fun a => (ls.filter fun b => decide (a < b)).findSome? fun b => (ls.filter fun c => !(decide (c = a) || decide (c = b))).findSome? fun c => if bd (dN ls rs a c) (dN ls rs c b) < dN ls rs a b then some (a, b, c) else none
def t3D (p : List Nat × List Nat × List Nat) : PyData := .tuple [nm p.1, nm p.2.1, nm p.2.2]
def ffD : Option (List Nat × List Nat × List Nat) → PyData
  | some p => t3D p
  | none => .none
theorem eqv_nm (a b : List Nat) : PyData.eqv (nm a) (nm b) = decide (a = b) := by
  show PyData.eqv (.str _) (.str _) = _
  rw [PyData.eqv, beq_dec, Bool.eq_iff_iff, decide_eq_true_iff, decide_eq_true_iff]
  constructor
  · intro h
    injection h with h
    simpa using congrArg Array.toList h
  · rintro rfl
    rfl
theorem notin2 (c a b : List Nat) : inD true (nm c) (.tuple [nm a, nm b]) = some (.val (.bool (!(decide (c = a) || decide (c = b))))) := by
  have e : inD true (nm c) (.tuple [nm a, nm b]) = some (.val (.bool (true ^^ [nm a, nm b].any fun y => PyData.eqv y (nm c)))) := rfl
  rw [e]
  simp only [List.any_cons, List.any_nil, Bool.or_false, eqv_nm, Bool.true_xor]
  congr 5
  · exact decide_eq_decide.mpr eq_comm
  · exact decide_eq_decide.mpr eq_comm
theorem cmp_nm (f : PyData → PyData → Bool) (a b : List Nat) : cmpD cAl f (nm a) (nm b) = some (.val (.bool (f (nm a) (nm b)))) := cmpD_ok rfl rfl rfl
theorem findSome_map {α β γ : Type} (h : α → β) (g : β → Option γ) : ∀ l : List α, (l.map h).findSome? g = l.findSome? fun x => g (h x)
  | [] => rfl
  | x :: l => by
    rw [List.map_cons, List.findSome?_cons, List.findSome?_cons, findSome_map h g l]
theorem filter_hp (p : List Nat → Bool) (q : PyData → Bool) (ls : List (List Nat)) (h : ∀ l ∈ ls, q (nm l) = p l) : (ls.map nm).filter q = (ls.filter p).map nm := by
  rw [List.filter_map]
  congr 1
  exact List.filter_congr fun x hx => h x hx
theorem comp_names {f : PyData → Y (Option PyData)} (p : List Nat → Bool) {ls : List (List Nat)} (hl : ls.length ≤ 1000) (h : ∀ l ∈ ls, f (nm l) = okY (if p l = true then some (nm l) else none)) : compP (ls.map nm) f = some ((ls.filter p).map nm) := by
  rw [compP_maps (fun l => if p l = true then some (nm l) else none) (by show ls.length ≤ 1000000; omega) h]
  congr 1
  clear hl h
  induction ls with
  | nil => rfl
  | cons x l ih =>
    rw [List.filterMap_cons, List.filter_cons, ih]
    cases p x <;> rfl
theorem slT_from {xs : List PyData} {i : Nat} (h : i ≤ xs.length) : slD (.tuple xs) (some (i : Int)) none = some (.val (.tuple (xs.drop i))) := by
  have e : slD (.tuple xs) (some (i : Int)) none = some (.val (.tuple (Pv.cutD xs (some (i : Int)) none))) := rfl
  rw [e]
  unfold Pv.cutD
  rw [HT.sIx_nat, HT.sIx_none, Nat.min_eq_left h, List.take_of_length_le (by simp)]
theorem drop_filter : ∀ {ls : List (List Nat)}, (ls.Pairwise fun a b => a < b) → ∀ {i : Nat} (hi : i < ls.length), ls.drop (i + 1) = ls.filter fun b => decide (ls[i] < b)
  | [], _, i, hi => by simp at hi
  | x :: l, h, i, hi => by
    rw [List.pairwise_cons] at h
    cases i with
    | zero =>
      rw [List.drop_succ_cons, List.drop_zero, List.filter_cons]
      have : ¬ (x < x) := List.lt_irrefl x
      simp only [List.getElem_cons_zero, this, decide_false, Bool.false_eq_true, if_false]
      exact (List.filter_eq_self.mpr fun y hy => decide_eq_true (h.1 y hy)).symm
    | succ i =>
      have hi' : i < l.length := by simpa using hi
      have ih := drop_filter h.2 hi'
      rw [List.drop_succ_cons, List.filter_cons]
      have : ¬ (l[i] < x) := fun z => List.lt_irrefl x (List.lt_trans (h.1 _ (List.getElem_mem hi')) z)
      simp only [List.getElem_cons_succ, this, decide_false, Bool.false_eq_true, if_false]
      exact ih
theorem range_get {ls : List (List Nat)} {γ : Type} (g : List Nat → Option γ) : (List.range ls.length).findSome? (fun i => if h : i < ls.length then g ls[i] else none) = ls.findSome? g := by
  have e : ls = (List.range ls.length).map fun i => ls.getD i [] := by
    refine List.ext_getElem (by simp) fun i h1 h2 => ?_
    simp [List.getD_eq_getElem?_getD, List.getElem?_eq_getElem h1]
  have : ls.findSome? g = (List.range ls.length).findSome? fun i => g (ls.getD i []) := by
    conv => lhs; rw [e]
    rw [findSome_map]
  rw [this]
  have key : ∀ l : List Nat, (∀ i ∈ l, i < ls.length) → l.findSome? (fun i => if h : i < ls.length then g ls[i] else none) = l.findSome? fun i => g (ls.getD i []) := fun l hl => by
    induction l with
    | nil => rfl
    | cons x l ih =>
      rw [List.findSome?_cons, List.findSome?_cons, ih fun i hi => hl i (List.mem_cons_of_mem _ hi)]
      have hx := hl x List.mem_cons_self
      rw [dif_pos hx, List.getD_eq_getElem?_getD, List.getElem?_eq_getElem hx]
      rfl
  exact key _ fun i hi => List.mem_range.mp hi
end Law
namespace Law
open PySem PySem.Spec PyProof.Rows L2 PySem.W Pv Mr
/-! heaps: lists of names, rising -/
abbrev Hs := List (List Nat)
theorem toks_nil : keyToksAll [] = [.inl 0] := rfl
theorem hlt_nil (b : List Nat) (bs : Hs) : dataLt (hp []) (hp (b :: bs)) = true := by
  unfold hp
  rw [dataLt_tuple]
  show PyProof.Rows.lexLt itemOrd (keyToksAll []) (keyToksAll (nm b :: bs.map nm)) = true
  rw [toks_all_cons, toks_nil]
  rfl
theorem hlt_nil2 (b : List Nat) (bs : Hs) : dataLt (hp (b :: bs)) (hp []) = false := by
  unfold hp
  rw [dataLt_tuple]
  show PyProof.Rows.lexLt itemOrd (keyToksAll (nm b :: bs.map nm)) (keyToksAll []) = false
  rw [toks_all_cons, toks_nil]
  rfl
theorem eqv_nn (a b : List Nat) : PyData.eqv (nm a) (nm b) = decide (a = b) := by
  show ((⟨a.toArray⟩ : Str) == ⟨b.toArray⟩) = _
  rw [beq_dec]
  rw [Bool.eq_iff_iff, decide_eq_true_eq, decide_eq_true_eq]
  constructor
  · intro h
    exact nm_inj (congrArg PyData.str h)
  · rintro rfl
    rfl
theorem hlt_cons (a b : List Nat) (as bs : Hs) : dataLt (hp (a :: as)) (hp (b :: bs)) = if a = b then dataLt (hp as) (hp bs) else decide (a < b) := by
  unfold hp
  rw [dataLt_tuple, dataLt_tuple, List.map_cons, List.map_cons]
  by_cases h : a = b
  · rw [if_pos h, dataLt_all_yes rfl (by rw [eqv_nn, h]; simp)]
  · rw [if_neg h, dataLt_all_no rfl (by rw [eqv_nn]; simp [h]), dataLt_nm]
/-- the order of heaps -/
def hlt : Hs → Hs → Bool
  | [], [] => false
  | [], _ :: _ => true
  | _ :: _, [] => false
  | a :: as, b :: bs => if a = b then hlt as bs else decide (a < b)
theorem dataLt_hp : ∀ a b : Hs, dataLt (hp a) (hp b) = hlt a b
  | [], [] => by rfl
  | [], b :: bs => hlt_nil b bs
  | b :: bs, [] => hlt_nil2 b bs
  | a :: as, b :: bs => by
    rw [hlt_cons, hlt, dataLt_hp as bs]
theorem hlt_irr : ∀ a : Hs, hlt a a = false
  | [] => rfl
  | a :: as => by rw [hlt, if_pos rfl]; exact hlt_irr as
theorem hlt_tot : ∀ {a b : Hs}, a ≠ b → hlt a b = true ∨ hlt b a = true
  | [], [], h => absurd rfl h
  | [], _ :: _, _ => .inl rfl
  | _ :: _, [], _ => .inr rfl
  | a :: as, b :: bs, h => by
    by_cases e : a = b
    · subst e
      have : as ≠ bs := fun z => h (by rw [z])
      simp only [hlt, if_pos]
      exact hlt_tot this
    · have e2 : b ≠ a := fun z => e z.symm
      simp only [hlt, if_neg e, if_neg e2, decide_eq_true_eq]
      exact lt_total e
theorem hlt_trans : ∀ {a b c : Hs}, hlt a b = true → hlt b c = true → hlt a c = true := fun {a b c} h1 h2 => by
  rw [← dataLt_hp] at *
  exact lex_trans (O := itemOrd) _ _ _ h1 h2
theorem hlt_asym {a b : Hs} (h : hlt a b = true) : hlt b a = false := by
  cases q : hlt b a with
  | false => rfl
  | true =>
    have := hlt_trans h q
    rw [hlt_irr] at this
    cases this
theorem hp_inj {a b : Hs} (h : hp a = hp b) : a = b := by
  unfold hp at h
  injection h with h
  have : ∀ {a b : Hs}, a.map nm = b.map nm → a = b := fun {a b} h => by
    induction a generalizing b with
    | nil => cases b with
      | nil => rfl
      | cons _ _ => cases h
    | cons x xs ih =>
      cases b with
      | nil => cases h
      | cons y ys =>
        rw [List.map_cons, List.map_cons] at h
        injection h with h1 h2
        rw [nm_inj h1, ih h2]
  exact this h
theorem alike_strs : ∀ a b : Hs, alikeAll (a.map nm) (b.map nm) = true
  | [], _ => by simp [alikeAll]
  | _ :: _, [] => by simp [alikeAll]
  | a :: as, b :: bs => by
    rw [List.map_cons, List.map_cons, alikeAll, alike_strs as bs]
    rfl
theorem alike_hp (a b : Hs) : alike (hp a) (hp b) = true := by
  unfold hp
  rw [alike]
  exact alike_strs a b
theorem noDs_nm : ∀ a : Hs, noDs (a.map nm) = true
  | [] => rfl
  | a :: as => by rw [List.map_cons, noDs, noDs_nm as]; rfl
theorem depth_nm : ∀ a : Hs, PyData.depthAll (a.map nm) = 0
  | [] => rfl
  | a :: as => by
    rw [List.map_cons, PyData.depthAll, depth_nm as]
    rfl
theorem okD_hp (a : Hs) : okD (hp a) = true := by
  unfold hp okD
  rw [Bool.and_eq_true, decide_eq_true_eq, noD, noDs_nm, PyData.depth, depth_nm]
  exact ⟨rfl, by decide⟩
theorem eqvs_nm : ∀ a b : Hs, PyData.eqvAll (a.map nm) (b.map nm) = decide (a = b)
  | [], [] => rfl
  | [], _ :: _ => rfl
  | _ :: _, [] => rfl
  | a :: as, b :: bs => by
    rw [List.map_cons, List.map_cons, eqv_all_cons, eqvs_nm as bs, eqv_nn]
    rw [Bool.eq_iff_iff]
    simp
theorem eqv_hp (a b : Hs) : PyData.eqv (hp a) (hp b) = decide (a = b) := by
  unfold hp
  rw [PyData.eqv]
  exact eqvs_nm a b
/-! which heaps cross -/
def both (a b : Hs) : Hs := a.filter fun x => decide (x ∈ b)
def crossB (a b : Hs) : Bool := decide (both a b ≠ []) && decide ((both a b).length < min a.length b.length)
theorem both_len {a b : Hs} (ha : a.Nodup) (hb : b.Nodup) : (both a b).length = (both b a).length :=
  ((List.perm_ext_iff_of_nodup (List.Nodup.sublist List.filter_sublist ha) (List.Nodup.sublist List.filter_sublist hb)).mpr fun x => by simp [both, List.mem_filter, and_comm]).length_eq
theorem cross_comm {a b : Hs} (ha : a.Nodup) (hb : b.Nodup) : crossB a b = crossB b a := by
  have h := both_len ha hb
  have e : (both a b ≠ []) = (both b a ≠ []) := by
    rw [← List.length_pos_iff, ← List.length_pos_iff, h]
  unfold crossB
  rw [Nat.min_comm, h]
  congr 1
  rw [Bool.eq_iff_iff, decide_eq_true_eq, decide_eq_true_eq, e]
theorem cross_sub {a b : Hs} (h : ∀ x ∈ a, x ∈ b) : crossB a b = false := by
  have e : both a b = a := List.filter_eq_self.mpr fun x hx => by simp [h x hx]
  unfold crossB
  rw [e]
  have : ¬ a.length < min a.length b.length := by omega
  simp [this]
theorem cross_dis {a b : Hs} (h : ∀ x ∈ a, x ∉ b) : crossB a b = false := by
  have e : both a b = [] := List.filter_eq_nil_iff.mpr fun x hx => by simp [h x hx]
  unfold crossB
  rw [e]
  simp
theorem cross_one {x : List Nat} {b : Hs} : crossB [x] b = false := by
  unfold crossB
  by_cases h : x ∈ b
  · have : both [x] b = [x] := by simp [both, h]
    rw [this]
    have h2 : ¬ ([x] : Hs).length < min ([x] : Hs).length b.length := by omega
    rw [decide_eq_false h2, Bool.and_false]
  · have : both [x] b = [] := by simp [both, h]
    rw [this]
    simp
theorem asc_nodup {a : Hs} (h : a.Pairwise fun a b => a < b) : a.Nodup := h.imp fun {x y} h e => by
  subst e
  exact List.lt_irrefl _ h
/-- a nest of names: rising heaps, the greatest one, each name alone, no two that cross -/
structure NestOk (ns : Hs) (N : List Hs) (c : Nat) : Prop where
  asc : N.Pairwise fun a b => hlt a b = true
  hs : ∀ h ∈ N, HN h ∧ ∀ x ∈ h, x ∈ ns
  top : ns ∈ N
  one : ∀ x ∈ ns, [x] ∈ N
  nox : ∀ a ∈ N, ∀ b ∈ N, crossB a b = false
  len : N.length ≤ c
def nst (N : List Hs) : PyData := .tuple (N.map hp)
end Law
namespace Law
open PySem PySem.Spec PyProof.Rows L2 PySem.W Pv Mr
theorem okD_nm (x : List Nat) : okD (nm x) = true := rfl
theorem noDs_hp : ∀ N : List Hs, noDs (N.map hp) = true
  | [] => rfl
  | h :: N => by
    rw [List.map_cons, noDs, noDs_hp N, Bool.and_true]
    have := okD_hp h
    rw [okD, Bool.and_eq_true] at this
    exact this.1
theorem any_nm (x : List Nat) (a : Hs) : ((a.map nm).any fun y => PyData.eqv y (nm x)) = decide (x ∈ a) := by
  rw [List.any_map, Bool.eq_iff_iff, List.any_eq_true, decide_eq_true_eq]
  constructor
  · rintro ⟨y, hy, h⟩
    have h : PyData.eqv (nm y) (nm x) = true := h
    rw [eqv_nn, decide_eq_true_eq] at h
    rw [← h]
    exact hy
  · intro h
    refine ⟨x, h, ?_⟩
    show PyData.eqv (nm x) (nm x) = true
    rw [eqv_nn]
    simp
theorem any_hp (h : Hs) (N : List Hs) : ((N.map hp).any fun y => PyData.eqv y (hp h)) = decide (h ∈ N) := by
  rw [List.any_map, Bool.eq_iff_iff, List.any_eq_true, decide_eq_true_eq]
  constructor
  · rintro ⟨y, hy, e⟩
    have e : PyData.eqv (hp y) (hp h) = true := e
    rw [eqv_hp, decide_eq_true_eq] at e
    rw [← e]
    exact hy
  · intro e
    refine ⟨h, e, ?_⟩
    show PyData.eqv (hp h) (hp h) = true
    rw [eqv_hp]
    simp
theorem in_hp (neg : Bool) (x : List Nat) (a : Hs) : inD neg (nm x) (hp a) = some (.val (.bool (neg ^^ decide (x ∈ a)))) := by
  have e : inD neg (nm x) (hp a) = if okD (nm x) = true ∧ noDs (a.map nm) = true then some (.val (.bool (neg ^^ (a.map nm).any fun y => PyData.eqv y (nm x)))) else none := rfl
  rw [e, if_pos ⟨rfl, noDs_nm a⟩, any_nm]
theorem in_nst (neg : Bool) (h : Hs) (N : List Hs) : inD neg (hp h) (nst N) = some (.val (.bool (neg ^^ decide (h ∈ N)))) := by
  have e : inD neg (hp h) (nst N) = if okD (hp h) = true ∧ noDs (N.map hp) = true then some (.val (.bool (neg ^^ (N.map hp).any fun y => PyData.eqv y (hp h)))) else none := rfl
  rw [e, if_pos ⟨okD_hp h, noDs_hp N⟩, any_hp]
theorem in_lst (neg : Bool) (h : Hs) (N : List Hs) : inD neg (hp h) (.list (N.map hp)) = some (.val (.bool (neg ^^ decide (h ∈ N)))) := by
  have e : inD neg (hp h) (.list (N.map hp)) = if okD (hp h) = true ∧ noDs (N.map hp) = true then some (.val (.bool (neg ^^ (N.map hp).any fun y => PyData.eqv y (hp h)))) else none := rfl
  rw [e, if_pos ⟨okD_hp h, noDs_hp N⟩, any_hp]
theorem len_hq (a : Hs) : lenD [hp a] = some (.val (.int a.length)) := by
  have e : lenD [hp a] = some (.val (.int ((a.map nm).length : Nat))) := rfl
  rw [e, List.length_map]
theorem len_nst (N : List Hs) : lenD [nst N] = some (.val (.int N.length)) := by
  have e : lenD [nst N] = some (.val (.int ((N.map hp).length : Nat))) := rfl
  rw [e, List.length_map]
theorem selA_hp (a : Hs) : selA (hp a) = some (a.map nm) := rfl
theorem selA_nst (N : List Hs) : selA (nst N) = some (N.map hp) := rfl
/-- a comprehension over what is told by e -/
theorem compP_fm {α β : Type} {e : α → PyData} {e2 : β → PyData} {f : PyData → Y (Option PyData)} (g : α → Option β) {l : List α} (hl : l.length ≤ lim) (hf : ∀ x ∈ l, f (e x) = okY ((g x).map e2)) : compP (l.map e) f = some ((l.filterMap g).map e2) := by
  rw [List.map_filterMap]
  exact compP_maps (fun x => (g x).map e2) hl hf
theorem fm_fil {α : Type} (p : α → Bool) : ∀ l : List α, l.filterMap (fun x => if p x = true then some x else none) = l.filter p
  | [] => rfl
  | x :: l => by
    have ih := fm_fil p l
    rw [List.filterMap_cons, List.filter_cons]
    cases p x with
    | true => simp [ih]
    | false => simp [ih]
theorem compP_fil {α : Type} {e : α → PyData} {f : PyData → Y (Option PyData)} (p : α → Bool) {l : List α} (hl : l.length ≤ lim) (hf : ∀ x ∈ l, f (e x) = okY (if p x = true then some (e x) else none)) : compP (l.map e) f = some ((l.filter p).map e) := by
  have h := compP_fm (e := e) (e2 := e) (f := f) (fun x => if p x = true then some x else none) hl fun x hx => by
    rw [hf x hx]
    cases p x <;> rfl
  rw [h, fm_fil]
theorem min1_nat (a b : Nat) : minD1 [.int a, .int b] = some (.val (.int ((min a b : Nat) : Int))) := by
  have e : minD1 [.int (a : Int), .int (b : Int)] = some (.val (.int (if (b : Int) < a then b else a))) := rfl
  rw [e]
  congr 3
  split <;> omega
theorem lim_big {n : Nat} (h : n ≤ 100000) : n ≤ lim := Nat.le_trans h (by decide)
theorem cross_eq {a b : Hs} (ha : a.length ≤ 1000) : m__law_cross (hp a) (hp b) = okY (.bool (crossB a b)) := by
  have h1 : compP (a.map nm) (fun name => bO (inD false name (hp b)) fun t => bB t fun c => if c = true then okY (some name) else okY none) = some ((both a b).map nm) :=
    compP_fil (fun x => decide (x ∈ b)) (lim_big (by omega)) fun x _ => by
      simp only [in_hp, bO_val, bB_bool, Bool.false_xor]
      cases decide (x ∈ b) <;> rfl
  unfold m__law_cross
  simp only [selA_hp, bQ_ok]
  rw [h1]
  simp only [bQ_ok, Mr.len_list, List.length_map, bO_val, len_hq, min1_nat, cmp_int, lt_int', bB_bool]
  have e : crossB a b = (decide ((0 : Int) < ((both a b).length : Int)) && decide (((both a b).length : Int) < ((min a.length b.length : Nat) : Int))) := by
    unfold crossB
    rw [Bool.eq_iff_iff]
    simp only [Bool.and_eq_true, decide_eq_true_eq, ← List.length_pos_iff, Int.ofNat_lt]
    refine and_congr ?_ Iff.rfl
    omega
  rw [e]
  cases decide ((0 : Int) < ((both a b).length : Int)) <;> rfl
theorem ne_nil_hp (a : Hs) (h : a.length ≤ 1000) : neA (.list (a.map nm)) (.list []) = some (.val (.bool (decide (a ≠ [])))) := by
  have ok : okD (.list (a.map nm)) = true := by
    rw [okD, Bool.and_eq_true, decide_eq_true_eq, noD, noDs_nm, PyData.depth, depth_nm]
    exact ⟨rfl, by decide⟩
  rw [neA_ok ok rfl]
  cases a <;> rfl
theorem do_cross_eq {a b : Hs} (ha : a.length ≤ 1000) : m_do_cross (hp a) (hp b) = okY (.bool (crossB a b)) := by
  have h1 : compP (a.map nm) (fun name => bO (inD false name (hp b)) fun t => bB t fun c => if c = true then okY (some name) else okY none) = some ((both a b).map nm) :=
    compP_fil (fun x => decide (x ∈ b)) (lim_big (by omega)) fun x _ => by
      simp only [in_hp, bO_val, bB_bool, Bool.false_xor]
      cases decide (x ∈ b) <;> rfl
  have hb : (both a b).length ≤ 1000 := Nat.le_trans (List.length_filter_le _ _) ha
  unfold m_do_cross
  simp only [selA_hp, bQ_ok]
  rw [h1]
  simp only [bQ_ok, ne_nil_hp _ hb, Mr.len_list, List.length_map, bO_val, len_hq, min1_nat, cmp_int, lt_int', bB_bool]
  have e : crossB a b = (decide (both a b ≠ []) && decide (((both a b).length : Int) < ((min a.length b.length : Nat) : Int))) := by
    unfold crossB
    rw [Bool.eq_iff_iff]
    simp only [Bool.and_eq_true, decide_eq_true_eq, Int.ofNat_lt]
  rw [e]
  cases decide (both a b ≠ []) <;> rfl
theorem okD_hps (N : List Hs) : okD (.list (N.map hp)) = true := by
  have d : ∀ N : List Hs, PyData.depthAll (N.map hp) ≤ 1 := fun N => by
    induction N with
    | nil => decide
    | cons h N ih =>
      rw [List.map_cons, PyData.depthAll]
      have : (hp h).depth = 1 := by
        unfold hp
        rw [PyData.depth, depth_nm]
      omega
  have := d N
  rw [okD, Bool.and_eq_true, decide_eq_true_eq, noD, noDs_hp, PyData.depth]
  exact ⟨rfl, by omega⟩
theorem eq_nil_hps (N : List Hs) : eqA (.list (N.map hp)) (.list []) = some (.val (.bool (decide (N = [])))) := by
  rw [eqA_ok (okD_hps N) rfl]
  cases N <;> rfl
theorem fits_eq {N : List Hs} {h : Hs} (hN : N.length ≤ 1000) (hh : ∀ a ∈ N, a.length ≤ 1000) : m__law_fits (.list (N.map hp)) (hp h) = okY (.bool (N.all fun a => !crossB a h)) := by
  have h1 : compP (N.map hp) (fun one => bYn (m__law_cross one (hp h)) fun r => bQ (truD r) fun c => if c = true then okY (some one) else okY none) = some ((N.filter fun a => crossB a h).map hp) :=
    compP_fil (fun a => crossB a h) (lim_big (by omega)) fun a ha => by
      rw [cross_eq (hh a ha)]
      simp only [bYn_ok, tru_bool, bQ_ok]
      cases crossB a h <;> rfl
  unfold m__law_fits
  simp only [selA_list, bQ_ok]
  rw [h1]
  simp only [bQ_ok, eq_nil_hps, bO_val]
  congr 2
  rw [Bool.eq_iff_iff]
  simp [List.filter_eq_nil_iff]
/-! sorting -/
theorem sortOk_hps {N : List Hs} (hl : N.length ≤ 1000) (hn : ∀ h ∈ N, h ≠ []) : sortOk (N.map hp) = true := by
  unfold sortOk
  simp only [Bool.and_eq_true, Bool.or_eq_true, decide_eq_true_eq]
  refine ⟨⟨⟨?_, .inl ?_⟩, ?_⟩, ?_⟩
  · unfold alikes
    rw [List.all_eq_true]
    intro d hd
    rw [List.all_eq_true]
    intro e he
    obtain ⟨a, _, rfl⟩ := List.mem_map.mp hd
    obtain ⟨b, _, rfl⟩ := List.mem_map.mp he
    exact alike_hp a b
  · rw [List.all_eq_true]
    intro d hd
    obtain ⟨a, ha, rfl⟩ := List.mem_map.mp hd
    have := hn a ha
    cases a with
    | nil => exact absurd rfl this
    | cons x xs => rfl
  · rw [List.all_eq_true]
    intro d hd
    obtain ⟨a, _, rfl⟩ := List.mem_map.mp hd
    exact okD_hp a
  · rw [List.length_map]
    exact lim_big (by omega)
theorem sort_hps {N : List Hs} (hl : N.length ≤ 1000) (hn : ∀ h ∈ N, h ≠ []) (nd : N.Nodup) : ∃ M : List Hs, M.Perm N ∧ (M.Pairwise fun a b => hlt a b = true) ∧ sortedA [.list (N.map hp)] = some (.own (.lst (M.map hp))) :=
  sort_by (e := hp) (fun _ _ => hp_inj) (lt := fun a b => hlt a b = true) (fun a b => by rw [dataLt_hp]; simp) (fun _ _ => hlt_tot) (sortOk_hps hl hn) nd
theorem sorted_tp {ds ms : List PyData} (h : sortedA [.list ds] = some (.own (.lst ms))) (ok : sortOk ds = true) : sortedTp [.tuple ds] = some (.own (.lst ms)) := by
  have e1 : sortedA [.list ds] = match sortedD1 [.list ds] with
    | some z => some z
    | none => sortedT1 [.list ds] := rfl
  have e2 : sortedD1 [.list ds] = some (.own (.lst (sortD ds))) := if_pos ok
  rw [e2] at e1
  rw [e1] at h
  have e3 : sortedTp [.tuple ds] = some (.own (.lst (sortD ds))) := if_pos ok
  rw [e3]
  exact h
theorem sort_names {ls : Hs} (hl : ls.length ≤ 1000) (nd : ls.Nodup) : ∃ ms : Hs, ms.Perm ls ∧ (ms.Pairwise fun a b => a < b) ∧ sortedTp [.tuple (ls.map nm)] = some (.own (.lst (ms.map nm))) := by
  obtain ⟨ms, h1, h2, h3⟩ := sort_nm hl nd
  exact ⟨ms, h1, h2, sorted_tp h3 (sortOk_nm hl)⟩
theorem sort_hps2 {N : List Hs} (hl : N.length ≤ 1000) (hn : ∀ h ∈ N, h ≠ []) (nd : N.Nodup) : ∃ M : List Hs, M.Perm N ∧ (M.Pairwise fun a b => hlt a b = true) ∧ sortedTp [nst N] = some (.own (.lst (M.map hp))) := by
  obtain ⟨M, h1, h2, h3⟩ := sort_hps hl hn nd
  exact ⟨M, h1, h2, sorted_tp h3 (sortOk_hps hl hn)⟩
end Law
namespace Law
open PySem PySem.Spec PyProof.Rows L2 PySem.W Pv Mr
theorem add_tup {xs ys : List PyData} (h : xs.length + ys.length ≤ 100000) : addTD (.tuple xs) (.tuple ys) = some (.val (.tuple (xs ++ ys))) := by
  have e : addTD (.tuple xs) (.tuple ys) = if xs.length + ys.length ≤ lim then some (.val (.tuple (xs ++ ys))) else none := rfl
  rw [e, if_pos (lim_big h)]
theorem ix_last (xs : List PyData) (d : PyData) : ixD (.list (xs ++ [d])) (.int (-1)) = some (.val d) := by
  have e : ixD (.list (xs ++ [d])) (.int (-1)) = (atI (xs ++ [d]) (-1)).map RD.val := rfl
  have e2 : atI (xs ++ [d]) (-1) = some d := by
    have e3 : ixN (xs.length + 1) (-1) = some xs.length := by
      unfold ixN
      simp
      omega
    unfold atI
    simp [e3]
  rw [e, e2]
  rfl
/-- heaps found while they are joined -/
structure JI (ns : Hs) (L F : List Hs) : Prop where
  fl : L.flatten.Perm ns
  as : ∀ h ∈ F, h.Pairwise (fun a b => a < b) ∧ h ≠ []
  lf : ∀ h ∈ L, h ∈ F
  fw : ∀ h ∈ F, ∃ g ∈ L, ∀ x ∈ h, x ∈ g
  nd : F.Nodup
  nox : ∀ a ∈ F, ∀ b ∈ F, crossB a b = false
  one : ∀ x ∈ ns, [x] ∈ F
  cnt : F.length + L.length ≤ 2 * ns.length
  pos : 1 ≤ L.length
/-- some of them are taken -/
structure JT (ns : Hs) (L L2 : List Hs) (J : Hs) (k : Nat) : Prop where
  fl : (J ++ L2.flatten).Perm ns
  sub : ∀ h ∈ L2, h ∈ L
  ln : L2.length + k = L.length
  kj : k ≤ J.length
  pk : ∀ g ∈ L, g ∈ L2 ∨ ((∀ x ∈ g, x ∈ J) ∧ g.length + k ≤ J.length + 1)
theorem JT.start {ns : Hs} {L : List Hs} (h : L.flatten.Perm ns) : JT ns L L [] 0 := ⟨by simpa using h, fun _ h => h, by omega, by simp, fun g hg => .inl hg⟩
theorem JT.step {ns : Hs} {L L2 : List Hs} {J : Hs} {k i : Nat} (h : JT ns L L2 J k) (ne : ∀ h ∈ L, h ≠ []) (hi : i < L2.length) : JT ns L (L2.eraseIdx i) (J ++ L2[i]) (k + 1) := by
  have p := erase_perm L2 i hi
  have hg : L2[i] ∈ L2 := List.getElem_mem hi
  have hl : 1 ≤ (L2[i]).length := List.length_pos_iff.mpr (ne _ (h.sub _ hg))
  refine ⟨?_, fun x hx => h.sub x (p.mem_iff.mp (List.mem_cons_of_mem _ hx)), ?_, ?_, fun g hg2 => ?_⟩
  · rw [List.append_assoc]
    refine List.Perm.trans (List.Perm.append_left J ?_) h.fl
    have := p.flatten
    rw [List.flatten_cons] at this
    exact this
  · have := p.length_eq
    rw [List.length_cons] at this
    have := h.ln
    omega
  · rw [List.length_append]
    have := h.kj
    omega
  · rcases h.pk g hg2 with z | ⟨z1, z2⟩
    · rcases List.mem_cons.mp (p.mem_iff.mpr z) with rfl | z
      · refine .inr ⟨fun x hx => List.mem_append_right _ hx, ?_⟩
        rw [List.length_append]
        have := h.kj
        omega
      · exact .inl z
    · refine .inr ⟨fun x hx => List.mem_append_left _ (z1 x hx), ?_⟩
      rw [List.length_append]
      omega
theorem JI.join {ns : Hs} {L L2 F : List Hs} {J ms : Hs} {k : Nat} (hn : ns.Nodup) (h : JI ns L F) (t : JT ns L L2 J k) (hk : 2 ≤ k) (hp : ms.Perm J) (ha : ms.Pairwise fun a b => a < b) : JI ns (L2 ++ [ms]) (F ++ [ms]) := by
  have ndJ : (J ++ L2.flatten).Nodup := (t.fl.nodup_iff).mpr hn
  obtain ⟨nJ, nL, dis⟩ := List.nodup_append.mp ndJ
  have nms : ms.Nodup := (hp.nodup_iff).mpr nJ
  have lms : ms.length = J.length := hp.length_eq
  have key : ∀ f ∈ F, (∀ x ∈ f, x ∈ ms) ∨ ∀ x ∈ f, x ∉ ms := fun f hf => by
    obtain ⟨g, hg, hs⟩ := h.fw f hf
    rcases t.pk g hg with z | ⟨z, _⟩
    · refine .inr fun x hx hm => ?_
      exact dis x (hp.mem_iff.mp hm) x (List.mem_flatten.mpr ⟨g, z, hs x hx⟩) rfl
    · exact .inl fun x hx => hp.mem_iff.mpr (z x (hs x hx))
  have nin : ms ∉ F := fun hm => by
    obtain ⟨g, hg, hs⟩ := h.fw ms hm
    rcases t.pk g hg with z | ⟨_, z⟩
    · have : 0 < ms.length := by
        have := t.kj
        omega
      obtain ⟨x, hx⟩ := List.exists_mem_of_length_pos this
      exact dis x (hp.mem_iff.mp hx) x (List.mem_flatten.mpr ⟨g, z, hs x hx⟩) rfl
    · have := List.Nodup.length_le_of_subset nms hs
      omega
  have fnd : ∀ f ∈ F, f.Nodup := fun f hf => asc_nodup (h.as f hf).1
  have cr : ∀ f ∈ F, crossB f ms = false := fun f hf => by
    rcases key f hf with z | z
    · exact cross_sub z
    · exact cross_dis z
  refine ⟨?_, ?_, ?_, ?_, ?_, ?_, ?_, ?_, ?_⟩
  · rw [List.flatten_append, List.flatten_cons, List.flatten_nil, List.append_nil]
    exact (List.perm_append_comm.trans (hp.append_right _)).trans t.fl
  · intro f hf
    rcases List.mem_append.mp hf with z | z
    · exact h.as f z
    · rw [List.mem_singleton.mp z]
      refine ⟨ha, fun e => ?_⟩
      rw [e] at lms
      have := t.kj
      simp at lms
      omega
  · intro f hf
    rcases List.mem_append.mp hf with z | z
    · exact List.mem_append_left _ (h.lf f (t.sub f z))
    · exact List.mem_append_right _ z
  · intro f hf
    rcases List.mem_append.mp hf with z | z
    · obtain ⟨g, hg, hs⟩ := h.fw f z
      rcases t.pk g hg with q | ⟨q, _⟩
      · exact ⟨g, List.mem_append_left _ q, hs⟩
      · exact ⟨ms, by simp, fun x hx => hp.mem_iff.mpr (q x (hs x hx))⟩
    · exact ⟨ms, by simp, by rw [List.mem_singleton.mp z]; exact fun _ h => h⟩
  · rw [List.nodup_append]
    refine ⟨h.nd, by simp, fun a ha b hb e => nin ?_⟩
    rw [← List.mem_singleton.mp hb, ← e]
    exact ha
  · intro a ha b hb
    rcases List.mem_append.mp ha with z | z
    · rcases List.mem_append.mp hb with y | y
      · exact h.nox a z b y
      · rw [List.mem_singleton.mp y]
        exact cr a z
    · rw [List.mem_singleton.mp z]
      rcases List.mem_append.mp hb with y | y
      · rw [cross_comm nms (fnd b y)]
        exact cr b y
      · rw [List.mem_singleton.mp y]
        exact cross_sub fun _ h => h
  · exact fun x hx => List.mem_append_left _ (h.one x hx)
  · have := h.cnt
    have := t.ln
    simp only [List.length_append, List.length_singleton]
    omega
  · simp
theorem asc_perm {a b : Hs} (h : a.Perm b) (ha : a.Pairwise fun a b => a < b) (hb : b.Pairwise fun a b => a < b) : a = b :=
  List.Perm.eq_of_pairwise (le := fun a b : List Nat => a < b) (fun x y _ _ h1 h2 => absurd (List.lt_trans h1 h2) (List.lt_irrefl _)) ha hb h
theorem JI.nest {ns : Hs} {L F N : List Hs} (hn : HN ns) (h : JI ns L F) (h1 : L.length ≤ 1) (hp : N.Perm F) (ha : N.Pairwise fun a b => hlt a b = true) : NestOk ns N 24 := by
  obtain ⟨g, rfl⟩ : ∃ g, L = [g] := by
    have := h.pos
    match L, h1, this with
    | [g], _, _ => exact ⟨g, rfl⟩
  have hg := h.lf g (by simp)
  have e : g = ns := asc_perm (by simpa using h.fl) (h.as g hg).1 hn.asc
  subst e
  have sb : ∀ f ∈ F, ∀ x ∈ f, x ∈ g := fun f hf => by
    obtain ⟨g', h1, h2⟩ := h.fw f hf
    rw [List.mem_singleton.mp h1] at h2
    exact h2
  refine ⟨ha, fun f hf => ?_, hp.mem_iff.mpr hg, fun x hx => hp.mem_iff.mpr (h.one x hx), fun a ha b hb => h.nox a (hp.mem_iff.mp ha) b (hp.mem_iff.mp hb), ?_⟩
  · have hf := hp.mem_iff.mp hf
    have h3 := h.as f hf
    refine ⟨⟨List.length_pos_iff.mpr h3.2, Nat.le_trans (List.Nodup.length_le_of_subset (asc_nodup h3.1) (sb f hf)) hn.le, fun l hl => hn.nms l (sb f hf l hl), h3.1⟩, sb f hf⟩
  · rw [hp.length_eq]
    have := h.cnt
    have := hn.le
    omega
end Law
namespace Law
open PySem PySem.Spec PyProof.Rows L2 PySem.W Pv Mr
theorem how_many {r a : Nat} (hr : r < 6) (ha : 2 ≤ a) : ∃ (v m : Nat), ixD (.list [.int 0, .int 0, .int 0, .int 1, .int 2, .int 9]) (.int r) = some (.val (.int v)) ∧ minD1 [.int a, .int (2 + (v : Int))] = some (.val (.int m)) ∧ 2 ≤ m ∧ m ≤ a := by
  have h : ∃ v : Nat, ixD (.list [.int 0, .int 0, .int 0, .int 1, .int 2, .int 9]) (.int r) = some (.val (.int v)) := by
    have : r = 0 ∨ r = 1 ∨ r = 2 ∨ r = 3 ∨ r = 4 ∨ r = 5 := by omega
    rcases this with rfl | rfl | rfl | rfl | rfl | rfl
    · exact ⟨0, ixLn rfl⟩
    · exact ⟨0, ixLn rfl⟩
    · exact ⟨0, ixLn rfl⟩
    · exact ⟨1, ixLn rfl⟩
    · exact ⟨2, ixLn rfl⟩
    · exact ⟨9, ixLn rfl⟩
  obtain ⟨v, e⟩ := h
  refine ⟨v, min a (2 + v), e, ?_, by omega, by omega⟩
  have := min1_nat a (2 + v)
  rw [← this]
  rfl
theorem mem_flat_len : ∀ {L : List Hs} {h : Hs}, h ∈ L → h.length ≤ L.flatten.length
  | g :: L, h, hh => by
    rw [List.flatten_cons, List.length_append]
    rcases List.mem_cons.mp hh with rfl | z
    · omega
    · have := mem_flat_len z
      omega
theorem joined_ev {l : List PyData} {ns : Hs} {L F : List Hs} (hd : Dr l) (hn : HN ns) (hj : JI ns L F) : Ev (m__law_joined_heaps l (L.map hp) (F.map hp)) fun p => ∃ N, p.1 = nst N ∧ NestOk ns N 24 ∧ Dr p.2.1 := by
  unfold m__law_joined_heaps
  have h12 := hn.le
  have nn := asc_nodup hn.asc
  refine Ev.whil 100 (by omega) (fun m p => ∃ L F : List Hs, p.2.1 = L.map hp ∧ p.2.2 = F.map hp ∧ JI ns L F ∧ Dr p.1 ∧ L.length ≤ m)
    (fun p => ∃ L F : List Hs, p.2.1 = L.map hp ∧ p.2.2 = F.map hp ∧ JI ns L F ∧ Dr p.1 ∧ L.length ≤ 1) ⟨L, F, rfl, rfl, hj, hd, by have := hj.cnt; omega⟩ ?_ ?_
  · rintro m ⟨l1, _, _⟩ ⟨L, F, rfl, rfl, hj, d1, hm⟩
    have hc := hj.cnt
    have hLn : ∀ h ∈ L, h ≠ [] := fun h hh => (hj.as h (hj.lf h hh)).2
    simp only [Mr.len_list, List.length_map, bO_val, cmp_int, lt_int', bB_bool, decide_eq_true_eq]
    by_cases h1 : (1 : Int) < (L.length : Int)
    · rw [if_pos h1]
      refine Ev.bYn (next_ev d1 (by decide) (by decide)) ?_
      rintro ⟨_, l2⟩ ⟨r, rfl, hr, d2⟩
      obtain ⟨v, k, e1, e2, k2, kL⟩ := how_many (r := r) (a := L.length) (by omega) (by omega)
      simp only [e1, bO_val, addI, e2]
      rw [rg1_nat (by omega), bQ_ok]
      refine Ev.for_rng (fun i p => ∃ (L2 : List Hs) (J : Hs), p.2.1 = L2.map hp ∧ p.2.2 = .tuple (J.map nm) ∧ JT ns L L2 J i ∧ Dr p.1) ⟨L, [], rfl, rfl, .start hj.fl, d2⟩ ?_ ?_
      · rintro i ⟨l3, _, _⟩ hi ⟨L2, J, rfl, rfl, ht, d3⟩
        have h2 := ht.ln
        simp only [Mr.len_list, List.length_map, bO_val]
        refine Ev.bYn (next_ev d3 (by omega) (by omega)) ?_
        rintro ⟨_, l4⟩ ⟨q, rfl, hq, d4⟩
        have hq' : q < L2.length := by omega
        have e3 : (L2.map hp)[q]? = some (hp L2[q]) := by rw [List.getElem?_map, List.getElem?_eq_getElem hq']; rfl
        simp only []
        rw [popA_ok e3 (by rw [List.length_map]; omega)]
        simp only [bCL]
        have lj := ht.fl.length_eq
        rw [List.length_append] at lj
        have ll : (L2[q]).length ≤ L2.flatten.length := by
          exact mem_flat_len (List.getElem_mem hq')
        unfold hp
        rw [add_tup (by rw [List.length_map, List.length_map]; omega)]
        simp only [bO_val]
        refine Ev.ok ⟨L2.eraseIdx q, J ++ L2[q], erase_map _ _ _, by rw [List.map_append], ht.step hLn hq', d4⟩
      · rintro ⟨l3, _, _⟩ ⟨L2, J, rfl, rfl, ht, d3⟩
        have h2 := ht.ln
        have lj := ht.fl.length_eq
        rw [List.length_append] at lj
        have nJ : J.Nodup := (List.nodup_append.mp ((ht.fl.nodup_iff).mpr nn)).1
        obtain ⟨ms, p1, p2, p3⟩ := sort_names (ls := J) (by omega) nJ
        simp only [p3, bO_own, ob_lst, tupleD_list, bO_val]
        rw [Mr.app_ok (by rw [List.length_map]; exact Nat.lt_of_lt_of_le (m := 1000) (by omega) (by decide))]
        simp only [bCL]
        rw [ix_last]
        simp only [bO_val]
        rw [Mr.app_ok (by rw [List.length_map]; exact Nat.lt_of_lt_of_le (m := 1000) (by omega) (by decide))]
        simp only [bCL]
        refine Ev.ok ⟨L2.length + 1, by omega, L2 ++ [ms], F ++ [ms], by rw [List.map_append]; rfl, by rw [List.map_append]; rfl, hj.join nn ht k2 p1 p2, d3, by simp⟩
    · rw [if_neg h1]
      exact Ev.ok ⟨L, F, rfl, rfl, hj, d1, by omega⟩
  · rintro ⟨l1, _, _⟩ ⟨L, F, rfl, rfl, hj, d1, h1⟩
    have hc := hj.cnt
    obtain ⟨N, p1, p2, p3⟩ := sort_hps (N := F) (by omega) (fun h hh => (hj.as h hh).2) hj.nd
    simp only [p3, bO_own, ob_lst, tupleD_list, bO_val]
    exact Ev.ok ⟨N, rfl, hj.nest hn h1 p1 p2, d1⟩
theorem flat_one : ∀ ns : Hs, (ns.map fun x => [x]).flatten = ns
  | [] => rfl
  | x :: ns => by rw [List.map_cons, List.flatten_cons, flat_one ns]; rfl
theorem JI.start {ns : Hs} (hn : HN ns) : JI ns (ns.map fun x => [x]) (ns.map fun x => [x]) := by
  have nn := asc_nodup hn.asc
  refine ⟨by rw [flat_one], fun h hh => ?_, fun _ h => h, fun h hh => ⟨h, hh, fun _ h => h⟩, ?_, fun a ha b hb => ?_, fun x hx => List.mem_map.mpr ⟨x, hx, rfl⟩, by simp; omega, by rw [List.length_map]; exact hn.pos⟩
  · obtain ⟨x, _, rfl⟩ := List.mem_map.mp hh
    exact ⟨List.pairwise_singleton _ _, by simp⟩
  · exact List.Pairwise.map _ (fun a b h e => h (by simpa using e)) nn
  · obtain ⟨x, _, rfl⟩ := List.mem_map.mp ha
    exact cross_one
theorem ones_eq {α : Type} (ns : Hs) (h : ns.length ≤ 1000) : compP (ns.map nm) (fun name => okY (some (PyData.tuple [name]))) = some ((ns.map fun x => [x]).map hp) := by
  rw [compP_map (fun d => PyData.tuple [d]) (by rw [List.length_map]; exact lim_big (by omega)) fun x _ => rfl, List.map_map, List.map_map]
  rfl
theorem nest_ev {l : List PyData} {ns : Hs} (hd : Dr l) (hn : HN ns) : Ev (m__law_nest l (hp ns)) fun p => ∃ N, p.1 = nst N ∧ NestOk ns N 24 ∧ Dr p.2 := by
  have h12 := hn.le
  unfold m__law_nest
  simp only [selA_hp, bQ_ok, ones_eq (α := Unit) ns (by omega)]
  refine Ev.bYn (joined_ev hd hn (JI.start hn)) ?_
  rintro ⟨_, l1, _, _⟩ ⟨N, rfl, hN, d1⟩
  exact Ev.ok ⟨N, rfl, hN, d1⟩
end Law
namespace Law
open PySem PySem.Spec PyProof.Rows L2 PySem.W Pv Mr
/-- a nest, but for its order -/
structure PN (ns : Hs) (F : List Hs) (c : Nat) : Prop where
  nd : F.Nodup
  hs : ∀ h ∈ F, HN h ∧ ∀ x ∈ h, x ∈ ns
  top : ns ∈ F
  one : ∀ x ∈ ns, [x] ∈ F
  nox : ∀ a ∈ F, ∀ b ∈ F, crossB a b = false
  len : F.length ≤ c
theorem hasc_nodup {N : List Hs} (h : N.Pairwise fun a b => hlt a b = true) : N.Nodup := h.imp fun {x y} h e => by
  subst e
  rw [hlt_irr] at h
  cases h
theorem NestOk.pn {ns : Hs} {N : List Hs} {c : Nat} (h : NestOk ns N c) : PN ns N c := ⟨hasc_nodup h.asc, h.hs, h.top, h.one, h.nox, h.len⟩
theorem PN.ne {ns : Hs} {F : List Hs} {c : Nat} (h : PN ns F c) : ∀ f ∈ F, f ≠ [] := fun f hf => List.length_pos_iff.mp (h.hs f hf).1.pos
theorem PN.nest {ns : Hs} {F N : List Hs} {c : Nat} (h : PN ns F c) (hp : N.Perm F) (ha : N.Pairwise fun a b => hlt a b = true) : NestOk ns N c :=
  ⟨ha, fun f hf => h.hs f (hp.mem_iff.mp hf), hp.mem_iff.mpr h.top, fun x hx => hp.mem_iff.mpr (h.one x hx), fun a ha b hb => h.nox a (hp.mem_iff.mp ha) b (hp.mem_iff.mp hb), by rw [hp.length_eq]; exact h.len⟩
theorem PN.drop {ns : Hs} {F G : List Hs} {c : Nat} {h : Hs} (hF : PN ns F c) (p : (h :: G).Perm F) (h1 : 1 < h.length) (h2 : h.length < ns.length) : PN ns G c := by
  have m : ∀ {x}, x ∈ F → x ≠ h → x ∈ G := fun {x} hx ne => by
    rcases List.mem_cons.mp (p.mem_iff.mpr hx) with z | z
    · exact absurd z ne
    · exact z
  have s : ∀ {x}, x ∈ G → x ∈ F := fun {x} hx => p.mem_iff.mp (List.mem_cons_of_mem _ hx)
  have nd := (p.nodup_iff).mpr hF.nd
  refine ⟨(List.nodup_cons.mp nd).2, fun x hx => hF.hs x (s hx), m hF.top (fun e => ?_), fun x hx => m (hF.one x hx) (fun e => ?_), fun a ha b hb => hF.nox a (s ha) b (s hb), ?_⟩
  · rw [e] at h2
    omega
  · rw [← e] at h1
    simp at h1
  · have := p.length_eq
    have := hF.len
    rw [List.length_cons] at *
    omega
theorem PN.put {ns : Hs} {F : List Hs} {c : Nat} {h : Hs} (hF : PN ns F c) (hh : HN h) (hs : ∀ x ∈ h, x ∈ ns) (hi : h ∉ F) (hf : ∀ a ∈ F, crossB a h = false) : PN ns (F ++ [h]) (c + 1) := by
  refine ⟨?_, fun x hx => ?_, List.mem_append_left _ hF.top, fun x hx => List.mem_append_left _ (hF.one x hx), fun a ha b hb => ?_, ?_⟩
  · rw [List.nodup_append]
    refine ⟨hF.nd, by simp, fun a ha b hb e => hi ?_⟩
    rw [← List.mem_singleton.mp hb, ← e]
    exact ha
  · rcases List.mem_append.mp hx with z | z
    · exact hF.hs x z
    · rw [List.mem_singleton.mp z]
      exact ⟨hh, hs⟩
  · have nh := asc_nodup hh.asc
    rcases List.mem_append.mp ha with z | z
    · rcases List.mem_append.mp hb with y | y
      · exact hF.nox a z b y
      · rw [List.mem_singleton.mp y]
        exact hf a z
    · rw [List.mem_singleton.mp z]
      rcases List.mem_append.mp hb with y | y
      · rw [cross_comm nh (asc_nodup (hF.hs b y).1.asc)]
        exact hf b y
      · rw [List.mem_singleton.mp y]
        exact cross_sub fun _ h => h
  · rw [List.length_append, List.length_singleton]
    have := hF.len
    omega
theorem rem_eq {N : List Hs} {h : Hs} (hh : h ∈ N) : ∃ G : List Hs, chRem (.lst (N.map hp)) [hp h] = some (.none, .lst (G.map hp)) ∧ (h :: G).Perm N := by
  have hj : ∃ j : Nat, PySem.SeqAt.dataPlace (N.map hp) (hp h) = some j ∧ ∃ hj : j < N.length, N[j] = h := by
    unfold PySem.SeqAt.dataPlace
    cases q : (N.map hp).findIdx? fun y => PyData.eqv y (hp h) with
    | none =>
      exfalso
      have := List.findIdx?_eq_none_iff.mp q (hp h) (List.mem_map.mpr ⟨h, hh, rfl⟩)
      rw [eqv_hp] at this
      simp at this
    | some j =>
      obtain ⟨h1, h2, _⟩ := List.findIdx?_eq_some_iff_getElem.mp q
      rw [List.getElem_map, eqv_hp, decide_eq_true_eq] at h2
      exact ⟨j, rfl, by rw [List.length_map] at h1; exact h1, h2⟩
  obtain ⟨j, e1, hj, e2⟩ := hj
  refine ⟨N.eraseIdx j, ?_, ?_⟩
  · have e : chRem (.lst (N.map hp)) [hp h] = if noDs (N.map hp) = true ∧ okD (hp h) = true then match PySem.SeqAt.dataPlace (N.map hp) (hp h) with
      | some j => some (.none, .lst ((N.map hp).eraseIdx j))
      | none => none
      else none := rfl
    rw [e, if_pos ⟨noDs_hp N, okD_hp h⟩, e1]
    simp only []
    rw [erase_map]
  · have := erase_perm N j hj
    rw [e2] at this
    exact this
theorem ne_nil_hps (N : List Hs) : neA (.list (N.map hp)) (.list []) = some (.val (.bool (decide (N ≠ [])))) := by
  rw [neA_ok (okD_hps N) rfl]
  cases N <;> rfl
/-- the names of two heaps -/
theorem union_ok {ns one other : Hs} (hn : HN ns) (h1 : HN one ∧ ∀ x ∈ one, x ∈ ns) (h2 : HN other ∧ ∀ x ∈ other, x ∈ ns) : ∃ ms : Hs, sortedTp [.tuple (one.map nm ++ (other.filter fun x => decide (x ∉ one)).map nm)] = some (.own (.lst (ms.map nm))) ∧ HN ms ∧ ∀ x ∈ ms, x ∈ ns := by
  have nd : (one ++ other.filter fun x => decide (x ∉ one)).Nodup := by
    rw [List.nodup_append]
    refine ⟨asc_nodup h1.1.asc, List.Nodup.sublist List.filter_sublist (asc_nodup h2.1.asc), fun a ha b hb e => ?_⟩
    subst e
    have := (List.mem_filter.mp hb).2
    simp only [decide_eq_true_eq] at this
    exact this ha
  have sub : ∀ x ∈ one ++ other.filter fun x => decide (x ∉ one), x ∈ ns := fun x hx => by
    rcases List.mem_append.mp hx with z | z
    · exact h1.2 x z
    · exact h2.2 x (List.mem_filter.mp z).1
  have l12 := hn.le
  have ll := List.Nodup.length_le_of_subset nd sub
  obtain ⟨ms, p1, p2, p3⟩ := sort_names (ls := one ++ other.filter fun x => decide (x ∉ one)) (by omega) nd
  rw [List.map_append] at p3
  refine ⟨ms, p3, ⟨?_, ?_, fun x hx => ?_, p2⟩, fun x hx => sub x (p1.mem_iff.mp hx)⟩
  · rw [p1.length_eq, List.length_append]
    have := h1.1.pos
    omega
  · rw [p1.length_eq]
    omega
  · exact hn.nms x (sub x (p1.mem_iff.mp hx))
theorem max_hps {ns : Hs} {N : List Hs} {c : Nat} (h : PN ns N c) : maxD1 [.list ((N.map fun h : Hs => (List.length h : Int)).map PyData.int)] = some (.val (.int ns.length)) := by
  obtain ⟨m, h1, h2, h3⟩ := max_list (vs := N.map fun h : Hs => (List.length h : Int)) (fun e => by
    have := h.top
    rw [List.map_eq_nil_iff.mp e] at this
    cases this)
  obtain ⟨g, hg, e⟩ := List.mem_map.mp h1
  have a := h2 _ (List.mem_map.mpr ⟨ns, h.top, rfl⟩)
  have b := List.Nodup.length_le_of_subset (asc_nodup (h.hs g hg).1.asc) (h.hs g hg).2
  have : m = ns.length := by omega
  rw [h3, this]
theorem near_ev {l : List PyData} {ns : Hs} {N : List Hs} {c : Nat} (hd : Dr l) (hn : HN ns) (hN : NestOk ns N c) (hc : c ≤ 500) : Ev (m__law_near l (nst N)) fun p => ∃ M, p.1 = nst M ∧ NestOk ns M (c + 3) ∧ Dr p.2 := by
  have pn := hN.pn
  have lN := hN.len
  have l12 := hn.le
  have h1 : compP (N.map hp) (fun one => bO (lenD [one]) fun t3 => okY (some t3)) = some ((N.map fun h : Hs => (List.length h : Int)).map PyData.int) := by
    rw [compP_maps (fun h : Hs => some (PyData.int h.length)) (lim_big (by omega)) fun h _ => by simp only [len_hq, bO_val]]
    rw [List.filterMap_eq_map', List.map_map]
    rfl
  have h2 : compP (N.map hp) (fun heap => bY (bO (lenD [heap]) fun t => bO (ltD (.int 1) t) fun t1 => bB t1 fun c1 => if c1 = true then bO (lenD [heap]) fun t2 => bQ (selA (nst N)) fun xs1 => bQ (compP xs1 fun one => bO (lenD [one]) fun t3 => okY (some t3)) fun ys => bO (maxD1 [(.list ys)]) fun t4 => bO (ltD t2 t4) fun t5 => bB t5 fun c2 => okY c2 else okY false) fun c => if c = true then okY (some heap) else okY none)
      = some ((N.filter fun h : Hs => decide ((1 : Int) < (List.length h : Int)) && decide ((List.length h : Int) < (List.length ns : Int))).map hp) :=
    compP_fil (fun h : Hs => decide ((1 : Int) < (List.length h : Int)) && decide ((List.length h : Int) < (List.length ns : Int))) (lim_big (by omega)) fun h _ => by
      simp only [len_hq, bO_val, cmp_int, lt_int', bB_bool, selA_nst, bQ_ok, h1, max_hps pn]
      cases decide ((1 : Int) < (List.length h : Int)) with
      | false => simp
      | true => by_cases q : List.length h < List.length ns <;> simp [q]
  unfold m__law_near
  simp only [selA_nst, bQ_ok] at h2 ⊢
  rw [h2]
  simp only [bQ_ok]
  generalize hI : (N.filter fun h : Hs => decide ((1 : Int) < (List.length h : Int)) && decide ((List.length h : Int) < (List.length ns : Int))) = I
  have hmem : ∀ h ∈ I, h ∈ N ∧ 1 < h.length ∧ h.length < ns.length := fun h hh => by
    rw [← hI] at hh
    obtain ⟨a, b⟩ := List.mem_filter.mp hh
    simp only [Bool.and_eq_true, decide_eq_true_eq] at b
    exact ⟨a, by omega, by omega⟩
  have lI : I.length ≤ N.length := by rw [← hI]; exact List.length_filter_le _ _
  have eL : listD [nst N] = some (.own (.lst (N.map hp))) := rfl
  rw [eL]
  simp only [bOL_own, ne_nil_hps, bO_val, bB_bool]
  refine Ev.bY (R := fun p => ∃ F : List Hs, p.2 = F.map hp ∧ PN ns F c ∧ Dr p.1) ?_ ?_
  · refine Ev.bY (R := fun p => Dr p.2 ∧ (p.1 = true → I ≠ [])) ?_ ?_
    · by_cases q : I ≠ []
      · rw [if_pos (by simpa using q)]
        refine Ev.bYn (next_ev hd (by decide) (by decide)) ?_
        rintro ⟨_, l1⟩ ⟨n, rfl, hn4, d1⟩
        simp only [cmp_int, bO_val, bB_bool]
        exact Ev.ok ⟨d1, fun _ => q⟩
      · rw [if_neg (by simpa using q)]
        exact Ev.ok ⟨hd, fun z => by cases z⟩
    · rintro ⟨c3, l1⟩ ⟨d1, hne⟩
      simp only []
      cases c3 with
      | false =>
        rw [if_neg (by decide)]
        exact Ev.ok ⟨N, rfl, pn, d1⟩
      | true =>
        rw [if_pos rfl]
        have pI := List.length_pos_iff.mpr (hne rfl)
        simp only [Mr.len_list, List.length_map, bO_val]
        refine Ev.bYn (next_ev d1 (by omega) (by omega)) ?_
        rintro ⟨_, l2⟩ ⟨r, rfl, hr, d2⟩
        have hr' : r < I.length := by omega
        have e1 : ixD (.list (I.map hp)) (.int r) = some (.val (hp I[r])) := ixLn (by rw [List.getElem?_map, List.getElem?_eq_getElem hr']; rfl)
        simp only [e1, bO_val]
        obtain ⟨m1, m2, m3⟩ := hmem _ (List.getElem_mem hr')
        obtain ⟨G, e2, pG⟩ := rem_eq m1
        rw [e2]
        simp only [bCL]
        exact Ev.ok ⟨G, rfl, pn.drop pG m2 m3, d2⟩
  · rintro ⟨l1, _⟩ ⟨F, rfl, hF, d1⟩
    simp only []
    refine Ev.bYn (next_ev d1 (by decide) (by decide)) ?_
    rintro ⟨_, l2⟩ ⟨t, rfl, ht, d2⟩
    simp only []
    rw [rg1_nat (by omega), bQ_ok]
    have pN : 0 < N.length := List.length_pos_of_mem hN.top
    refine Ev.for_rng (fun i p => ∃ F : List Hs, p.2 = F.map hp ∧ PN ns F (c + i) ∧ Dr p.1) ⟨F, rfl, hF, d2⟩ ?_ ?_
    · rintro i ⟨l3, _⟩ hi ⟨F, rfl, hF, d3⟩
      have lF := hF.len
      simp only [len_nst, bO_val]
      refine Ev.bYn (next_ev d3 (by omega) (by omega)) ?_
      rintro ⟨_, l4⟩ ⟨a, rfl, ha, d4⟩
      have ha' : a < N.length := by omega
      have e1 : ixD (nst N) (.int a) = some (.val (hp N[a])) := ixTn (by rw [List.getElem?_map, List.getElem?_eq_getElem ha']; rfl)
      simp only [e1, bO_val]
      refine Ev.bYn (next_ev d4 (by omega) (by omega)) ?_
      rintro ⟨_, l5⟩ ⟨b, rfl, hb, d5⟩
      have hb' : b < N.length := by omega
      have e2 : ixD (nst N) (.int b) = some (.val (hp N[b])) := ixTn (by rw [List.getElem?_map, List.getElem?_eq_getElem hb']; rfl)
      simp only [e2, bO_val, selA_hp, bQ_ok]
      have o1 := hN.hs _ (List.getElem_mem ha')
      have o2 := hN.hs _ (List.getElem_mem hb')
      have le1 := o1.1.le
      have le2 := o2.1.le
      have h3 : compP ((N[b]).map nm) (fun name => bO (inD true name (hp N[a])) fun t12 => bB t12 fun c6 => if c6 = true then okY (some name) else okY none) = some (((N[b]).filter fun x => decide (x ∉ N[a])).map nm) :=
        compP_fil (fun x => decide (x ∉ N[a])) (lim_big (by omega)) fun x _ => by
          simp only [in_hp, bO_val, bB_bool, Bool.true_xor]
          by_cases q : x ∈ N[a] <;> simp [q]
      rw [h3]
      simp only [bQ_ok, tupleD_list, bO_val]
      obtain ⟨ms, s1, s2, s3⟩ := union_ok hn o1 o2
      have fl := List.length_filter_le (fun x => decide (x ∉ N[a])) N[b]
      have e3 : addTD (hp N[a]) (.tuple (((N[b]).filter fun x => decide (x ∉ N[a])).map nm)) = some (.val (.tuple ((N[a]).map nm ++ ((N[b]).filter fun x => decide (x ∉ N[a])).map nm))) := add_tup (by rw [List.length_map, List.length_map]; omega)
      rw [e3]
      simp only [bO_val, s1, bO_own, ob_lst, tupleD_list]
      have e4 := in_lst true ms F
      unfold hp at e4
      have e5 := fits_eq (N := F) (h := ms) (by omega) fun a ha => Nat.le_trans (hF.hs a ha).1.le (by decide)
      unfold hp at e5
      have e6 : hp = fun ls : Hs => PyData.tuple (ls.map nm) := rfl
      rw [e6, e4]
      simp only [bO_val, bB_bool, Bool.true_xor]
      by_cases q : ms ∈ F
      · simp only [q, decide_true, Bool.not_true, Bool.false_eq_true, if_false, bY_ok]
        exact Ev.ok ⟨F, rfl, ⟨hF.nd, hF.hs, hF.top, hF.one, hF.nox, by omega⟩, d5⟩
      · simp only [q, decide_false, Bool.not_false, if_true, e5, bY_ok, atomD, bG_true, tru_bool, bQ_ok]
        by_cases q2 : (F.all fun a => !crossB a ms) = true
        · rw [if_pos q2, Mr.app_ok (by rw [List.length_map]; exact Nat.lt_of_lt_of_le (m := 1000) (by omega) (by decide))]
          simp only [bCL]
          refine Ev.ok ⟨F ++ [ms], by rw [List.map_append]; rfl, ?_, d5⟩
          exact hF.put s2 s3 q fun a ha => by
            have := List.all_eq_true.mp q2 a ha
            simpa using this
        · rw [if_neg q2]
          exact Ev.ok ⟨F, rfl, ⟨hF.nd, hF.hs, hF.top, hF.one, hF.nox, by omega⟩, d5⟩
    · rintro ⟨l3, _⟩ ⟨F, rfl, hF, d3⟩
      have lF := hF.len
      obtain ⟨M, p1, p2, p3⟩ := sort_hps (N := F) (by omega) hF.ne hF.nd
      simp only [p3, bO_own, ob_lst, tupleD_list, bO_val]
      have z := hF.nest p1 p2
      exact Ev.ok ⟨M, rfl, ⟨z.asc, z.hs, z.top, z.one, z.nox, by have := z.len; omega⟩, d3⟩
end Law
namespace Law
open PySem PySem.Spec PyProof.Rows L2 PySem.W Pv Mr
theorem NestOk.mono {ns : Hs} {N : List Hs} {c c' : Nat} (h : NestOk ns N c) (hc : c ≤ c') : NestOk ns N c' := ⟨h.asc, h.hs, h.top, h.one, h.nox, Nat.le_trans h.len hc⟩
theorem nests_ev {l : List PyData} {m k : Nat} (hd : Dr l) (hm : m ≤ 12) (hm1 : 1 ≤ m) (hk : k ≤ 20) (hk1 : 1 ≤ k) : Ev (m__law_nests l (.int m) (.int k)) fun p => ∃ (ns : Hs) (Ns : List (List Hs)), p.1 = .list (Ns.map nst) ∧ HN ns ∧ 1 ≤ Ns.length ∧ Ns.length ≤ k ∧ (∀ N ∈ Ns, NestOk ns N 500) ∧ Dr p.2 := by
  unfold m__law_nests
  refine Ev.bYn (next_ev hd (by omega) (by omega)) ?_
  rintro ⟨_, l1⟩ ⟨n, rfl, hn, d1⟩
  obtain ⟨ls, l2, e1, d2, h1, h2, h3⟩ := ev_names (n := 1 + n) d1 (by omega)
  have e0 : addD (.int 1) (.int (n : Int)) = some (.val (.int ((1 + n : Nat) : Int))) := by
    rw [addI]
    congr 3
  simp only [e0, bO_val, e1, bYn_ok]
  have hn : HN ls := ⟨by omega, by omega, h2, h3⟩
  refine Ev.bYn (nest_ev d2 hn) ?_
  rintro ⟨_, l3⟩ ⟨N, rfl, hN, d3⟩
  simp only []
  refine Ev.bYn (next_ev d3 (by omega) (by omega)) ?_
  rintro ⟨_, l4⟩ ⟨t, rfl, ht, d4⟩
  simp only []
  rw [rg1_nat (by omega), bQ_ok]
  refine Ev.for_rng (fun i p => ∃ Ns : List (List Hs), p.2 = Ns.map nst ∧ Ns.length = i + 1 ∧ (∀ N ∈ Ns, NestOk ls N (24 + 3 * i)) ∧ Dr p.1) ⟨[N], rfl, rfl, fun M hM => by rw [List.mem_singleton.mp hM]; exact hN, d4⟩ ?_ ?_
  · rintro i ⟨l5, _⟩ hi ⟨Ns, rfl, hl, hNs, d5⟩
    simp only [Mr.len_list, List.length_map, bO_val]
    refine Ev.bYn (next_ev d5 (by omega) (by omega)) ?_
    rintro ⟨_, l6⟩ ⟨a, rfl, ha, d6⟩
    have ha' : a < Ns.length := by omega
    have e2 : ixD (.list (Ns.map nst)) (.int a) = some (.val (nst Ns[a])) := ixLn (by rw [List.getElem?_map, List.getElem?_eq_getElem ha']; rfl)
    simp only [e2, bO_val]
    have hb := hNs _ (List.getElem_mem ha')
    refine Ev.bYn (near_ev d6 hn hb (by omega)) ?_
    rintro ⟨_, l7⟩ ⟨M1, rfl, hM1, d7⟩
    simp only []
    refine Ev.bYn (near_ev d7 hn hb (by omega)) ?_
    rintro ⟨_, l8⟩ ⟨M2, rfl, hM2, d8⟩
    simp only []
    refine Ev.bYn (nest_ev d8 hn) ?_
    rintro ⟨_, l9⟩ ⟨M3, rfl, hM3, d9⟩
    simp only []
    refine Ev.bYn (next_ev d9 (by omega) (by omega)) ?_
    rintro ⟨_, l10⟩ ⟨w, rfl, hw, d10⟩
    have h4 : ∃ M, ixD (.list [nst M1, nst M2, nst Ns[a], nst M3]) (.int w) = some (.val (nst M)) ∧ NestOk ls M (24 + 3 * (i + 1)) := by
      have : w = 0 ∨ w = 1 ∨ w = 2 ∨ w = 3 := by omega
      rcases this with rfl | rfl | rfl | rfl
      · exact ⟨M1, ixLn rfl, hM1.mono (by omega)⟩
      · exact ⟨M2, ixLn rfl, hM2.mono (by omega)⟩
      · exact ⟨Ns[a], ixLn rfl, hb.mono (by omega)⟩
      · exact ⟨M3, ixLn rfl, hM3.mono (by omega)⟩
    obtain ⟨M, e3, hM⟩ := h4
    simp only [e3, bO_val]
    rw [Mr.app_ok (by rw [List.length_map]; exact Nat.lt_of_lt_of_le (m := 1000) (by omega) (by decide))]
    simp only [bCL]
    refine Ev.ok ⟨Ns ++ [M], by rw [List.map_append]; rfl, by simp [hl], fun x hx => ?_, d10⟩
    rcases List.mem_append.mp hx with z | z
    · exact (hNs x z).mono (by omega)
    · rw [List.mem_singleton.mp z]
      exact hM
  · rintro ⟨l5, _⟩ ⟨Ns, rfl, hl, hNs, d5⟩
    exact Ev.ok ⟨ls, Ns, rfl, hn, by omega, by omega, fun N hN => (hNs N hN).mono (by omega), d5⟩
/-! is_nest -/
theorem is_heap_hp {a : Hs} (h : HN a) : m_is_heap (hp a) = okY (.bool true) := by
  rw [is_heap_eq (good_hp h.nms), heapB_hp h]
theorem lt_hps (a b : Hs) : ltD (hp a) (hp b) = some (.val (.bool (hlt a b))) := by
  have e : cAl (hp a) (hp b) = true := by
    unfold cAl
    rw [alike_hp]
    rfl
  have := cmpD_ok (f := PySem.W.dataLt) (okD_hp a) (okD_hp b) e
  rw [dataLt_hp] at this
  exact this
theorem do_rise_hps {N : List Hs} (ha : N.Pairwise fun a b => hlt a b = true) (h1 : 1 ≤ N.length) (h2 : N.length ≤ 1000) : m_do_rise (nst N) = okY (.bool true) := by
  unfold m_do_rise
  have e1 : subD (.int N.length) (.int 1) = some (.val (.int ((N.length - 1 : Nat) : Int))) := by
    rw [subI]
    congr 3
    omega
  simp only [len_nst, bO_val, e1]
  rw [rg1_nat (by omega), bQ_ok]
  rw [compP_rng (fun i => PyData.bool true) (by show N.length - 1 ≤ 1000000; omega) (fun i hi => by
    have g1 : ixD (nst N) (.int i) = some (.val (hp (N[i]'(by omega)))) := ixTn (by rw [List.getElem?_map, List.getElem?_eq_getElem (by omega)]; rfl)
    have g2 : ixD (nst N) (.int ((i : Int) + 1)) = some (.val (hp (N[i + 1]'(by omega)))) := by
      have := ixTn (xs := N.map hp) (i := i + 1) (d := hp (N[i + 1]'(by omega))) (by rw [List.getElem?_map, List.getElem?_eq_getElem (by omega)]; rfl)
      show ixD (.tuple (N.map hp)) _ = _
      simpa using this
    have g3 : hlt (N[i]'(by omega)) (N[i + 1]'(by omega)) = true := List.pairwise_iff_getElem.mp ha i (i + 1) (by omega) (by omega) (by omega)
    simp only [g1, bO_val, addI, g2, lt_hps, g3])]
  have e2 : ((List.range (N.length - 1)).map fun i => PyData.bool true) = ((List.range (N.length - 1)).map fun i => true).map PyData.bool := by
    rw [List.map_map]
    rfl
  rw [bQ_ok, e2, allD1_map]
  simp only [bO_val]
  have : ((List.range (N.length - 1)).map fun i => true).all id = true := by
    rw [List.all_map]
    exact List.all_eq_true.mpr fun _ _ => rfl
  rw [this]
/-! the names, as keys -/
def kvN (K : Hs) : List (PyData × PyData) := K.map fun x => (nm x, .bool true)
def insK (K : Hs) (x : List Nat) : Hs := if x ∈ K then K else K ++ [x]
theorem keq_nm (a b : List Nat) : keq (nm a) (nm b) = decide (a = b) := by
  have : keq (nm a) (nm b) = PyData.eqv (nm a) (nm b) := rfl
  rw [this, eqv_nn]
theorem dPut_kvN (K : Hs) (x : List Nat) : dPut (kvN K) (nm x) (.bool true) = kvN (insK K x) := by
  have e : ((kvN K).any fun kv => keq kv.1 (nm x)) = decide (x ∈ K) := by
    unfold kvN
    rw [List.any_map, Bool.eq_iff_iff, List.any_eq_true, decide_eq_true_eq]
    constructor
    · rintro ⟨y, hy, h⟩
      have h : keq (nm y) (nm x) = true := h
      rw [keq_nm, decide_eq_true_eq] at h
      rw [← h]
      exact hy
    · intro h
      exact ⟨x, h, by show keq (nm x) (nm x) = true; rw [keq_nm]; simp⟩
  unfold dPut insK
  rw [e]
  by_cases h : x ∈ K
  · simp only [h, decide_true, if_true]
    unfold kvN
    rw [List.map_map]
    refine List.map_congr_left fun y _ => ?_
    show (if keq (nm y) (nm x) = true then (nm y, PyData.bool true) else (nm y, .bool true)) = (nm y, .bool true)
    split <;> rfl
  · simp only [h, decide_false, if_false, Bool.false_eq_true]
    unfold kvN
    rw [List.map_append]
    rfl
theorem putAll_kvN : ∀ (h K : Hs), putAllD (kvN K) (kvN h) = kvN (h.foldl insK K)
  | [], K => rfl
  | x :: h, K => by
    show putAllD (dPut (kvN K) (nm x) (.bool true)) (kvN h) = _
    rw [dPut_kvN, putAll_kvN h]
    rfl
theorem insK_mem {K : Hs} {x y : List Nat} : y ∈ insK K x ↔ y ∈ K ∨ y = x := by
  unfold insK
  split
  · rename_i h
    constructor
    · exact .inl
    · rintro (z | rfl)
      · exact z
      · exact h
  · simp
theorem insK_nd {K : Hs} {x : List Nat} (h : K.Nodup) : (insK K x).Nodup := by
  unfold insK
  split
  · exact h
  · rename_i q
    rw [List.nodup_append]
    exact ⟨h, by simp, fun a ha b hb e => q (by rw [← List.mem_singleton.mp hb, ← e]; exact ha)⟩
theorem fold_mem : ∀ {h K : Hs} {y : List Nat}, y ∈ h.foldl insK K ↔ y ∈ K ∨ y ∈ h
  | [], K, y => by simp
  | x :: h, K, y => by
    rw [List.foldl_cons, fold_mem (h := h), insK_mem, List.mem_cons]
    constructor
    · rintro ((z | z) | z)
      · exact .inl z
      · exact .inr (.inl z)
      · exact .inr (.inr z)
    · rintro (z | z | z)
      · exact .inl (.inl z)
      · exact .inl (.inr z)
      · exact .inr z
theorem fold_nd : ∀ {h K : Hs}, K.Nodup → (h.foldl insK K).Nodup
  | [], K, h => h
  | x :: h, K, n => fold_nd (h := h) (insK_nd n)
theorem fold_new : ∀ {h K : Hs}, h.Nodup → (∀ x ∈ h, x ∉ K) → h.foldl insK K = K ++ h
  | [], K, _, _ => by simp
  | x :: h, K, n, d => by
    have e : insK K x = K ++ [x] := if_neg (d x (by simp))
    rw [List.foldl_cons, e, fold_new (List.nodup_cons.mp n).2 fun y hy z => ?_]
    · simp
    · rcases List.mem_append.mp z with q | q
      · exact d y (List.mem_cons_of_mem _ hy) q
      · rw [List.mem_singleton.mp q] at hy
        exact (List.nodup_cons.mp n).1 hy
theorem asPrK_nm : ∀ h : Hs, asPrK (h.map fun x => PyData.tuple [nm x, .bool true]) = some (kvN h)
  | [] => rfl
  | x :: h => by
    rw [List.map_cons, asPrK, asPrK_nm h]
    rfl
theorem dictK_nm {h : Hs} (n : h.Nodup) (hl : h.length ≤ 1000) : dictK [.list (h.map fun x => PyData.tuple [nm x, .bool true])] = some (.own (.dct false (kvN h))) := by
  have e : dictK [.list (h.map fun x => PyData.tuple [nm x, .bool true])] = match asPrK (h.map fun x => PyData.tuple [nm x, .bool true]) with
    | some ps => if (h.map fun x => PyData.tuple [nm x, .bool true]).length ≤ lim then some (.own (.dct false (putAllD [] ps))) else none
    | none => none := rfl
  rw [e, asPrK_nm]
  simp only [List.length_map]
  rw [if_pos (lim_big (by omega))]
  have : putAllD [] (kvN h) = kvN (h.foldl insK []) := putAll_kvN h []
  rw [this, fold_new n (fun _ _ z => by cases z)]
  rfl
theorem upd_nm {K h : Hs} (hh : h ≠ []) (h1 : K.length ≤ 1000) (h2 : h.length ≤ 1000) : chUpd (.dct false (kvN K)) [.dict (kvN h)] = some (.none, .dct false (kvN (h.foldl insK K))) := by
  have e : chUpd (.dct false (kvN K)) [.dict (kvN h)] = if keysK (kvN h) = true ∧ kvN h ≠ [] ∧ (kvN K).length + (kvN h).length ≤ lim then some (.none, .dct false (putAllD (kvN K) (kvN h))) else none := rfl
  rw [e, if_pos, putAll_kvN]
  refine ⟨?_, ?_, ?_⟩
  · unfold keysK kvN
    rw [List.all_map]
    exact List.all_eq_true.mpr fun _ _ => rfl
  · intro z
    exact hh (List.map_eq_nil_iff.mp z)
  · unfold kvN
    rw [List.length_map, List.length_map]
    exact lim_big (by omega)
theorem sorted_kvN {K ns : Hs} (hp : K.Perm ns) (ha : ns.Pairwise fun a b => a < b) (h1 : K ≠ []) (h2 : K.length < 64) : sortedKD [.dict (kvN K)] = some (.own (.lst (ns.map nm))) := by
  have nK : K.Nodup := (hp.nodup_iff).mpr (asc_nodup ha)
  obtain ⟨ms, p1, p2, p3⟩ := sort_nm (ls := K) (by omega) nK
  have e : ms = ns := asc_perm (p1.trans hp) p2 ha
  subst e
  have e1 : sortedA [.list (K.map nm)] = match sortedD1 [.list (K.map nm)] with
    | some z => some z
    | none => sortedT1 [.list (K.map nm)] := rfl
  have e2 : sortedD1 [.list (K.map nm)] = some (.own (.lst (sortD (K.map nm)))) := if_pos (sortOk_nm (by omega))
  rw [e2] at e1
  rw [e1] at p3
  have p4 : sortD (K.map nm) = ms.map nm := by
    injection p3 with p3
    injection p3 with p3
    injection p3
  have e3 : sortedKD [.dict (kvN K)] = if kvN K ≠ [] ∧ txtKeys (kvN K) = true ∧ (kvN K).length < 64 then some (.own (.lst (sortD ((kvN K).map (·.1))))) else none := rfl
  have e4 : (kvN K).map (·.1) = K.map nm := by
    unfold kvN
    rw [List.map_map]
    rfl
  rw [e3, if_pos, e4, p4]
  refine ⟨fun z => h1 (List.map_eq_nil_iff.mp z), ?_, by unfold kvN; rw [List.length_map]; exact h2⟩
  unfold txtKeys kvN
  rw [List.all_map]
  exact List.all_eq_true.mpr fun _ _ => rfl
theorem keys_kvN (K : Hs) : keysD (kvN K) = K.map nm := by
  unfold keysD kvN
  rw [List.map_map]
  rfl
end Law
namespace Law
open PySem PySem.Spec PyProof.Rows L2 PySem.W Pv Mr
theorem rg2_nat {a b : Nat} (ha : a < 1000000) (hb : b < 1000000) : rg2 [.int a, .int b] = some (rngD a (b - a)) := by
  have e : rg2 [.int (a : Int), .int (b : Int)] = if -1000000000 ≤ (a : Int) ∧ (a : Int) < 1000000000 ∧ -1000000000 ≤ (b : Int) ∧ (b : Int) < 1000000000 then some (rngD a ((b : Int) - a).toNat) else none := rfl
  rw [e, if_pos ⟨by omega, by omega, by omega, by omega⟩]
  have z : ((b : Int) - (a : Int)).toNat = b - a := by omega
  rw [z]
theorem mem_rngD {a n : Nat} {x : PyData} (h : x ∈ rngD a n) : ∃ j : Nat, x = .int ((a + j : Nat) : Int) ∧ j < n := by
  unfold rngD at h
  obtain ⟨j, hj, rfl⟩ := List.mem_map.mp h
  exact ⟨j, by congr 1, List.mem_range.mp hj⟩
theorem mem_enumD {xs : List PyData} {p : PyData} (h : p ∈ enumD xs) : ∃ (i : Nat) (x : PyData), xs[i]? = some x ∧ p = pairD (.int (i : Nat)) x := by
  unfold enumD at h
  obtain ⟨i, hi, rfl⟩ := List.mem_mapIdx.mp h
  exact ⟨i, xs[i], by rw [List.getElem?_eq_getElem], rfl⟩
theorem ix_nst {N : List Hs} {i : Nat} (h : i < N.length) : ixD (nst N) (.int i) = some (.val (hp N[i])) := ixTn (by rw [List.getElem?_map, List.getElem?_eq_getElem h]; rfl)
theorem first_none {N : List Hs} (hl : N.length ≤ 1000) (hh : ∀ h ∈ N, h.length ≤ 1000) (hx : ∀ a ∈ N, ∀ b ∈ N, crossB a b = false) : m_first_crossing (nst N) = okY .none := by
  have en : enA [nst N] = some (enumD (N.map hp)) := rfl
  unfold m_first_crossing
  rw [en, bQ_ok]
  rw [forY_none]
  · rfl
  · intro p hp'
    obtain ⟨i, x, h1, rfl⟩ := mem_enumD hp'
    rw [List.getElem?_map] at h1
    obtain ⟨a, h2, rfl⟩ := Option.map_eq_some_iff.mp h1
    have hi := (List.getElem?_eq_some_iff.mp h2).1
    have hma := List.mem_of_getElem? h2
    have e1 : addD (.int (i : Int)) (.int 1) = some (.val (.int ((i + 1 : Nat) : Int))) := by
      rw [addI]
      congr 3
    simp only [unT_pair, at2_ok, e1, bO_val, len_nst]
    rw [rg2_nat (by omega) (by omega), bQ_ok]
    rw [forY_none]
    · rfl
    · intro x hx'
      obtain ⟨j, rfl, hj⟩ := mem_rngD hx'
      have hij : i + 1 + j < N.length := by omega
      have hmb := List.getElem_mem hij
      have e2 := do_cross_eq (a := a) (b := N[i + 1 + j]) (hh a hma)
      rw [hx a hma _ hmb] at e2
      simp only [len_hq, bO_val, cmp_int, lt_int', bB_bool, ix_nst hij, e2, bY_ok, tru_bool, bQ_ok]
      split
      · split <;> rfl
      · rfl
theorem is_nest_ok {ns : Hs} {N : List Hs} {c : Nat} (hn : HN ns) (h : NestOk ns N c) (hc : c ≤ 1000) : m_is_nest (nst N) = okY (.bool true) := by
  have lN := h.len
  have pN : 1 ≤ N.length := List.length_pos_of_mem h.top
  have any : anyT ["tuple"] (nst N) = true := rfl
  have en : eqA (nst N) (.tuple []) = some (.val (.bool false)) := by
    have ok : okD (nst N) = true := by
      have := okD_hps N
      unfold nst
      rw [okD, Bool.and_eq_true] at *
      exact ⟨this.1, this.2⟩
    rw [eqA_ok ok rfl]
    cases N with
    | nil => simp at pN
    | cons a N => rfl
  have h1 : compP (N.map hp) (fun heap => bYn (m_is_heap heap) fun r => okY (some r)) = some ((N.map fun _ => true).map PyData.bool) := by
    rw [compP_maps (fun h : Hs => some (PyData.bool true)) (lim_big (by omega)) fun a ha => by rw [is_heap_hp (h.hs a ha).1]; rfl]
    rw [List.filterMap_eq_map', List.map_map]
    rfl
  have a1 : (N.map fun _ => true).all id = true := by
    rw [List.all_map]
    exact List.all_eq_true.mpr fun _ _ => rfl
  have hf : ∃ K : Hs, K.Perm ns ∧ forS (N.map hp) ([] : List (PyData × PyData)) (fun heap1 names => bQ (selA heap1) fun xs2 => bQ (compP xs2 fun name => okY (some (.tuple [name, (.bool true)]))) fun ys1 => bO (dictK [(.list ys1)]) fun t2 => bC (ofK false) (chUpd (.dct false names) [t2]) fun r2 names1 => okY names1) = okY (kvN K) := by
    obtain ⟨s, e, K, rfl, k1, k2, k3⟩ := forS_inv (f := fun heap1 names => bQ (selA heap1) fun xs2 => bQ (compP xs2 fun name => okY (some (PyData.tuple [name, (.bool true)]))) fun ys1 => bO (dictK [(.list ys1)]) fun t2 => bC (ofK false) (chUpd (.dct false names) [t2]) fun r2 names1 => okY names1) (xs := N.map hp) (s := ([] : List (PyData × PyData)))
      (fun i s => ∃ K : Hs, s = kvN K ∧ K.Nodup ∧ (∀ x ∈ K, x ∈ ns) ∧ ∀ j (hj : j < N.length), j < i → ∀ x ∈ N[j], x ∈ K) ⟨[], rfl, List.nodup_nil, fun _ z => (by cases z), fun _ _ z => by omega⟩ fun i x s hx hs => by
        obtain ⟨K, rfl, k1, k2, k3⟩ := hs
        rw [List.getElem?_map] at hx
        obtain ⟨a, hx2, rfl⟩ := Option.map_eq_some_iff.mp hx
        have ha := List.mem_of_getElem? hx2
        have hi := (List.getElem?_eq_some_iff.mp hx2).1
        have ea : N[i] = a := (List.getElem?_eq_some_iff.mp hx2).2
        obtain ⟨o1, o2⟩ := h.hs a ha
        have nda := asc_nodup o1.asc
        have lK := List.Nodup.length_le_of_subset k1 k2
        have l12 := hn.le
        have la := o1.le
        have e1 : compP (a.map nm) (fun name => okY (some (PyData.tuple [name, (.bool true)]))) = some (a.map fun x => PyData.tuple [nm x, .bool true]) := by
          rw [compP_map (fun d => PyData.tuple [d, .bool true]) (by rw [List.length_map]; exact lim_big (by omega)) fun x _ => rfl, List.map_map]
          rfl
        simp only [selA_hp, bQ_ok, e1, dictK_nm nda (by omega), bO_own, ob_dct]
        rw [upd_nm (List.length_pos_iff.mp o1.pos) (by omega) (by omega)]
        simp only [bCK]
        refine ⟨_, rfl, _, rfl, fold_nd k1, fun x hx => ?_, fun j hj hji x hx5 => ?_⟩
        · rcases fold_mem.mp hx with z | z
          · exact k2 x z
          · exact o2 x z
        · rw [fold_mem]
          by_cases q : j < i
          · exact .inl (k3 j hj q x hx5)
          · have : j = i := by omega
            subst this
            rw [ea] at hx5
            exact .inr hx5
    obtain ⟨j, hj, ej⟩ := List.mem_iff_getElem.mp h.top
    refine ⟨K, (List.perm_ext_iff_of_nodup k1 (asc_nodup hn.asc)).mpr fun x => ⟨k2 x, fun hx => k3 j hj (by rw [List.length_map]; exact hj) x (by rw [ej]; exact hx)⟩, e⟩
  obtain ⟨K, pK, eK⟩ := hf
  have lK := pK.length_eq
  have l12 := hn.le
  have l1 := hn.pos
  have e3 := in_nst true ns N
  have h2 : compP (K.map nm) (fun name1 => bO (inD false (.tuple [name1]) (nst N)) fun t6 => okY (some t6)) = some ((K.map fun _ => true).map PyData.bool) := by
    rw [compP_maps (fun x : List Nat => some (PyData.bool true)) (lim_big (by omega)) fun x hx => by
      have := in_nst false [x] N
      have e : hp [x] = .tuple [nm x] := rfl
      rw [e] at this
      rw [this]
      have q : [x] ∈ N := h.one x (pK.mem_iff.mp hx)
      simp [q]]
    rw [List.filterMap_eq_map', List.map_map]
    rfl
  have a2 : (K.map fun _ => true).all id = true := by
    rw [List.all_map]
    exact List.all_eq_true.mpr fun _ _ => rfl
  unfold m_is_nest
  simp only [any, tru_bool, bQ_ok, Bool.not_true, Bool.false_eq_true, if_false, en, bO_val, bB_bool, selA_nst, h1, allD1_map, a1, bY_ok, do_rise_hps h.asc pN (by omega)]
  rw [eK]
  simp only [bY_ok, sorted_kvN pK hn.asc (fun z => by rw [z] at lK; simp at lK; omega) (by omega), bO_own, ob_lst, tupleD_list, bO_val]
  have e4 : inD true (.tuple (ns.map nm)) (nst N) = some (.val (.bool (true ^^ decide (ns ∈ N)))) := e3
  simp only [e4, h.top, decide_true, bO_val, bB_bool, Bool.xor_self, Bool.false_eq_true, if_false, keys_kvN, h2, bQ_ok, allD1_map, a2, tru_bool, Bool.not_true, bY_ok, first_none (by omega) (fun a ha => Nat.le_trans (h.hs a ha).1.le (by decide)) h.nox]
  rfl
end Law
namespace Law
open PySem PySem.Spec PyProof.Rows L2 PySem.W Pv Mr
theorem lensK_hp : ∀ N : List Hs, lensK (N.map hp) = some (N.map fun h : Hs => (List.length h : Int))
  | [] => rfl
  | h :: N => by
    have e : lenK (hp h) = some ((List.length h : Nat) : Int) := by
      show some (((h.map nm).length : Nat) : Int) = _
      rw [List.length_map]
    rw [List.map_cons, lensK, e, lensK_hp N]
    rfl
theorem top_ok {ns : Hs} {N : List Hs} {c : Nat} (hn : HN ns) (h : NestOk ns N c) : m_top_of (nst N) = okY (hp ns) := by
  have key : maxLD [nst N] = some (.val (hp ns)) := by
    have e : maxLD [nst N] = match lensK (N.map hp) with
      | some ks => ((N.map hp)[firstMx ks]?).map .val
      | none => none := rfl
    rw [e, lensK_hp]
    simp only []
    obtain ⟨i, hi, ei⟩ := List.mem_iff_getElem.mp h.top
    have le : ∀ a ∈ N, List.length a ≤ List.length ns := fun a ha => List.Nodup.length_le_of_subset (asc_nodup (h.hs a ha).1.asc) (h.hs a ha).2
    have gd : ∀ j (hj : j < N.length), (N.map fun h : Hs => (List.length h : Int)).getD j 0 = (List.length N[j] : Int) := fun j hj => by simp [List.getD, hj]
    have same : ∀ a ∈ N, List.length a = List.length ns → a = ns := fun a ha hl => by
      have p : a.Perm ns := by
        have nd := asc_nodup (h.hs a ha).1.asc
        refine (List.perm_ext_iff_of_nodup nd (asc_nodup hn.asc)).mpr fun x => ⟨(h.hs a ha).2 x, fun hx => ?_⟩
        by_cases q : x ∈ a
        · exact q
        · exfalso
          have : (x :: a).Nodup := List.nodup_cons.mpr ⟨q, nd⟩
          have := List.Nodup.length_le_of_subset this fun y hy => by
            rcases List.mem_cons.mp hy with rfl | z
            · exact hx
            · exact (h.hs a ha).2 y z
          rw [List.length_cons] at this
          omega
      exact asc_perm p (h.hs a ha).1.asc hn.asc
    have fm : firstMx (N.map fun h : Hs => (List.length h : Int)) = i := by
      refine firstMx_eq (by rw [List.length_map]; exact hi) fun j hj => ?_
      rw [List.length_map] at hj
      rw [gd i hi, gd j hj, ei]
      have l1 := le _ (List.getElem_mem hj)
      refine ⟨by omega, fun hji => ?_⟩
      by_cases q : List.length N[j] = List.length ns
      · have e1 := same _ (List.getElem_mem hj) q
        have e2 := List.pairwise_iff_getElem.mp h.asc j i hj hi hji
        rw [e1, ei, hlt_irr] at e2
        cases e2
      · omega
    rw [fm, List.getElem?_map, List.getElem?_eq_getElem hi, ei]
    rfl
  unfold m_top_of
  rw [key]
  rfl
theorem eq_hp (a b : Hs) : eqA (hp a) (hp b) = some (.val (.bool (decide (a = b)))) := by
  rw [eqA_ok (okD_hp a) (okD_hp b), eqv_hp]
theorem ne_hp (a b : Hs) : neA (hp a) (hp b) = some (.val (.bool (!decide (a = b)))) := by
  rw [neA_ok (okD_hp a) (okD_hp b), eqv_hp]
theorem need_nests_ok {ns : Hs} {M N : List Hs} {c : Nat} (hn : HN ns) (hM : NestOk ns M c) (hN : NestOk ns N c) (hc : c ≤ 1000) : m_need_nests (.list [nst M, nst N]) = okY .none := by
  have any : anyT ["list"] (.list [nst M, nst N]) = true := rfl
  have ok : okD (.list [nst M, nst N]) = true := by
    have d : ∀ N : List Hs, PyData.depthAll (N.map hp) ≤ 1 := fun N => by
      induction N with
      | nil => decide
      | cons h N ih =>
        rw [List.map_cons, PyData.depthAll]
        have : (hp h).depth = 1 := by
          unfold hp
          rw [PyData.depth, depth_nm]
        omega
    have d1 := d M
    have d2 := d N
    rw [okD, Bool.and_eq_true, decide_eq_true_eq]
    refine ⟨?_, ?_⟩
    · unfold nst
      simp only [noD, noDs, noDs_hp, Bool.and_true, Bool.and_self]
    · unfold nst
      simp only [PyData.depth, PyData.depthAll]
      omega
  have en : eqA (.list [nst M, nst N]) (.list []) = some (.val (.bool false)) := by
    rw [eqA_ok ok rfl]
    rfl
  have h1 : compP [nst M, nst N] (fun nest => bYn (m_is_nest nest) fun r => okY (some r)) = some ([true, true].map PyData.bool) := by
    have := compP_maps (f := fun nest => bYn (m_is_nest nest) fun r => okY (some r)) (h := fun N => nst N) (fun _ : List Hs => some (PyData.bool true)) (l := [M, N]) (lim_big (by simp)) fun a ha => by
      have : NestOk ns a c := by
        rcases List.mem_cons.mp ha with rfl | z
        · exact hM
        · rw [List.mem_singleton.mp z]
          exact hN
      rw [is_nest_ok hn this hc]
      rfl
    exact this
  have h2 : compP [nst M, nst N] (fun nest1 => bYn (m_top_of nest1) fun r1 => bO (ixD (.list [nst M, nst N]) (.int 0)) fun t2 => bYn (m_top_of t2) fun r2 => bO (neA r1 r2) fun t3 => okY (some t3)) = some ([false, false].map PyData.bool) := by
    have := compP_maps (f := fun nest1 => bYn (m_top_of nest1) fun r1 => bO (ixD (.list [nst M, nst N]) (.int 0)) fun t2 => bYn (m_top_of t2) fun r2 => bO (neA r1 r2) fun t3 => okY (some t3)) (h := fun N => nst N) (fun _ : List Hs => some (PyData.bool false)) (l := [M, N]) (lim_big (by simp)) fun a ha => by
      have : NestOk ns a c := by
        rcases List.mem_cons.mp ha with rfl | z
        · exact hM
        · rw [List.mem_singleton.mp z]
          exact hN
      simp only [top_ok hn this, bYn_ok, ixL0, bO_val, top_ok hn hM, ne_hp, decide_true, Bool.not_true]
    exact this
  unfold m_need_nests
  simp only [any, tru_bool, bQ_ok, Bool.not_true, Bool.false_eq_true, if_false, en, bO_val, bB_bool, selA_list, h1, allD1_map, bY_ok, h2, anyD1_map]
  rfl
end Law
namespace Law
open PySem PySem.Spec PyProof.Rows L2 PySem.W Pv Mr
def prH (p : Hs × Hs) : PyData := .tuple [hp p.1, hp p.2]
def cr1 (B : List Hs) (a : Hs) : Option (Hs × Hs) := B.findSome? fun b => if crossB a b = true then some (a, b) else none
def firstC (A B : List Hs) : Option (Hs × Hs) := A.findSome? (cr1 B)
/-! all pairs -/
def allC (A B : List Hs) : List (Hs × Hs) := A.flatMap fun a => (B.filter fun b => crossB a b).map fun b => (a, b)
theorem head_cr (a : Hs) : ∀ B : List Hs, ((B.filter fun b => crossB a b).map fun b => (a, b)).head? = cr1 B a
  | [] => rfl
  | b :: B => by
    unfold cr1
    rw [List.filter_cons, List.findSome?_cons]
    cases crossB a b with
    | true => rfl
    | false =>
      simp only [Bool.false_eq_true, if_false]
      exact head_cr a B
theorem head_all : ∀ A B : List Hs, (allC A B).head? = firstC A B
  | [], _ => rfl
  | a :: A, B => by
    have ih := head_all A B
    unfold allC firstC at *
    rw [List.flatMap_cons, List.head?_append, head_cr, ih, List.findSome?_cons]
    cases cr1 B a <;> rfl
def plt (p q : Hs × Hs) : Prop := hlt p.1 q.1 = true ∨ (p.1 = q.1 ∧ hlt p.2 q.2 = true)
theorem all_asc {A B : List Hs} (hA : A.Pairwise fun a b => hlt a b = true) (hB : B.Pairwise fun a b => hlt a b = true) : (allC A B).Pairwise plt := by
  induction A with
  | nil => exact .nil
  | cons a A ih =>
    rw [List.pairwise_cons] at hA
    have e : allC (a :: A) B = ((B.filter fun b => crossB a b).map fun b => (a, b)) ++ allC A B := by
      unfold allC
      rw [List.flatMap_cons]
    rw [e, List.pairwise_append]
    refine ⟨?_, ih hA.2, fun p hp q hq => ?_⟩
    · rw [List.pairwise_map]
      exact (hB.filter _).imp fun h => .inr ⟨rfl, h⟩
    · obtain ⟨b, _, rfl⟩ := List.mem_map.mp hp
      unfold allC at hq
      obtain ⟨a', ha', hq⟩ := List.mem_flatMap.mp hq
      obtain ⟨b', _, rfl⟩ := List.mem_map.mp hq
      exact .inl (hA.1 a' ha')
theorem not_lt_pr {p q : Hs × Hs} (h : plt p q) : dataLt (prH q) (prH p) = false := by
  obtain ⟨a, b⟩ := p
  obtain ⟨c, d⟩ := q
  unfold prH
  rw [dataLt_tuple]
  have al : alike (hp c) (hp a) = true := alike_hp c a
  rcases h with h | ⟨h1, h2⟩
  · have ne : ¬ c = a := fun e => by
      have h : hlt a c = true := h
      rw [e, hlt_irr] at h
      cases h
    rw [dataLt_all_no al (by rw [eqv_hp]; simp [ne]), dataLt_hp]
    exact hlt_asym h
  · have h1 : a = c := h1
    subst h1
    rw [dataLt_all_yes al (by rw [eqv_hp]; simp)]
    by_cases e : d = b
    · have h2 : hlt b d = true := h2
      rw [e, hlt_irr] at h2
      cases h2
    · rw [dataLt_all_no (alike_hp d b) (by rw [eqv_hp]; simp [e]), dataLt_hp]
      exact hlt_asym h2
theorem okD_prH (p : Hs × Hs) : okD (prH p) = true := by
  have h1 := okD_hp p.1
  have h2 := okD_hp p.2
  have d : ∀ a : Hs, (hp a).depth = 1 := fun a => by
    unfold hp
    rw [PyData.depth, depth_nm]
  rw [okD, Bool.and_eq_true] at h1 h2
  rw [okD, Bool.and_eq_true, decide_eq_true_eq]
  unfold prH
  refine ⟨?_, ?_⟩
  · rw [noD, noDs, noDs, h1.1, h2.1]
    rfl
  · simp only [PyData.depth, PyData.depthAll, d]
    omega
theorem min_prs {p : Hs × Hs} {P : List (Hs × Hs)} (h : (p :: P).Pairwise plt) : minDD [.list ((p :: P).map prH)] = some (.val (prH p)) := by
  have e : minDD [.list ((p :: P).map prH)] = if mmOk ((p :: P).map prH) = true then some (.val (minD (prH p) (P.map prH))) else none := rfl
  have m : ∀ (P : List (Hs × Hs)), (∀ q ∈ P, plt p q) → minD (prH p) (P.map prH) = prH p := fun P hP => by
    unfold minD
    induction P with
    | nil => rfl
    | cons q P ih =>
      rw [List.map_cons, List.foldl_cons, not_lt_pr (hP q (by simp))]
      exact ih fun x hx => hP x (List.mem_cons_of_mem _ hx)
  rw [e, if_pos, m P (List.pairwise_cons.mp h).1]
  unfold mmOk
  simp only [Bool.and_eq_true]
  refine ⟨⟨?_, ?_⟩, ?_⟩
  · unfold alikes
    rw [List.all_eq_true]
    intro d hd
    rw [List.all_eq_true]
    intro e he
    obtain ⟨a, _, rfl⟩ := List.mem_map.mp hd
    obtain ⟨b, _, rfl⟩ := List.mem_map.mp he
    unfold prH
    rw [alike, alikeAll, alikeAll, alike_hp, alike_hp]
    rfl
  · unfold noNone
    rw [List.all_eq_true]
    intro d hd
    obtain ⟨a, _, rfl⟩ := List.mem_map.mp hd
    rfl
  · rw [List.all_eq_true]
    intro d hd
    obtain ⟨a, _, rfl⟩ := List.mem_map.mp hd
    exact okD_prH a
theorem allC_snoc (A B : List Hs) (a : Hs) : allC (A ++ [a]) B = allC A B ++ (B.filter fun b => crossB a b).map fun b => (a, b) := by
  unfold allC
  rw [List.flatMap_append]
  simp
theorem allC_len {A B : List Hs} : (allC A B).length ≤ A.length * B.length := by
  induction A with
  | nil => simp [allC]
  | cons a A ih =>
    have e : allC (a :: A) B = ((B.filter fun b => crossB a b).map fun b => (a, b)) ++ allC A B := by
      unfold allC
      rw [List.flatMap_cons]
    rw [e, List.length_append, List.length_map, List.length_cons, Nat.succ_mul]
    have := List.length_filter_le (fun b => crossB a b) B
    omega
theorem add_lst {xs ys : List PyData} (h : xs.length + ys.length ≤ 1000000) : addD (.list xs) (.list ys) = some (.own (.lst (xs ++ ys))) := by
  have e : addD (.list xs) (.list ys) = if xs.length + ys.length ≤ lim then some (.own (.lst (xs ++ ys))) else none := rfl
  rw [e, if_pos (show xs.length + ys.length ≤ lim from h)]
theorem okD_prs (P : List (Hs × Hs)) : okD (.list (P.map prH)) = true := by
  have h : ∀ P : List (Hs × Hs), noDs (P.map prH) = true ∧ PyData.depthAll (P.map prH) ≤ 2 := fun P => by
    induction P with
    | nil => exact ⟨rfl, by decide⟩
    | cons p P ih =>
      have h1 := okD_prH p
      rw [okD, Bool.and_eq_true] at h1
      have d : ∀ a : Hs, (hp a).depth = 1 := fun a => by
        unfold hp
        rw [PyData.depth, depth_nm]
      refine ⟨?_, ?_⟩
      · rw [List.map_cons, noDs, h1.1, ih.1]
        rfl
      · rw [List.map_cons, PyData.depthAll]
        have : (prH p).depth = 2 := by
          unfold prH
          simp only [PyData.depth, PyData.depthAll, d]
          omega
        omega
  obtain ⟨h1, h2⟩ := h P
  rw [okD, Bool.and_eq_true, decide_eq_true_eq]
  refine ⟨by rw [noD]; exact h1, ?_⟩
  rw [PyData.depth]
  omega
theorem ne_nil_prs (P : List (Hs × Hs)) : neA (.list (P.map prH)) (.list []) = some (.val (.bool (decide (P ≠ [])))) := by
  rw [neA_ok (okD_prs P) rfl]
  cases P <;> rfl
theorem fm_cr (a : Hs) : ∀ B : List Hs, (B.filterMap fun b => if crossB a b = true then some (a, b) else none) = (B.filter fun b => crossB a b).map fun b => (a, b)
  | [] => rfl
  | b :: B => by
    have ih := fm_cr a B
    rw [List.filterMap_cons, List.filter_cons]
    cases crossB a b with
    | true => simpa using ih
    | false => simpa using ih
theorem notin_eq {A B : List Hs} (hB : B.length ≤ 1000) : compP (B.map hp) (fun heap => bO (inD true heap (nst A)) fun t => bB t fun c => if c = true then okY (some heap) else okY none) = some ((B.filter fun h => decide (h ∉ A)).map hp) :=
  compP_fil (fun h => decide (h ∉ A)) (lim_big (by omega)) fun h _ => by
    simp only [in_nst, bO_val, bB_bool, Bool.true_xor]
    by_cases q : h ∈ A <;> simp [q]
end Law
namespace Law
open PySem PySem.Spec PyProof.Rows L2 PySem.W Pv Mr
def nsts (Ns : List (List Hs)) : PyData := .list (Ns.map nst)
theorem depth_nst (N : List Hs) : (nst N).depth ≤ 2 := by
  have d : ∀ N : List Hs, PyData.depthAll (N.map hp) ≤ 1 := fun N => by
    induction N with
    | nil => decide
    | cons h N ih =>
      rw [List.map_cons, PyData.depthAll]
      have : (hp h).depth = 1 := by
        unfold hp
        rw [PyData.depth, depth_nm]
      omega
  have := d N
  unfold nst
  rw [PyData.depth]
  omega
theorem okD_nst (N : List Hs) : okD (nst N) = true := by
  rw [okD, Bool.and_eq_true, decide_eq_true_eq]
  refine ⟨?_, Nat.le_trans (depth_nst N) (by decide)⟩
  unfold nst
  rw [noD]
  exact noDs_hp N
theorem okD_nsts (Ns : List (List Hs)) : okD (nsts Ns) = true := by
  have h : ∀ Ns : List (List Hs), noDs (Ns.map nst) = true ∧ PyData.depthAll (Ns.map nst) ≤ 2 := fun Ns => by
    induction Ns with
    | nil => exact ⟨rfl, by decide⟩
    | cons N Ns ih =>
      have h1 := okD_nst N
      rw [okD, Bool.and_eq_true] at h1
      refine ⟨?_, ?_⟩
      · rw [List.map_cons, noDs, h1.1, ih.1]
        rfl
      · rw [List.map_cons, PyData.depthAll]
        have := depth_nst N
        omega
  obtain ⟨h1, h2⟩ := h Ns
  unfold nsts
  rw [okD, Bool.and_eq_true, decide_eq_true_eq]
  refine ⟨by rw [noD]; exact h1, ?_⟩
  rw [PyData.depth]
  omega
theorem eqv_nst_self (N : List Hs) : PyData.eqv (nst N) (nst N) = true := by
  have eqM : ∀ N : List Hs, PyData.eqvAll (N.map hp) (N.map hp) = true := fun N => by
    induction N with
    | nil => rfl
    | cons h N ih =>
      rw [List.map_cons, eqv_all_cons, ih, eqv_hp]
      simp
  unfold nst
  rw [PyData.eqv]
  exact eqM N
theorem eqv_nsts_self (Ns : List (List Hs)) : PyData.eqv (nsts Ns) (nsts Ns) = true := by
  have eqM : ∀ Ns : List (List Hs), PyData.eqvAll (Ns.map nst) (Ns.map nst) = true := fun N => by
    induction N with
    | nil => rfl
    | cons h N ih =>
      rw [List.map_cons, eqv_all_cons, ih, eqv_nst_self]
      rfl
  unfold nsts
  rw [PyData.eqv]
  exact eqM Ns
theorem eq_nst_self (N : List Hs) : eqA (nst N) (nst N) = some (.val (.bool true)) := by rw [eqA_ok (okD_nst N) (okD_nst N), eqv_nst_self]
theorem ne_nst_self (N : List Hs) : neA (nst N) (nst N) = some (.val (.bool false)) := by
  rw [neA_ok (okD_nst N) (okD_nst N), eqv_nst_self]
  rfl
theorem ne_nsts_self (Ns : List (List Hs)) : neA (nsts Ns) (nsts Ns) = some (.val (.bool false)) := by
  rw [neA_ok (okD_nsts Ns) (okD_nsts Ns), eqv_nsts_self]
  rfl
theorem tupD_nst (N : List Hs) : tupD (nst N) = true := by
  have h1 : ∀ a : Hs, tupDs (a.map nm) = true := fun a => by
    induction a with
    | nil => simp [tupDs]
    | cons x a ih =>
      rw [List.map_cons, tupDs, ih]
      simp [nm, tupD]
  have h2 : ∀ N : List Hs, tupDs (N.map hp) = true := fun N => by
    induction N with
    | nil => simp [tupDs]
    | cons a N ih =>
      rw [List.map_cons, tupDs, ih]
      have : tupD (hp a) = true := by
        unfold hp
        rw [tupD]
        exact h1 a
      rw [this]
      rfl
  unfold nst
  rw [tupD]
  exact h2 N
theorem all_true {α : Type} (l : List α) : (l.map fun _ => true).all id = true := by
  rw [List.all_map]
  exact List.all_eq_true.mpr fun _ _ => rfl
theorem any_false {α : Type} (l : List α) : (l.map fun _ => false).any id = false := by
  rw [List.any_map, List.any_eq_false]
  intro x _
  simp
theorem need_ok {ns : Hs} {Ns : List (List Hs)} {c : Nat} (hn : HN ns) (h1 : 1 ≤ Ns.length) (h2 : Ns.length ≤ 1000) (hN : ∀ N ∈ Ns, NestOk ns N c) (hc : c ≤ 1000) : m_need_nests (nsts Ns) = okY .none := by
  have any : anyT ["list"] (nsts Ns) = true := rfl
  have en : eqA (nsts Ns) (.list []) = some (.val (.bool false)) := by
    rw [eqA_ok (okD_nsts Ns) rfl]
    cases Ns with
    | nil => simp at h1
    | cons a N => rfl
  have se : selA (nsts Ns) = some (Ns.map nst) := rfl
  have e1 : compP (Ns.map nst) (fun nest => bYn (m_is_nest nest) fun r => okY (some r)) = some ((Ns.map fun _ => true).map PyData.bool) := by
    rw [compP_maps (fun _ : List Hs => some (PyData.bool true)) (lim_big (by omega)) fun a ha => by rw [is_nest_ok hn (hN a ha) hc]; rfl]
    rw [List.filterMap_eq_map', List.map_map]
    rfl
  have i0 : ixD (nsts Ns) (.int 0) = some (.val (nst (Ns[0]'(by omega)))) := ixLn (i := 0) (by rw [List.getElem?_map, List.getElem?_eq_getElem (by omega)]; rfl)
  have e2 : compP (Ns.map nst) (fun nest1 => bYn (m_top_of nest1) fun r1 => bO (ixD (nsts Ns) (.int 0)) fun t2 => bYn (m_top_of t2) fun r2 => bO (neA r1 r2) fun t3 => okY (some t3)) = some ((Ns.map fun _ => false).map PyData.bool) := by
    rw [compP_maps (fun _ : List Hs => some (PyData.bool false)) (lim_big (by omega)) fun a ha => by
      simp only [top_ok hn (hN a ha), bYn_ok, i0, bO_val, top_ok hn (hN _ (List.getElem_mem (show 0 < Ns.length by omega))), ne_hp, decide_true, Bool.not_true]]
    rw [List.filterMap_eq_map', List.map_map]
    rfl
  unfold m_need_nests
  simp only [any, tru_bool, bQ_ok, Bool.not_true, Bool.false_eq_true, if_false, en, bO_val, bB_bool, se, e1, allD1_map, all_true, bY_ok, e2, anyD1_map, any_false]
end Law
namespace Law
open PySem PySem.Spec PyProof.Rows L2 PySem.W Pv Mr
def cmn (Ns : List (List Hs)) : List Hs := (Ns.headD []).filter fun h => Ns.all fun M => decide (h ∈ M)
theorem hasc_eq {M N : List Hs} (p : M.Perm N) (h1 : M.Pairwise fun a b => hlt a b = true) (h2 : N.Pairwise fun a b => hlt a b = true) : M = N :=
  List.Perm.eq_of_pairwise (le := fun a b => hlt a b = true) (fun a b _ _ h1 h2 => by rw [hlt_asym h1] at h2; cases h2) h1 h2 p
structure NsOk (ns : Hs) (Ns : List (List Hs)) : Prop where
  pos : 1 ≤ Ns.length
  le : Ns.length ≤ 100
  ok : ∀ N ∈ Ns, NestOk ns N 600
theorem head_mem {Ns : List (List Hs)} (h : 1 ≤ Ns.length) : Ns.headD [] ∈ Ns := by
  cases Ns with
  | nil => simp at h
  | cons a N => simp
theorem cmn_asc {ns : Hs} {Ns : List (List Hs)} (h : NsOk ns Ns) : (cmn Ns).Pairwise fun a b => hlt a b = true := (h.ok _ (head_mem h.pos)).asc.filter _
theorem cmn_mem {Ns : List (List Hs)} (h : 1 ≤ Ns.length) {a : Hs} : a ∈ cmn Ns ↔ ∀ N ∈ Ns, a ∈ N := by
  unfold cmn
  rw [List.mem_filter, List.all_eq_true]
  simp only [decide_eq_true_eq]
  exact ⟨fun z => z.2, fun z => ⟨z _ (head_mem h), z⟩⟩
theorem cmn_same {ns : Hs} {Ns Ms : List (List Hs)} (h : NsOk ns Ns) (h' : NsOk ns Ms) (hm : ∀ N, N ∈ Ns ↔ N ∈ Ms) : cmn Ns = cmn Ms :=
  hasc_eq ((List.perm_ext_iff_of_nodup (hasc_nodup (cmn_asc h)) (hasc_nodup (cmn_asc h'))).mpr fun a => by
    rw [cmn_mem h.pos, cmn_mem h'.pos]
    exact ⟨fun z N hN => z N ((hm N).mpr hN), fun z N hN => z N ((hm N).mp hN)⟩) (cmn_asc h) (cmn_asc h')
theorem i0_eq {Ns : List (List Hs)} (h : 1 ≤ Ns.length) : ixD (.list (Ns.map nst)) (.int 0) = some (.val (nst (Ns.headD []))) := by
  cases Ns with
  | nil => simp at h
  | cons a N => exact ixLn (i := 0) rfl
theorem common_eq {ns : Hs} {Ns : List (List Hs)} (hn : HN ns) (h : NsOk ns Ns) : m_common (.list (Ns.map nst)) = okY (nst (cmn Ns)) := by
  have l0 := (h.ok _ (head_mem h.pos)).len
  have nd := need_ok hn h.pos (Nat.le_trans h.le (by decide)) h.ok (by decide)
  unfold nsts at nd
  have e1 : ∀ a : Hs, compP (Ns.map nst) (fun nest => bO (inD false (hp a) nest) fun t1 => okY (some t1)) = some ((Ns.map fun M => decide (a ∈ M)).map PyData.bool) := fun a => by
    rw [compP_maps (fun M : List Hs => some (PyData.bool (decide (a ∈ M)))) (lim_big (by have := h.le; omega)) fun M _ => by simp only [in_nst, bO_val, Bool.false_xor]]
    rw [List.filterMap_eq_map', List.map_map]
    rfl
  have e2 : compP ((Ns.headD []).map hp) (fun heap => bQ (selA (.list (Ns.map nst))) fun xs1 => bQ (compP xs1 fun nest => bO (inD false heap nest) fun t1 => okY (some t1)) fun ys => bO (allD1 [(.list ys)]) fun t2 => bQ (truD t2) fun c => if c = true then okY (some heap) else okY none) = some ((cmn Ns).map hp) :=
    compP_fil (fun a => Ns.all fun M => decide (a ∈ M)) (lim_big (by omega)) fun a _ => by
      simp only [selA_list, bQ_ok, e1, allD1_map, bO_val, tru_bool]
      have : ((Ns.map fun M => decide (a ∈ M)).all id) = Ns.all fun M => decide (a ∈ M) := by
        rw [List.all_map]
        rfl
      rw [this]
      cases Ns.all fun M => decide (a ∈ M) <;> rfl
  unfold m_common
  rw [nd, bY_ok, i0_eq h.pos]
  simp only [bO_val, selA_nst, bQ_ok]
  simp only [selA_list, bQ_ok] at e2 ⊢
  rw [e2]
  rfl
theorem eq_nil_nsts (Ns : List (List Hs)) : eqA (.list (Ns.map nst)) (.list []) = some (.val (.bool (decide (Ns = [])))) := by
  have := okD_nsts Ns
  unfold nsts at this
  rw [eqA_ok this rfl]
  cases Ns <;> rfl
theorem due_eq {ns : Hs} {Ns : List (List Hs)} (h : NsOk ns Ns) : m__law_due (.list (Ns.map nst)) = okY (nst (cmn Ns)) := by
  have h0 := h.ok _ (head_mem h.pos)
  have l0 := h0.len
  have e1 : ∀ a : Hs, compP (Ns.map nst) (fun nest_here => bO (inD true (hp a) nest_here) fun t1 => bB t1 fun c => if c = true then okY (some nest_here) else okY none) = some ((Ns.filter fun M => decide (a ∉ M)).map nst) := fun a =>
    compP_fil (fun M => decide (a ∉ M)) (lim_big (by have := h.le; omega)) fun M _ => by
      simp only [in_nst, bO_val, bB_bool, Bool.true_xor]
      by_cases q : a ∈ M <;> simp [q]
  obtain ⟨s, e2, e3⟩ := forS_inv (f := fun heap found => bQ (compP (Ns.map nst) fun nest_here => bO (inD true heap nest_here) fun t1 => bB t1 fun c => if c = true then okY (some nest_here) else okY none) fun ys => bO (eqA (.list ys) (.list [])) fun t2 => bB t2 fun c1 => if c1 = true then bC ofL (chApp (.lst found) [heap]) fun r found1 => okY found1 else okY found) (xs := (Ns.headD []).map hp) (s := ([] : List PyData))
    (fun i s => s = (((Ns.headD []).take i).filter fun h => Ns.all fun M => decide (h ∈ M)).map hp) rfl fun i x s hx hs => by
      subst hs
      rw [List.getElem?_map] at hx
      obtain ⟨a, hx2, rfl⟩ := Option.map_eq_some_iff.mp hx
      have t1 : (Ns.headD []).take (i + 1) = (Ns.headD []).take i ++ [a] := by
        rw [List.take_add_one, hx2]
        rfl
      have lf := List.length_filter_le (fun h => Ns.all fun M => decide (h ∈ M)) ((Ns.headD []).take i)
      rw [List.length_take] at lf
      simp only [e1, bQ_ok, eq_nil_nsts, bO_val, bB_bool]
      rw [t1, List.filter_append, List.map_append]
      have q : decide ((Ns.filter fun M => decide (a ∉ M)) = []) = Ns.all fun M => decide (a ∈ M) := by
        rw [Bool.eq_iff_iff]
        simp [List.filter_eq_nil_iff]
      rw [q]
      cases q2 : Ns.all fun M => decide (a ∈ M) with
      | true =>
        rw [if_pos rfl, Mr.app_ok (by rw [List.length_map]; exact Nat.lt_of_lt_of_le (m := 1000) (by omega) (by decide))]
        simp only [bCL]
        refine ⟨_, rfl, ?_⟩
        simp [List.filter_cons, q2]
      | false =>
        rw [if_neg (by decide)]
        refine ⟨_, rfl, ?_⟩
        simp [List.filter_cons, q2]
  rw [List.length_map, List.take_length] at e3
  have e4 : ((Ns.headD []).filter fun h => Ns.all fun M => decide (h ∈ M)) = cmn Ns := rfl
  rw [e4] at e3
  have lc : (cmn Ns).length ≤ 600 := Nat.le_trans (List.length_filter_le _ _) l0
  obtain ⟨M, p1, p2, p3⟩ := sort_hps (N := cmn Ns) (by omega) (fun a ha => h0.pn.ne a (List.mem_filter.mp ha).1) (hasc_nodup (cmn_asc h))
  have eM : M = cmn Ns := hasc_eq p1 p2 (cmn_asc h)
  subst eM
  unfold m__law_due
  rw [i0_eq h.pos]
  simp only [bO_val, selA_nst, selA_list, bQ_ok]
  rw [e2, e3]
  simp only [bY_ok, p3, bO_own, ob_lst, tupleD_list, bO_val]
  rfl
theorem as_eq (M : List Hs) : m__law_as (nst M) (nst M) = okY (.bool true) := by
  have an : anyT ["tuple"] (nst M) = true := rfl
  unfold m__law_as
  simp only [an, bB_bool, if_true, eq_nst_self, bO_val, bY_ok]
theorem sl_to {xs : List PyData} {q : Nat} : slD (.list xs) none (some q) = some (.own (.lst (xs.take (min q xs.length)))) := by
  have e2 : slD (.list xs) none (some q) = some (.own (.lst (Pv.cutD xs none (some q)))) := rfl
  rw [e2]
  unfold Pv.cutD
  rw [HT.sIx_nat]
  have z : HT.sIx xs.length 0 none = 0 := rfl
  rw [z, List.drop_zero, Nat.sub_zero]
theorem right_ok {c : Int} {k : Nat} (hc : Builtin.Int.intBits c ≤ 1048576) (hk : k < 1000) : m__law_right (.int c) (.int k) = okY (.bool true) := by
  obtain ⟨l, eb, hd⟩ := ev_begun (c := c) (k := k) hc hk
  obtain ⟨⟨d, l2⟩, e1, ns, Ns, rfl, hn, n1, n2, hN, d2⟩ := nests_ev (m := 12) (k := 7) hd (by decide) (by decide) (by decide) (by decide)
  have e1 : m__law_nests l (.int 12) (.int 7) = okY (.list (Ns.map nst), l2) := e1
  obtain ⟨⟨_, l3⟩, e2, M, rfl, hM, d3⟩ := near_ev d2 hn (hN _ (head_mem n1)) (by decide)
  have o1 : NsOk ns Ns := ⟨n1, by omega, fun N h => (hN N h).mono (by decide)⟩
  have o2 : NsOk ns (Ns ++ [M]) := ⟨by simp, by simp; omega, fun N h => by
    rcases List.mem_append.mp h with z | z
    · exact o1.ok N z
    · rw [List.mem_singleton.mp z]
      exact hM.mono (by decide)⟩
  have o3 : NsOk ns Ns.reverse := ⟨by simp; omega, by simp; omega, fun N h => o1.ok N (List.mem_reverse.mp h)⟩
  have ea : Ns.map nst ++ [nst M] = (Ns ++ [M]).map nst := by rw [List.map_append]; rfl
  have er : (Ns.map nst).reverse = Ns.reverse.map nst := by rw [List.map_reverse]
  have ad : addD (.list (Ns.map nst)) (.list [nst M]) = some (.own (.lst (Ns.map nst ++ [nst M]))) := by
    have e : addD (.list (Ns.map nst)) (.list [nst M]) = if (Ns.map nst).length + [nst M].length ≤ lim then some (.own (.lst (Ns.map nst ++ [nst M]))) else none := rfl
    rw [e, if_pos (lim_big (by rw [List.length_map]; simp; omega))]
  have ap : chApp (.lst (Ns.map nst)) [nst M] = some (.none, .lst (Ns.map nst ++ [nst M])) := Mr.app_ok (by rw [List.length_map]; exact Nat.lt_of_lt_of_le (m := 1000) (by omega) (by decide))
  have rv : revD (.list (Ns.map nst)) = some (.own (.lst (Ns.map nst).reverse)) := rfl
  have nn := ne_nsts_self Ns
  unfold nsts at nn
  have c1 := common_eq hn o1
  have c2 := common_eq hn o2
  have c3 := common_eq hn o3
  have cr : cmn Ns.reverse = cmn Ns := cmn_same o3 o1 fun N => List.mem_reverse
  rw [cr] at c3
  have u1 := due_eq o1
  have u2 := due_eq o2
  have i2 := ix_last (Ns.map nst) (nst M)
  rw [ea] at i2 ap ad
  have sl : ∀ q : Nat, 1 ≤ q → ∃ Ms, slD (.list (Ns.map nst)) none (some (q : Int)) = some (.own (.lst (Ms.map nst))) ∧ NsOk ns Ms := fun q hq => by
    refine ⟨Ns.take (min q Ns.length), ?_, by rw [List.length_take]; omega, by rw [List.length_take]; omega, fun N h => o1.ok N (List.mem_of_mem_take h)⟩
    rw [sl_to, List.length_map, List.map_take]
  unfold m__law_right
  rw [eb, bY_ok, e1, bYn_ok]
  simp only [i0_eq n1, bO_val, e2, bYn_ok, ad, bO_own, ob_lst, u1, bY_ok]
  have li : listD [.list (Ns.map nst)] = some (.own (.lst (Ns.map nst))) := rfl
  simp only [li, bOL_own, c1, bY_ok, tupD_nst, bG_true, as_eq, tru_bool, bQ_ok, Bool.not_true, Bool.false_eq_true, if_false, nn, bO_val, bB_bool, i2, ap, bCL, c2, u2, rv, bO_own, ob_lst, er, c3, ne_nst_self, Mr.len_list, List.length_map]
  rw [fdivI (by decide) (by decide)]
  simp only [bO_val, addI, selA_tuple, bQ_ok]
  rw [forY_none, bY_ok]
  · intro x hx
    have hq : ∃ q : Nat, x = .int q ∧ 1 ≤ q := by
      rcases List.mem_cons.mp hx with rfl | z
      · exact ⟨1, rfl, by decide⟩
      · refine ⟨1 + Ns.length / 2, ?_, by omega⟩
        rw [List.mem_singleton.mp z]
        congr 1
    obtain ⟨q, rfl, hq⟩ := hq
    obtain ⟨Ms, s1, s2⟩ := sl q hq
    simp only [bI_int, s1, bO_own, ob_lst, common_eq hn s2, due_eq s2, bY_ok, as_eq, tru_bool, bQ_ok, Bool.not_true, Bool.false_eq_true, if_false]
theorem law_eq (ns : List Int) (hl : ns.length ≤ 63) (hb : ∀ k ∈ ns, Builtin.Int.intBits k ≤ 1048576) : m_law (scrD ns) = okY (.bool true) := by
  have e0 : addSc (scrD ns) (.list [.int 5]) = some (.own (.lst (ns.map PyData.int ++ [PyData.int 5]))) := by
    have e : addSc (scrD ns) (.list [.int 5]) = if (ns.map PyData.int).length + [PyData.int 5].length ≤ lim then some (.own (.lst (ns.map PyData.int ++ [PyData.int 5]))) else none := rfl
    rw [e, if_pos (lim_big (by rw [List.length_map]; simp; omega))]
  obtain ⟨n, hn, x, m1, m2⟩ : ∃ n : Nat, n ≤ 24 ∧ ∃ x, minD1 [.int 10, .int (ns.length : Nat)] = some (.val x) ∧ maxD1 [.int 1, x] = some (.val (.int n)) := by
    refine ⟨max 1 (min 10 ns.length), by omega, _, rfl, ?_⟩
    have m2 : ∀ v : Int, maxD1 [.int 1, .int v] = some (.val (.int (if v > 1 then v else 1))) := fun v => rfl
    rw [m2]
    congr 3
    split <;> split <;> omega
  have e3 := sl_to (xs := ns.map PyData.int ++ [PyData.int 5]) (q := n)
  generalize hq : (ns.map PyData.int ++ [PyData.int 5]).take (min n (ns.map PyData.int ++ [PyData.int 5]).length) = ys at e3
  have hy : ∀ y ∈ ys, ∃ c : Int, y = .int c ∧ Builtin.Int.intBits c ≤ 1048576 := fun y hy => by
    rw [← hq] at hy
    rcases List.mem_append.mp (List.mem_of_mem_take hy) with z | z
    · obtain ⟨c, hc, rfl⟩ := List.mem_map.mp z
      exact ⟨c, rfl, hb c hc⟩
    · rw [List.mem_singleton.mp z]
      exact ⟨5, rfl, Nat.le_trans (show Builtin.Int.intBits 5 ≤ 3 by decide) (by decide)⟩
  have ly : ys.length ≤ 64 := by
    rw [← hq]
    refine Nat.le_trans (List.length_take_le' _ _) ?_
    rw [List.length_append, List.length_map, List.length_singleton]
    omega
  unfold m_law
  simp only [e0, bO_own, ob_lst, len_scr, bO_val, m1, m2, bI_int, e3]
  have en : enA [.list ys] = some (enumD ys) := rfl
  rw [en, bQ_ok, forY_none, bY_ok]
  intro p hp'
  obtain ⟨i, x, h1, rfl⟩ := mem_enumD hp'
  have hi := (List.getElem?_eq_some_iff.mp h1).1
  obtain ⟨c, rfl, hc⟩ := hy x (List.mem_of_getElem? h1)
  simp only [unT_pair, at2_ok, right_ok hc (show i < 1000 by omega), bY_ok, tru_bool, bQ_ok, Bool.not_true, Bool.false_eq_true, if_false]
end Law
set_option maxRecDepth 100000 in
set_option maxHeartbeats 8000000 in
theorem PySem.Challenge.cw_heapwise_k76_common_holds : PySem.Challenge.rw_heapwise_k76_common.Holds := by
  exact Law.holds_of fun ns h1 h2 => Law.law_eq ns h1 h2
