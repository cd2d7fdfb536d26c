import PyProof.Rows.All
import Wide.All
import OpenK.AllK
import Wide.FinOn
import HandS.ForMost
import HandS.Deep
import HandS.SortInts
import HandS.Wide
import HandS.IsInst
import HandS.Style
import HandS.Text
import HandS.NoneIn
import KE.KSortedM
import HandS.More
import HandS.WordsDict
import HandS.Strs
import HandS.SetFor
import HandS.Zip
import HandS.SortKw
import KE.DataMinMax
import HandS.Rev
import HandS.SortRule
import PyProof.Rows.SortKeyStr
import HandS.Conv
import HandS.Iter
import KE.SortKeyHeap
import KE.SortData
import HandS.Exc
import HandS.ExcOwn
import HandS.TryOnly
import HandS.TryMany
import HandS.WordsExc
import HandS.ExcIs
import PySem.Challenge.RW_deskround_k12_all_shapes
set_option Elab.async false
set_option linter.all false
set_option maxRecDepth 100000
set_option maxHeartbeats 4000000
/-! the D layer: trees of data over the hand layer; each rule hides addresses and heaps -/
namespace DL
open PySem PySem.Spec PyProof.Rows L2

/-- data as trees -/
inductive D where
  | non | bl (b : Bool) | int (i : Int) | str (s : Str)
  | lst (xs : List D) | tup (xs : List D) | scr (ns : List Int)
  | dK (kvs : List (Key × D)) | dT (kvs : List (List Key × D))
  | ref (a : Addr)
  | rows (rs : List D)
  | exn (c : Str)
  | deep (d : D)
  | junk (n : Nat)

/-- what a step comes to: a value, an error's class, or nothing that is known -/
inductive R (α : Type) where
  | ok (a : α) | err (c : Str) | bad

def bd {α β : Type} (x : R α) (f : α → R β) : R β := match x with
  | .ok a => f a
  | .err c => .err c
  | .bad => .bad
@[simp] theorem bd_ok {α β : Type} (a : α) (f : α → R β) : bd (.ok a) f = f a := rfl
@[simp] theorem bd_err {α β : Type} (c : Str) (f : α → R β) : bd (.err c) f = .err c := rfl
@[simp] theorem bd_bad {α β : Type} (f : α → R β) : bd (.bad) f = .bad := rfl
def grd {α : Type} (c : Bool) (x : R α) : R α := if c = true then x else .bad
@[simp] theorem grd_t {α : Type} (x : R α) : grd true x = x := rfl
@[simp] theorem grd_f {α : Type} (x : R α) : grd false x = .bad := rfl
theorem grd_of {α : Type} {c : Bool} (h : c = true) (x : R α) : grd c x = x := by rw [h]; rfl

/-- an exception of the class at C that was caught, at a -/
def exK (C a : Addr) : HO := .ext fun h => ∃ oe : Obj, h.get? a = some oe ∧ oe.cls = .ref C ∧ oe.dict = none ∧ ∃ vs, oe.data = .fields vs
mutual
/-- numbers, texts, tuples of such -/
def tO1 : D → Bool
  | .non => true
  | .bl _ => true
  | .int _ => true
  | .str _ => true
  | .tup ds => tOs ds
  | _ => false
def tOs : List D → Bool
  | [] => true
  | d :: ds => tO1 d && tOs ds
end
mutual
/-- .. and lists -/
def dat1 : D → Bool
  | .non => true
  | .bl _ => true
  | .int _ => true
  | .str _ => true
  | .tup ds => dats ds
  | .lst ds => dats ds
  | _ => false
def dats : List D → Bool
  | [] => true
  | d :: ds => dat1 d && dats ds
end
mutual
inductive Rep (K : PySem.W.Frag) (F : Hp) : D → V → Prop
  | non : Rep K F .non .non
  | bl (b : Bool) : Rep K F (.bl b) (.bl b)
  | int (i : Int) : Rep K F (.int i) (.int i)
  | str (x : Str) : Rep K F (.str x) (.str x)
  | lst {a : Addr} {vs : List V} {ds : List D} : F a = some (.lst vs) → Reps K F ds vs → Rep K F (.lst ds) (.ref a)
  | scr {a : Addr} {ns : List Int} : SqL K F a (ns.map V.int) → Rep K F (.scr ns) (.ref a)
  | tup {a : Addr} {vs : List V} {ds : List D} : F a = some (.tup vs) → Reps K F ds vs → Rep K F (.tup ds) (.ref a)
  | dK {a : Addr} {kvs : List (Key × V)} {kds : List (Key × D)} : Rd F a (.dK kvs) → RepK K F kds kvs → Rep K F (.dK kds) (.ref a)
  | dT {a : Addr} {kvs : List (List Key × V)} {kds : List (List Key × D)} : Rd F a (.dT kvs) → RepT K F kds kvs → Rep K F (.dT kds) (.ref a)
  | ref (a : Addr) : Rep K F (.ref a) (.ref a)
  | rows {a : Addr} {vs : List V} {ds : List D} : F a = some (.lst vs) → Reps K F ds vs → Rep K F (.rows ds) (.ref a)
  | exn {c : Str} {a C : Addr} : PySem.W.nsIn K mainGlobals c = some (some (.ref C)) → F a = some (exK C a) → Rep K F (.exn c) (.ref a)
  | deep (d : D) (a : Addr) : Rep K F (.deep d) (.ref a)
inductive Reps (K : PySem.W.Frag) (F : Hp) : List D → List V → Prop
  | nil : Reps K F [] []
  | cons {d : D} {v : V} {ds : List D} {vs : List V} : Rep K F d v → Reps K F ds vs → Reps K F (d :: ds) (v :: vs)
inductive RepK (K : PySem.W.Frag) (F : Hp) : List (Key × D) → List (Key × V) → Prop
  | nil : RepK K F [] []
  | cons {k : Key} {d : D} {v : V} {ds : List (Key × D)} {vs : List (Key × V)} : Rep K F d v → RepK K F ds vs → RepK K F ((k, d) :: ds) ((k, v) :: vs)
inductive RepT (K : PySem.W.Frag) (F : Hp) : List (List Key × D) → List (List Key × V) → Prop
  | nil : RepT K F [] []
  | cons {k : List Key} {d : D} {v : V} {ds : List (List Key × D)} {vs : List (List Key × V)} : Rep K F d v → RepT K F ds vs → RepT K F ((k, d) :: ds) ((k, v) :: vs)
end

section
variable {K : PySem.W.Frag} {F F' H H' H'' F'' : Hp}
theorem Same.seqT {a : Addr} {xs : List V} (e : Same H H') (h : SqT K H a xs) : SqT K H' a xs := by
  rcases h with (h | ⟨o, h⟩) | h
  · exact .inl (.inl (e _ _ h))
  · exact .inl (.inr ⟨o, e _ _ h⟩)
  · exact .inr h
theorem Same.rd {a : Addr} {o : HO} (e : Same H H') (h : Rd H a o) : Rd H' a o := by
  rcases h with h | ⟨u, h⟩
  · exact .inl (e _ _ h)
  · exact .inr ⟨u, e _ _ h⟩
theorem same_upd {p : Addr} {o : HO} (h : H p = none) : Same H (upd H p o) := fun b x e => by
  rw [upd_ne (ne_of_none e h)]
  exact e
theorem same_upd2 {p : Addr} {o : HO} (e : Same F H) (h : F p = none) : Same F (upd H p o) := fun b x z => by
  rw [upd_ne (ne_of_none z h)]
  exact e _ _ z

mutual
theorem Rep.mono (e : Same F F') : ∀ {d : D} {v : V}, Rep K F d v → Rep K F' d v
  | _, _, .non => .non
  | _, _, .bl b => .bl b
  | _, _, .int b => .int b
  | _, _, .str b => .str b
  | _, _, .lst s r => .lst (e _ _ s) (Reps.mono e r)
  | _, _, .scr s => .scr (e.seq s)
  | _, _, .tup s r => .tup (e _ _ s) (Reps.mono e r)
  | _, _, .dK s r => .dK (Same.rd e s) (RepK.mono e r)
  | _, _, .dT s r => .dT (Same.rd e s) (RepT.mono e r)
  | _, _, .ref a => .ref a
  | _, _, .rows s r => .rows (e _ _ s) (Reps.mono e r)
  | _, _, .exn n s => .exn n (e _ _ s)
  | _, _, .deep n s => .deep n s
theorem Reps.mono (e : Same F F') : ∀ {ds : List D} {vs : List V}, Reps K F ds vs → Reps K F' ds vs
  | _, _, .nil => .nil
  | _, _, .cons r t => .cons (Rep.mono e r) (Reps.mono e t)
theorem RepK.mono (e : Same F F') : ∀ {ds : List (Key × D)} {vs : List (Key × V)}, RepK K F ds vs → RepK K F' ds vs
  | _, _, .nil => .nil
  | _, _, .cons r t => .cons (Rep.mono e r) (RepK.mono e t)
theorem RepT.mono (e : Same F F') : ∀ {ds : List (List Key × D)} {vs : List (List Key × V)}, RepT K F ds vs → RepT K F' ds vs
  | _, _, .nil => .nil
  | _, _, .cons r t => .cons (Rep.mono e r) (RepT.mono e t)
end
theorem Reps.length : ∀ {ds : List D} {vs : List V}, Reps K F ds vs → vs.length = ds.length
  | _, _, .nil => rfl
  | _, _, .cons _ t => congrArg (· + 1) (Reps.length t)
theorem Reps.get : ∀ {ds : List D} {vs : List V} {i : Nat} {d : D}, Reps K F ds vs → ds[i]? = some d → ∃ v, vs[i]? = some v ∧ Rep K F d v
  | _, _, _, _, .nil, e => by simp at e
  | _, _, 0, _, .cons r _, e => by simp at e; subst e; exact ⟨_, rfl, r⟩
  | _, _, i + 1, d, .cons _ t, e => by
    obtain ⟨u, h1, h2⟩ := Reps.get (i := i) (d := d) t (by simpa using e)
    exact ⟨u, by simpa using h1, h2⟩
theorem Reps.get' : ∀ {ds : List D} {vs : List V} {i : Nat} {v : V}, Reps K F ds vs → vs[i]? = some v → ∃ d, ds[i]? = some d ∧ Rep K F d v
  | _, _, _, _, .nil, e => by simp at e
  | _, _, 0, _, .cons r _, e => by simp at e; subst e; exact ⟨_, rfl, r⟩
  | _, _, i + 1, d, .cons _ t, e => by
    obtain ⟨u, h1, h2⟩ := Reps.get' (i := i) t (by simpa using e)
    exact ⟨u, by simpa using h1, h2⟩
theorem Reps.append : ∀ {xs ys : List D} {us ws : List V}, Reps K F xs us → Reps K F ys ws → Reps K F (xs ++ ys) (us ++ ws)
  | _, _, _, _, .nil, s => s
  | _, _, _, _, .cons r t, s => .cons r (Reps.append t s)
theorem Reps.take : ∀ {xs : List D} {us : List V} (n : Nat), Reps K F xs us → Reps K F (xs.take n) (us.take n)
  | _, _, 0, _ => .nil
  | _, _, _ + 1, .nil => .nil
  | _, _, n + 1, .cons r t => .cons r (Reps.take n t)
theorem Reps.drop : ∀ {xs : List D} {us : List V} (n : Nat), Reps K F xs us → Reps K F (xs.drop n) (us.drop n)
  | _, _, 0, r => r
  | _, _, _ + 1, .nil => .nil
  | _, _, n + 1, .cons _ t => Reps.drop n t
theorem Reps.set {d : D} {v : V} (r : Rep K F d v) : ∀ {xs : List D} {us : List V} (i : Nat), Reps K F xs us → Reps K F (xs.set i d) (us.set i v)
  | _, _, _, .nil => .nil
  | _, _, 0, .cons _ t => .cons r t
  | _, _, i + 1, .cons q t => .cons q (Reps.set r i t)
theorem Reps.reverse : ∀ {xs : List D} {us : List V}, Reps K F xs us → Reps K F xs.reverse us.reverse
  | _, _, .nil => .nil
  | _, _, .cons r t => by
    rw [List.reverse_cons, List.reverse_cons]
    exact Reps.append (Reps.reverse t) (.cons r .nil)
theorem Reps.ints : ∀ {ns : List Int} {vs : List V}, Reps K F (ns.map D.int) vs → vs = ns.map V.int
  | [], _, .nil => rfl
  | n :: ns, _, .cons (.int _) t => by rw [Reps.ints t]; rfl
theorem Reps.of_ints : ∀ (ns : List Int), Reps K F (ns.map D.int) (ns.map V.int)
  | [] => .nil
  | n :: ns => .cons (.int n) (Reps.of_ints ns)
theorem Reps.strs : ∀ {ns : List Str} {vs : List V}, Reps K F (ns.map D.str) vs → vs = ns.map V.str
  | [], _, .nil => rfl
  | n :: ns, _, .cons (.str _) t => by rw [Reps.strs t]; rfl
theorem Reps.of_strs : ∀ (ns : List Str), Reps K F (ns.map D.str) (ns.map V.str)
  | [] => .nil
  | n :: ns => .cons (.str n) (Reps.of_strs ns)
theorem Reps.bls : ∀ {ns : List Bool} {vs : List V}, Reps K F (ns.map D.bl) vs → vs = ns.map V.bl
  | [], _, .nil => rfl
  | n :: ns, _, .cons (.bl _) t => by rw [Reps.bls t]; rfl

/-! ### growth -/
/-- the settled part grows by new objects, the heap keeps what it has -/
structure Ext (F H F' H' : Hp) : Prop where
  f : Same F F'
  h : Same H H'
  n : ∀ a o, F' a = some o → F a = some o ∨ H a = none
theorem Ext.refl (F H : Hp) : Ext F H F H := ⟨Same.refl _, Same.refl _, fun _ _ h => .inl h⟩
theorem Ext.trans (a : Ext F H F' H') (b : Ext F' H' F'' H'') : Ext F H F'' H'' :=
  ⟨a.f.trans b.f, a.h.trans b.h, fun c o e => by
    rcases b.n c o e with h | h
    · exact a.n c o h
    · exact .inr (a.h.free h)⟩
theorem Ext.heap (s : Same H H') : Ext F H F H' := ⟨Same.refl _, s, fun _ _ h => .inl h⟩
/-- an object that is not settled stays so, if it was there -/
theorem Ext.keepN {a : Addr} {o : HO} (x : Ext F H F' H') (h : H a = some o) (e : F a = none) : F' a = none := by
  cases q : F' a with
  | none => rfl
  | some u =>
    rcases x.n a u q with z | z
    · rw [e] at z; cases z
    · rw [h] at z; cases z
/-- a new object is settled -/
theorem Ext.settle {p : Addr} {o : HO} (x : Ext F H F' H') (n : H p = .none) (q : F' p = .none) : Ext F H (upd F' p o) H' :=
  ⟨x.f.trans (same_upd q), x.h, fun a u e => by
    by_cases h : a = p
    · subst h; exact .inr n
    · rw [upd_ne h] at e; exact x.n a u e⟩
theorem same_settle {p : Addr} {o : HO} (s : Same F H) (q : H p = some o) : Same (upd F p o) H := fun b u e => by
  by_cases h : b = p
  · subst h; rw [upd_same] at e; rw [q, ← e]
  · rw [upd_ne h] at e; exact s b u e

/-! ### three ways to hold a value -/
/-- lists of one's own, in a row -/
inductive RowsAt (K : PySem.W.Frag) (F H : Hp) : List D → List V → Prop
  | nil : RowsAt K F H [] []
  | cons {b : Addr} {us : List V} {xs rs : List D} {vs : List V} : H b = some (.lst us) → Reps K F xs us → RowsAt K F H rs vs → RowsAt K F H (.lst xs :: rs) (.ref b :: vs)
mutual
/-- a tree whose lists are one's own (places may be shared within it); what holds no list is settled -/
inductive OwD (K : PySem.W.Frag) (F H : Hp) : D → V → Prop
  | set {d : D} {v : V} : tO1 d = true → Rep K F d v → OwD K F H d v
  | lst {a : Addr} {vs : List V} {ds : List D} : H a = some (.lst vs) → OwDs K F H ds vs → OwD K F H (.lst ds) (.ref a)
  | tup {a : Addr} {vs : List V} {ds : List D} : tOs ds = false → H a = some (.tup vs) → OwDs K F H ds vs → OwD K F H (.tup ds) (.ref a)
  | junk {a : Addr} {vs : List V} {n : Nat} : H a = some (.lst vs) → vs.length ≤ n → OwD K F H (.junk n) (.ref a)
inductive OwDs (K : PySem.W.Frag) (F H : Hp) : List D → List V → Prop
  | nil : OwDs K F H [] []
  | cons {d : D} {v : V} {ds : List D} {vs : List V} : OwD K F H d v → OwDs K F H ds vs → OwDs K F H (d :: ds) (v :: vs)
end
mutual
/-- the places of such a tree -/
def rch (H : Hp) : D → V → List Addr
  | .lst ds, .ref a => a :: (match H a with | some (.lst vs) => rchs H ds vs | _ => [])
  | .tup ds, .ref a => if tOs ds = true then [] else a :: (match H a with | some (.tup vs) => rchs H ds vs | _ => [])
  | .junk _, .ref a => [a]
  | _, _ => []
def rchs (H : Hp) : List D → List V → List Addr
  | d :: ds, v :: vs => rch H d v ++ rchs H ds vs
  | _, _ => []
end
mutual
theorem OwD.at {F F' H H' : Hp} (f : Same F F') : ∀ {d : D} {v : V}, OwD K F H d v → (∀ b ∈ rch H d v, H' b = H b) → OwD K F' H' d v ∧ rch H' d v = rch H d v
  | d, v, .set h r, e => ⟨.set h (r.mono f), by
    cases d with
    | tup ds =>
      have h : tOs ds = true := h
      cases v <;> simp only [rch, h, if_true]
    | lst ds => exact nomatch h
    | junk n => exact nomatch h
    | _ => cases v <;> simp only [rch]⟩
  | _, _, .lst (a := a) (vs := vs) (ds := ds) q t, e => by
    have ha : H' a = H a := e a (by simp only [rch]; exact List.mem_cons_self)
    obtain ⟨t1, t2⟩ := OwDs.at f t fun b hb => e b (by simp only [rch, q]; exact List.mem_cons_of_mem _ hb)
    exact ⟨.lst (ha.trans q) t1, by simp only [rch, ha, q, t2]⟩
  | _, _, .tup (a := a) (vs := vs) (ds := ds) z q t, e => by
    have ha : H' a = H a := e a (by simp only [rch, z, Bool.false_eq_true, if_false]; exact List.mem_cons_self)
    obtain ⟨t1, t2⟩ := OwDs.at f t fun b hb => e b (by simp only [rch, z, Bool.false_eq_true, if_false, q]; exact List.mem_cons_of_mem _ hb)
    exact ⟨.tup z (ha.trans q) t1, by simp only [rch, z, Bool.false_eq_true, if_false, ha, q, t2]⟩
  | _, _, .junk (a := a) q l, e => by
    have ha : H' a = H a := e a (by simp only [rch]; exact List.mem_cons_self)
    exact ⟨.junk (ha.trans q) l, by simp only [rch]⟩
theorem OwDs.at {F F' H H' : Hp} (f : Same F F') : ∀ {ds : List D} {vs : List V}, OwDs K F H ds vs → (∀ b ∈ rchs H ds vs, H' b = H b) → OwDs K F' H' ds vs ∧ rchs H' ds vs = rchs H ds vs
  | _, _, .nil, _ => ⟨.nil, by simp only [rchs]⟩
  | _, _, .cons r t, e => by
    obtain ⟨r1, r2⟩ := OwD.at f r fun b hb => e b (by simp only [rchs]; exact List.mem_append_left _ hb)
    obtain ⟨t1, t2⟩ := OwDs.at f t fun b hb => e b (by simp only [rchs]; exact List.mem_append_right _ hb)
    exact ⟨.cons r1 t1, by simp only [rchs, r2, t2]⟩
end
mutual
theorem OwD.there {F H : Hp} : ∀ {d : D} {v : V}, OwD K F H d v → ∀ b ∈ rch H d v, ∃ u, H b = some u
  | d, v, .set h r, b, hb => by
    exfalso
    cases d with
    | tup ds =>
      have h : tOs ds = true := h
      cases v <;> simp only [rch, h, if_true] at hb <;> exact nomatch hb
    | lst ds => exact nomatch h
    | junk n => exact nomatch h
    | _ => cases v <;> simp only [rch] at hb <;> exact nomatch hb
  | _, _, .lst (a := a) (vs := vs) (ds := ds) q t, b, hb => by
    simp only [rch, q] at hb
    rcases List.mem_cons.mp hb with rfl | hb
    · exact ⟨_, q⟩
    · exact OwDs.there t b hb
  | _, _, .tup (a := a) (vs := vs) (ds := ds) z q t, b, hb => by
    simp only [rch, z, Bool.false_eq_true, if_false, q] at hb
    rcases List.mem_cons.mp hb with rfl | hb
    · exact ⟨_, q⟩
    · exact OwDs.there t b hb
  | _, _, .junk (a := a) q l, b, hb => by
    simp only [rch] at hb
    rw [List.mem_singleton.mp hb]
    exact ⟨_, q⟩
theorem OwDs.there {F H : Hp} : ∀ {ds : List D} {vs : List V}, OwDs K F H ds vs → ∀ b ∈ rchs H ds vs, ∃ u, H b = some u
  | _, _, .nil, b, hb => by simp only [rchs] at hb; exact nomatch hb
  | _, _, .cons r t, b, hb => by
    simp only [rchs] at hb
    rcases List.mem_append.mp hb with hb | hb
    · exact OwD.there r b hb
    · exact OwDs.there t b hb
end
mutual
/-- without junk: settled where its places are -/
theorem OwD.rep {F F' H : Hp} (f : Same F F') : ∀ {d : D} {v : V}, OwD K F H d v → dat1 d = true → (∀ b ∈ rch H d v, F' b = H b) → Rep K F' d v
  | _, _, .set h r, _, e => r.mono f
  | _, _, .lst (a := a) (vs := vs) (ds := ds) q t, z, e => by
    have ha : F' a = H a := e a (by simp only [rch]; exact List.mem_cons_self)
    exact .lst (ha.trans q) (OwDs.rep f t z fun b hb => e b (by simp only [rch, q]; exact List.mem_cons_of_mem _ hb))
  | _, _, .tup (a := a) (vs := vs) (ds := ds) z q t, y, e => by
    have ha : F' a = H a := e a (by simp only [rch, z, Bool.false_eq_true, if_false]; exact List.mem_cons_self)
    exact .tup (ha.trans q) (OwDs.rep f t y fun b hb => e b (by simp only [rch, z, Bool.false_eq_true, if_false, q]; exact List.mem_cons_of_mem _ hb))
  | _, _, .junk _ _, y, _ => nomatch y
theorem OwDs.rep {F F' H : Hp} (f : Same F F') : ∀ {ds : List D} {vs : List V}, OwDs K F H ds vs → dats ds = true → (∀ b ∈ rchs H ds vs, F' b = H b) → Reps K F' ds vs
  | _, _, .nil, _, _ => .nil
  | _, _, .cons r t, z, e => by
    have z := Bool.and_eq_true_iff.mp z
    exact .cons (OwD.rep f r z.1 fun b hb => e b (by simp only [rchs]; exact List.mem_append_left _ hb)) (OwDs.rep f t z.2 fun b hb => e b (by simp only [rchs]; exact List.mem_append_right _ hb))
end
mutual
theorem OwD.of {F H : Hp} (s : Same F H) : ∀ {d : D} {v : V}, Rep K F d v → dat1 d = true → OwD K F H d v
  | _, _, .non, _ => .set rfl .non
  | _, _, .bl b, _ => .set rfl (.bl b)
  | _, _, .int b, _ => .set rfl (.int b)
  | _, _, .str b, _ => .set rfl (.str b)
  | _, _, .lst q t, z => .lst (s _ _ q) (OwDs.of s t z)
  | _, _, .tup (ds := ds) q t, z => by
    cases h : tOs ds with
    | true => exact .set h (.tup q t)
    | false => exact .tup h (s _ _ q) (OwDs.of s t z)
  | _, _, .scr _, z => nomatch z
  | _, _, .dK _ _, z => nomatch z
  | _, _, .dT _ _, z => nomatch z
  | _, _, .ref _, z => nomatch z
  | _, _, .rows _ _, z => nomatch z
  | _, _, .exn _ _, z => nomatch z
  | _, _, .deep _ _, z => nomatch z
theorem OwDs.of {F H : Hp} (s : Same F H) : ∀ {ds : List D} {vs : List V}, Reps K F ds vs → dats ds = true → OwDs K F H ds vs
  | _, _, .nil, _ => .nil
  | _, _, .cons r t, z => by
    have z := Bool.and_eq_true_iff.mp z
    exact .cons (OwD.of s r z.1) (OwDs.of s t z.2)
end
mutual
theorem OwD.mono {F F' H H' : Hp} (f : Same F F') (h : Same H H') : ∀ {d : D} {v : V}, OwD K F H d v → OwD K F' H' d v
  | _, _, .set z r => .set z (r.mono f)
  | _, _, .lst q t => .lst (h _ _ q) (OwDs.mono f h t)
  | _, _, .tup z q t => .tup z (h _ _ q) (OwDs.mono f h t)
  | _, _, .junk q l => .junk (h _ _ q) l
theorem OwDs.mono {F F' H H' : Hp} (f : Same F F') (h : Same H H') : ∀ {ds : List D} {vs : List V}, OwDs K F H ds vs → OwDs K F' H' ds vs
  | _, _, .nil => .nil
  | _, _, .cons r t => .cons (OwD.mono f h r) (OwDs.mono f h t)
end
/-- as it may be read -/
def View (K : PySem.W.Frag) (F H : Hp) : D → V → Prop
  | .lst ds, v => ∃ a vs, v = .ref a ∧ H a = some (.lst vs) ∧ Reps K F ds vs
  | .scr ns, v => ∃ a, v = .ref a ∧ SqL K H a (ns.map V.int)
  | .tup ds, v => ∃ a vs, v = .ref a ∧ H a = some (.tup vs) ∧ Reps K F ds vs
  | .dK ds, v => ∃ a vs, v = .ref a ∧ Rd H a (.dK vs) ∧ RepK K F ds vs
  | .dT ds, v => ∃ a vs, v = .ref a ∧ Rd H a (.dT vs) ∧ RepT K F ds vs
  | .non, v => v = .non
  | .bl b, v => v = .bl b
  | .int b, v => v = .int b
  | .str b, v => v = .str b
  | .ref b, v => v = .ref b
  | .rows rs, v => ∃ a vs, v = .ref a ∧ H a = some (.lst vs) ∧ (Reps K F rs vs ∨ RowsAt K F H rs vs)
  | .exn c, v => ∃ a C, v = .ref a ∧ PySem.W.nsIn K mainGlobals c = some (some (.ref C)) ∧ H a = some (exK C a)
  | .deep _, v => ∃ a, v = .ref a
  | .junk _, _ => False
/-- a container of one's own at a -/
def Own (K : PySem.W.Frag) (F H : Hp) (a : Addr) : D → Prop
  | .lst ds => ∃ vs, H a = some (.lst vs) ∧ Reps K F ds vs
  | .dK ds => ∃ vs, H a = some (.dK vs) ∧ RepK K F ds vs
  | .dT ds => ∃ vs, H a = some (.dT vs) ∧ RepT K F ds vs
  | .rows rs => ∃ vs, H a = some (.lst vs) ∧ RowsAt K F H rs vs
  | .deep d => OwD K F H d (.ref a) ∧ tO1 d = false
  | _ => False
def isC : D → Bool
  | .lst _ => true
  | .dK _ => true
  | .dT _ => true
  | .rows _ => true
  | .deep _ => true
  | _ => false
def isRows : D → Bool
  | .rows _ => true
  | .deep _ => true
  | _ => false
def refOf : V → Option Addr
  | .ref b => some b
  | _ => none
def isDeep : D → Bool
  | .deep _ => true
  | _ => false
def kids (H : Hp) (a : Addr) : List Addr := match H a with
  | some (.lst vs) => vs.filterMap refOf
  | _ => []
/-- each place once -/
def nub : List Addr → List Addr
  | [] => []
  | b :: l => if b ∈ nub l then nub l else b :: nub l
theorem mem_nub {c : Addr} : ∀ {l : List Addr}, c ∈ nub l ↔ c ∈ l
  | [] => Iff.rfl
  | b :: l => by
    have ih := mem_nub (c := c) (l := l)
    unfold nub
    split
    · rename_i h
      rw [List.mem_cons, ih]
      refine ⟨.inr, fun z => z.elim (fun e => ?_) id⟩
      subst e
      exact ih.mp h
    · rw [List.mem_cons, List.mem_cons, ih]
theorem nub_nodup : ∀ {l : List Addr}, (nub l).Nodup
  | [] => List.nodup_nil
  | b :: l => by
    unfold nub
    split
    · exact nub_nodup
    · rename_i h
      exact List.nodup_cons.mpr ⟨h, nub_nodup⟩
def kin (H : Hp) (a : Addr) : D → List Addr
  | .rows _ => kids H a
  | .deep d => (nub (rch H d (.ref a))).filter fun b => b != a
  | _ => []
/-- the places that a container of one's own takes -/
def foot (H : Hp) (a : Addr) (d : D) : List Addr := a :: kin H a d
/-- new since H0 (a container of one's own), or settled -/
def New (K : PySem.W.Frag) (H0 F H : Hp) (d : D) (v : V) : Prop :=
  if isC d = true then (if isRows d = true then ∃ a, v = .ref a ∧ (∀ b ∈ foot H a d, H0 b = none ∧ F b = none) ∧ (foot H a d).Nodup ∧ Own K F H a d
    else ∃ a, v = .ref a ∧ H0 a = none ∧ F a = none ∧ Own K F H a d) else Rep K F d v

theorem foot_head {a : Addr} {d : D} : a ∈ foot H a d := List.mem_cons_self
theorem foot_one {a : Addr} {d : D} (h : isRows d = false) : foot H a d = [a] := by
  cases d with
  | rows rs => exact nomatch h
  | deep d => exact nomatch h
  | _ => rfl
theorem foot_rows {a : Addr} {rs : List D} : foot H a (.rows rs) = a :: kids H a := rfl
theorem kids_at {a : Addr} {vs : List V} (h : H a = some (.lst vs)) : kids H a = vs.filterMap refOf := by unfold kids; rw [h]
theorem kids_same {a : Addr} (h : H' a = H a) : kids H' a = kids H a := by unfold kids; rw [h]
theorem mem_deep {a b : Addr} {d : D} (h : b ∈ rch H d (.ref a)) : b ∈ foot H a (.deep d) := by
  by_cases e : b = a
  · subst e; exact foot_head
  · refine List.mem_cons_of_mem _ (List.mem_filter.mpr ⟨mem_nub.mpr h, ?_⟩)
    simpa using e
theorem deep_mem {a b : Addr} {d : D} (h : b ∈ foot H a (.deep d)) : b = a ∨ b ∈ rch H d (.ref a) := by
  rcases List.mem_cons.mp h with h | h
  · exact .inl h
  · exact .inr (mem_nub.mp (List.mem_filter.mp h).1)
theorem deep_nodup {a : Addr} {d : D} : (foot H a (.deep d)).Nodup := by
  refine List.nodup_cons.mpr ⟨fun h => ?_, ?_⟩
  · have := (List.mem_filter.mp h).2
    simp at this
  · exact List.Pairwise.filter _ nub_nodup
/-- the places stay where the container of one's own does -/
theorem foot_same0 {a : Addr} {d : D} (hd : isDeep d = false) (h : H' a = H a) : foot H' a d = foot H a d := by
  cases d with
  | rows rs => show a :: kids H' a = a :: kids H a; rw [kids_same h]
  | deep d => exact nomatch hd
  | _ => rfl
theorem foot_same {a : Addr} {d : D} (o : Own K F H a d) (h : ∀ b ∈ foot H a d, H' b = H b) : foot H' a d = foot H a d := by
  cases d with
  | rows rs => exact foot_same0 rfl (h a foot_head)
  | deep d =>
    have := (OwD.at (Same.refl F) o.1 fun b hb => h b (mem_deep hb)).2
    show a :: (nub (rch H' d (.ref a))).filter _ = a :: (nub (rch H d (.ref a))).filter _
    rw [this]
  | _ => rfl
theorem kid_head {b : Addr} {vs : List V} : (V.ref b :: vs).filterMap refOf = b :: vs.filterMap refOf := by rw [List.filterMap_cons]; rfl
theorem RowsAt.mono (f : Same F F') : ∀ {rs : List D} {vs : List V}, RowsAt K F H rs vs → (∀ b ∈ vs.filterMap refOf, ∀ u, H b = some u → H' b = some u) → RowsAt K F' H' rs vs
  | _, _, .nil, _ => .nil
  | _, _, .cons q r t, e => .cons (e _ (by rw [kid_head]; exact List.mem_cons_self) _ q) (r.mono f) (RowsAt.mono f t fun c hc => e c (by rw [kid_head]; exact List.mem_cons_of_mem _ hc))
theorem RowsAt.there : ∀ {rs : List D} {vs : List V}, RowsAt K F H rs vs → ∀ b ∈ vs.filterMap refOf, ∃ u, H b = some u
  | _, _, .nil, _, h => nomatch h
  | _, _, .cons q r t, b, h => by
    rw [kid_head] at h
    rcases List.mem_cons.mp h with rfl | h
    · exact ⟨_, q⟩
    · exact RowsAt.there t b h
theorem RowsAt.length : ∀ {rs : List D} {vs : List V}, RowsAt K F H rs vs → vs.length = rs.length
  | _, _, .nil => rfl
  | _, _, .cons _ _ t => congrArg (· + 1) (RowsAt.length t)
theorem RowsAt.get : ∀ {rs : List D} {vs : List V} {i : Nat} {d : D}, RowsAt K F H rs vs → rs[i]? = some d → ∃ b us xs, vs[i]? = some (.ref b) ∧ d = .lst xs ∧ H b = some (.lst us) ∧ Reps K F xs us
  | _, _, _, _, .nil, e => by simp at e
  | _, _, 0, _, .cons q r _, e => by simp at e; subst e; exact ⟨_, _, _, rfl, rfl, q, r⟩
  | _, _, i + 1, d, .cons _ _ t, e => by
    obtain ⟨b, us, xs, h1, h2, h3, h4⟩ := RowsAt.get (i := i) (d := d) t (by simpa using e)
    exact ⟨b, us, xs, by simpa using h1, h2, h3, h4⟩
theorem RowsAt.append : ∀ {rs ts : List D} {us ws : List V}, RowsAt K F H rs us → RowsAt K F H ts ws → RowsAt K F H (rs ++ ts) (us ++ ws)
  | _, _, _, _, .nil, s => s
  | _, _, _, _, .cons q r t, s => .cons q r (RowsAt.append t s)
theorem filterMap_mem {vs : List V} {i : Nat} {b : Addr} (h : vs[i]? = some (.ref b)) : b ∈ vs.filterMap refOf := List.mem_filterMap.mpr ⟨.ref b, List.mem_of_getElem? h, rfl⟩
/-- rows, settled -/
theorem RowsAt.settle : ∀ {rs : List D} {vs : List V} {F : Hp}, RowsAt K F H rs vs → Same F H → (∀ b ∈ vs.filterMap refOf, F b = none) → (vs.filterMap refOf).Nodup →
    ∃ F', Same F F' ∧ Same F' H ∧ Reps K F' rs vs ∧ ∀ c o, F' c = some o → F c = some o ∨ c ∈ vs.filterMap refOf
  | _, _, F, .nil, s, _, _ => ⟨F, Same.refl _, s, .nil, fun _ _ h => .inl h⟩
  | _, _, F, .cons (b := b) (us := us) (vs := vs) q r t, s, hn, nd => by
    have e : (V.ref b :: vs).filterMap refOf = b :: vs.filterMap refOf := by rw [List.filterMap_cons]; rfl
    rw [e] at hn nd
    have nd := List.nodup_cons.mp nd
    have hb := hn b List.mem_cons_self
    have s1 : Same F (upd F b (.lst us)) := same_upd hb
    obtain ⟨F', s2, s3, rr, hk⟩ := RowsAt.settle (RowsAt.mono s1 t fun _ _ _ h => h) (same_settle s q) (fun c hc => by
      rw [upd_ne (fun (z : c = b) => nd.1 (z ▸ hc))]
      exact hn c (List.mem_cons_of_mem _ hc)) nd.2
    refine ⟨F', s1.trans s2, s3, .cons (.lst (s2 _ _ upd_same) ((r.mono s1).mono s2)) rr, fun c o hc => ?_⟩
    rw [e]
    rcases hk c o hc with h | h
    · by_cases z : c = b
      · exact .inr (z ▸ List.mem_cons_self)
      · rw [upd_ne z] at h; exact .inl h
    · exact .inr (List.mem_cons_of_mem _ h)
theorem Rep.view (s : Same F H) {d : D} {v : V} (r : Rep K F d v) : View K F H d v := by
  cases r with
  | non => rfl
  | bl b => rfl
  | int b => rfl
  | str b => rfl
  | ref b => rfl
  | lst q r => exact ⟨_, _, rfl, s _ _ q, r⟩
  | scr q => exact ⟨_, rfl, s.seq q⟩
  | tup q r => exact ⟨_, _, rfl, s _ _ q, r⟩
  | dK q r => exact ⟨_, _, rfl, Same.rd s q, r⟩
  | dT q r => exact ⟨_, _, rfl, Same.rd s q, r⟩
  | rows q r => exact ⟨_, _, rfl, s _ _ q, .inl r⟩
  | exn n q => exact ⟨_, _, rfl, n, s _ _ q⟩
  | deep d a => exact ⟨a, rfl⟩
theorem View.mono (f : Same F F') (h : Same H H') {d : D} {v : V} (r : View K F H d v) : View K F' H' d v := by
  cases d with
  | lst ds => obtain ⟨a, vs, e, q, r⟩ := r; exact ⟨a, vs, e, h _ _ q, r.mono f⟩
  | scr ns => obtain ⟨a, e, q⟩ := r; exact ⟨a, e, h.seq q⟩
  | tup ds => obtain ⟨a, vs, e, q, r⟩ := r; exact ⟨a, vs, e, h _ _ q, r.mono f⟩
  | dK ds => obtain ⟨a, vs, e, q, r⟩ := r; exact ⟨a, vs, e, Same.rd h q, r.mono f⟩
  | dT ds => obtain ⟨a, vs, e, q, r⟩ := r; exact ⟨a, vs, e, Same.rd h q, r.mono f⟩
  | exn c => obtain ⟨a, C, e, n, q⟩ := r; exact ⟨a, C, e, n, h _ _ q⟩
  | deep d => exact r
  | junk n => exact r.elim
  | rows ds =>
    obtain ⟨a, vs, e, q, r⟩ := r
    refine ⟨a, vs, e, h _ _ q, ?_⟩
    rcases r with r | r
    · exact .inl (r.mono f)
    · exact .inr (r.mono f fun _ _ _ e => h _ _ e)
  | _ => exact r
theorem Own.view {a : Addr} {d : D} (o : Own K F H a d) : View K F H d (.ref a) := by
  cases d with
  | lst ds => obtain ⟨vs, q, r⟩ := o; exact ⟨a, vs, rfl, q, r⟩
  | dK ds => obtain ⟨vs, q, r⟩ := o; exact ⟨a, vs, rfl, .inl q, r⟩
  | dT ds => obtain ⟨vs, q, r⟩ := o; exact ⟨a, vs, rfl, .inl q, r⟩
  | rows ds => obtain ⟨vs, q, r⟩ := o; exact ⟨a, vs, rfl, q, .inr r⟩
  | deep d => exact ⟨a, rfl⟩
  | _ => exact o.elim
theorem OwD.root {a : Addr} {d : D} (o : OwD K F H d (.ref a)) (h : tO1 d = false) : a ∈ rch H d (.ref a) := by
  cases o with
  | set z r => rw [z] at h; cases h
  | lst q t => simp only [rch]; exact List.mem_cons_self
  | tup z q t => simp only [rch, z, Bool.false_eq_true, if_false]; exact List.mem_cons_self
  | junk q l => simp only [rch]; exact List.mem_cons_self
theorem Own.there {a : Addr} {d : D} (o : Own K F H a d) : ∃ u, H a = some u := by
  cases d with
  | lst ds => obtain ⟨vs, q, r⟩ := o; exact ⟨_, q⟩
  | dK ds => obtain ⟨vs, q, r⟩ := o; exact ⟨_, q⟩
  | dT ds => obtain ⟨vs, q, r⟩ := o; exact ⟨_, q⟩
  | rows ds => obtain ⟨vs, q, r⟩ := o; exact ⟨_, q⟩
  | deep d => exact o.1.there a (o.1.root o.2)
  | _ => exact o.elim
theorem Own.foot {a : Addr} {d : D} (o : Own K F H a d) : ∀ b ∈ foot H a d, ∃ u, H b = some u := fun b hb => by
  rcases List.mem_cons.mp hb with rfl | hb
  · exact o.there
  · cases d with
    | rows ds =>
      obtain ⟨vs, q, r⟩ := o
      have hb : b ∈ kids H a := hb
      rw [kids_at q] at hb
      exact r.there b hb
    | deep d => exact o.1.there b (mem_nub.mp (List.mem_filter.mp hb).1)
    | _ => exact absurd hb List.not_mem_nil
theorem Own.isC {a : Addr} {d : D} (o : Own K F H a d) : isC d = true := by
  cases d <;> first | rfl | exact o.elim
/-- the heap changes elsewhere -/
theorem Own.at {a : Addr} {d : D} (f : Same F F') (e : ∀ b ∈ DL.foot H a d, ∀ u, H b = some u → H' b = some u) (o : Own K F H a d) : Own K F' H' a d := by
  have e0 := e a foot_head
  cases d with
  | lst ds => obtain ⟨vs, q, r⟩ := o; exact ⟨vs, e0 _ q, r.mono f⟩
  | dK ds => obtain ⟨vs, q, r⟩ := o; exact ⟨vs, e0 _ q, r.mono f⟩
  | dT ds => obtain ⟨vs, q, r⟩ := o; exact ⟨vs, e0 _ q, r.mono f⟩
  | rows ds =>
    obtain ⟨vs, q, r⟩ := o
    refine ⟨vs, e0 _ q, r.mono f fun b hb => e b (List.mem_cons_of_mem _ ?_)⟩
    show b ∈ kids H a
    rw [kids_at q]
    exact hb
  | deep d =>
    refine ⟨(OwD.at f o.1 fun b hb => ?_).1, o.2⟩
    obtain ⟨u, hu⟩ := o.1.there b hb
    exact (e b (mem_deep hb) u hu).trans hu.symm
  | _ => exact o.elim
theorem Own.mono {a : Addr} {d : D} (f : Same F F') (h : Same H H') (o : Own K F H a d) : Own K F' H' a d := o.at f fun b _ u e => h b u e
/-- one's own container, settled -/
theorem Own.settle {a : Addr} {d : D} (o : Own K F H a d) (s : Same F H) (n : ∀ b ∈ DL.foot H a d, F b = none) (nd : (DL.foot H a d).Nodup) : ∃ F', Same F F' ∧ Same F' H ∧ Rep K F' d (.ref a) ∧ ∀ c o, F' c = some o → F c = some o ∨ c ∈ DL.foot H a d := by
  have one : ∀ u, H a = some u → Same F (upd F a u) ∧ Same (upd F a u) H ∧ ∀ c o, upd F a u c = some o → F c = some o ∨ c ∈ DL.foot H a d := fun u q => ⟨same_upd (n a foot_head), same_settle s q, fun c o h => by
    by_cases z : c = a
    · exact .inr (z ▸ foot_head)
    · rw [upd_ne z] at h; exact .inl h⟩
  cases d with
  | lst ds => obtain ⟨vs, q, r⟩ := o; obtain ⟨s1, s2, s3⟩ := one _ q; exact ⟨_, s1, s2, .lst upd_same (r.mono s1), s3⟩
  | dK ds => obtain ⟨vs, q, r⟩ := o; obtain ⟨s1, s2, s3⟩ := one _ q; exact ⟨_, s1, s2, .dK (.inl upd_same) (r.mono s1), s3⟩
  | dT ds => obtain ⟨vs, q, r⟩ := o; obtain ⟨s1, s2, s3⟩ := one _ q; exact ⟨_, s1, s2, .dT (.inl upd_same) (r.mono s1), s3⟩
  | rows ds =>
    obtain ⟨vs, q, r⟩ := o
    have ef : DL.foot H a (.rows ds) = a :: vs.filterMap refOf := by rw [foot_rows, kids_at q]
    rw [ef] at n nd ⊢
    have nd := List.nodup_cons.mp nd
    have n0 := n a List.mem_cons_self
    have s1 : Same F (upd F a (.lst vs)) := same_upd n0
    obtain ⟨F', s2, s3, rr, hk⟩ := (r.mono (H' := H) s1 fun _ _ _ h => h).settle (same_settle s q) (fun c hc => by
      rw [upd_ne (fun (z : c = a) => nd.1 (z ▸ hc))]
      exact n c (List.mem_cons_of_mem _ hc)) nd.2
    refine ⟨F', s1.trans s2, s3, .rows (s2 _ _ upd_same) rr, fun c o hc => ?_⟩
    rcases hk c o hc with h | h
    · by_cases z : c = a
      · exact .inr (z ▸ List.mem_cons_self)
      · rw [upd_ne z] at h; exact .inl h
    · exact .inr (List.mem_cons_of_mem _ h)
  | deep d =>
    obtain ⟨o1, o2⟩ := o
    let F' : Hp := fun b => if b ∈ DL.foot H a (.deep d) then H b else F b
    have s1 : Same F F' := fun b u h => by
      show (if _ then _ else _) = _
      rw [if_neg (fun z => by rw [n b z] at h; cases h)]
      exact h
    have s2 : Same F' H := fun b u h => by
      by_cases z : b ∈ DL.foot H a (.deep d)
      · have h : (if b ∈ DL.foot H a (.deep d) then H b else F b) = some u := h
        rwa [if_pos z] at h
      · have h : (if b ∈ DL.foot H a (.deep d) then H b else F b) = some u := h
        rw [if_neg z] at h
        exact s _ _ h
    refine ⟨F', s1, s2, .deep d a, fun c o h => ?_⟩
    by_cases z : c ∈ DL.foot H a (.deep d)
    · exact .inr z
    · have h : (if c ∈ DL.foot H a (.deep d) then H c else F c) = some o := h
      rw [if_neg z] at h
      exact .inl h
  | _ => exact o.elim
theorem New.own {H0 : Hp} {d : D} {v : V} (h : isC d = true) (r : New K H0 F H d v) : ∃ a, v = .ref a ∧ (∀ b ∈ DL.foot H a d, H0 b = none ∧ F b = none) ∧ (DL.foot H a d).Nodup ∧ Own K F H a d := by
  unfold New at r
  rw [if_pos h] at r
  split at r
  · exact r
  · rename_i hr
    obtain ⟨a, e, n, n', o⟩ := r
    rw [Bool.not_eq_true] at hr
    refine ⟨a, e, ?_, ?_, o⟩
    · rw [foot_one hr]
      intro b hb
      rw [List.mem_singleton.mp hb]
      exact ⟨n, n'⟩
    · rw [foot_one hr]
      simp
theorem New.mk {H0 : Hp} {d : D} {a : Addr} (n : ∀ b ∈ DL.foot H a d, H0 b = none ∧ F b = none) (nd : (DL.foot H a d).Nodup) (o : Own K F H a d) : New K H0 F H d (.ref a) := by
  unfold New
  rw [if_pos o.isC]
  split
  · exact ⟨a, rfl, n, nd, o⟩
  · exact ⟨a, rfl, (n a foot_head).1, (n a foot_head).2, o⟩
theorem New.isRep {H0 : Hp} {d : D} {v : V} (h : isC d = false) (r : New K H0 F H d v) : Rep K F d v := by
  unfold New at r
  rw [h] at r
  exact r
theorem New.view {H0 : Hp} {d : D} {v : V} (s : Same F H) (r : New K H0 F H d v) : View K F H d v := by
  cases h : isC d with
  | true => obtain ⟨a, rfl, _, _, o⟩ := r.own h; exact o.view
  | false => exact (r.isRep h).view s
theorem New.rep {H0 : Hp} {d : D} {v : V} (s : Same F' H') (x : Ext F H0 F' H') (r : New K H0 F' H' d v) : ∃ F'', Ext F H0 F'' H' ∧ Same F' F'' ∧ Same F'' H' ∧ Rep K F'' d v := by
  cases h : isC d with
  | true =>
    obtain ⟨a, rfl, n, nd, o⟩ := r.own h
    obtain ⟨F2, s1, s2, r, hk⟩ := o.settle s (fun b hb => (n b hb).2) nd
    exact ⟨F2, ⟨x.f.trans s1, x.h, fun c u e => by
      rcases hk c u e with z | z
      · exact x.n c u z
      · exact .inr (n c z).1⟩, s1, s2, r⟩
  | false => exact ⟨F', x, Same.refl _, s, r.isRep h⟩
theorem New.of_rep {H0 : Hp} {d : D} {v : V} (h : isC d = false) (r : Rep K F d v) : New K H0 F H d v := by
  unfold New; rw [h]; exact r
end

/-! ### a def's state -/
abbrev En := List (Option (Bool × D))
structure Cd where
  K : PySem.W.Frag
  F0 : Hp
  H0 : Hp
  XW : Str → L2.St → Hp → Prop
  ln : Nat → Option (D × V)
  io : List Addr

structure Rel (C : Cd) (ρ : En) (σ : L2.St) (F H : Hp) : Prop where
  ext : Ext C.F0 C.H0 F H
  sub : Same F H
  len : σ.length = ρ.length
  slot : ∀ (i : Nat) (d : D), ρ[i]? = some (some (false, d)) → ∃ v, σ[i]? = some (some v) ∧ Rep C.K F d v
  ownF : ∀ (i : Nat) (d : D), ρ[i]? = some (some (true, d)) → ∃ a, σ[i]? = some (some (.ref a)) ∧ (∀ b ∈ foot H a d, F b = none ∧ C.H0 b = none) ∧ (foot H a d).Nodup ∧ Own C.K F H a d
  apartF : ∀ (i j : Nat) (d e : D) (a b c : Addr), ρ[i]? = some (some (true, d)) → ρ[j]? = some (some (true, e)) → σ[i]? = some (some (.ref a)) → σ[j]? = some (some (.ref b)) → c ∈ foot H a d → c ∈ foot H b e → i = j
  lend : ∀ (i : Nat) (d : D) (v : V), C.ln i = some (d, v) → σ[i]? = some (some v) ∧ View C.K C.F0 C.H0 d v

section
variable {C : Cd} {ρ : En} {σ : L2.St} {F H F' H' : Hp}
theorem Rel.own (r : Rel C ρ σ F H) (i : Nat) (d : D) (h : ρ[i]? = some (some (true, d))) : ∃ a, σ[i]? = some (some (.ref a)) ∧ F a = none ∧ C.H0 a = none ∧ Own C.K F H a d := by
  obtain ⟨a, q, n, _, o⟩ := r.ownF i d h
  exact ⟨a, q, (n a foot_head).1, (n a foot_head).2, o⟩
/-- the feet stay where the own containers do -/
theorem foot_grow {a : Addr} {d : D} (h : Same H H') (o : Own C.K F H a d) : foot H' a d = foot H a d := by
  refine foot_same o fun b hb => ?_
  obtain ⟨u, hu⟩ := o.foot b hb
  exact (h _ _ hu).trans hu.symm
theorem Rel.grow (r : Rel C ρ σ F H) (x : Ext F H F' H') (s : Same F' H') : Rel C ρ σ F' H' where
  ext := r.ext.trans x
  sub := s
  len := r.len
  slot := fun i d e => by obtain ⟨v, q, z⟩ := r.slot i d e; exact ⟨v, q, z.mono x.f⟩
  ownF := fun i d e => by
    obtain ⟨a, q, n, nd, o⟩ := r.ownF i d e
    rw [← foot_grow x.h o] at nd
    refine ⟨a, q, fun b hb => ?_, nd, o.mono x.f x.h⟩
    rw [foot_grow x.h o] at hb
    obtain ⟨u, hu⟩ := o.foot b hb
    exact ⟨x.keepN hu (n b hb).1, (n b hb).2⟩
  apartF := fun i j d e a b c h1 h2 h3 h4 h5 h6 => by
    obtain ⟨a', q, _, _, o⟩ := r.ownF i d h1
    rw [h3] at q
    cases q
    obtain ⟨b', q, _, _, o'⟩ := r.ownF j e h2
    rw [h4] at q
    cases q
    rw [foot_grow x.h o] at h5
    rw [foot_grow x.h o'] at h6
    exact r.apartF i j d e a b c h1 h2 h3 h4 h5 h6
  lend := r.lend
/-- a name's value, to be read -/
theorem Rel.view (r : Rel C ρ σ F H) {i : Nat} {b : Bool} {d : D} (e : ρ[i]? = some (some (b, d))) : ∃ v, σ[i]? = some (some v) ∧ View C.K F H d v := by
  cases b with
  | false => obtain ⟨v, q, z⟩ := r.slot i d e; exact ⟨v, q, z.view r.sub⟩
  | true => obtain ⟨a, q, n, n0, o⟩ := r.own i d e; exact ⟨_, q, o.view⟩
theorem get_set {α : Type} {l : List α} {i j : Nat} {x y : α} (h : (l.set i x)[j]? = some y) : (i = j ∧ y = x) ∨ (i ≠ j ∧ l[j]? = some y) := by
  by_cases e : i = j
  · subst e
    rw [List.getElem?_set] at h
    simp at h
    exact .inl ⟨rfl, h.2.symm⟩
  · right; rw [List.getElem?_set_ne e] at h; exact ⟨e, h⟩
theorem Rel.lt (r : Rel C ρ σ F H) {i : Nat} {x : Option (Bool × D)} (h : ρ[i]? = some x) : i < σ.length := by
  rw [r.len]
  exact (List.getElem?_eq_some_iff.mp h).1
theorem Rel.lt' (r : Rel C ρ σ F H) {i : Nat} (h : i < ρ.length) : i < σ.length := by rw [r.len]; exact h
/-- a name is set to a settled value -/
theorem Rel.set (r : Rel C ρ σ F H) {i : Nat} {d : D} {v : V} (q : Rep C.K F d v) (hl : C.ln i = none) : Rel C (ρ.set i (some (false, d))) (σ.set i (some v)) F H where
  ext := r.ext
  sub := r.sub
  len := by rw [List.length_set, List.length_set]; exact r.len
  slot := fun j e h => by
    rcases get_set h with ⟨rfl, z⟩ | ⟨n, z⟩
    · cases z
      refine ⟨v, ?_, q⟩
      rw [List.getElem?_set_self]
      rw [r.len]
      have := (List.getElem?_eq_some_iff.mp h).1
      simpa using this
    · obtain ⟨w, z1, z2⟩ := r.slot j e z
      exact ⟨w, by rw [List.getElem?_set_ne n]; exact z1, z2⟩
  ownF := fun j e h => by
    rcases get_set h with ⟨rfl, z⟩ | ⟨n, z⟩
    · cases z
    · obtain ⟨a, z1, z2⟩ := r.ownF j e z
      exact ⟨a, by rw [List.getElem?_set_ne n]; exact z1, z2⟩
  apartF := fun j k d' e a b c h1 h2 h3 h4 h5 h6 => by
    rcases get_set h1 with ⟨rfl, z⟩ | ⟨n, z⟩
    · cases z
    · rcases get_set h2 with ⟨rfl, z'⟩ | ⟨n', z'⟩
      · cases z'
      · rw [List.getElem?_set_ne n] at h3
        rw [List.getElem?_set_ne n'] at h4
        exact r.apartF j k _ _ a b c z z' h3 h4 h5 h6
  lend := fun j d' w h => by
    obtain ⟨z1, z2⟩ := r.lend j d' w h
    exact ⟨by rw [List.getElem?_set_ne (fun e => by subst e; rw [hl] at h; cases h)]; exact z1, z2⟩
/-- a name is set to a container of one's own -/
theorem Rel.setO (r : Rel C ρ σ F H) {i : Nat} {d : D} {a : Addr} (hl : C.ln i = none) (n : ∀ b ∈ foot H a d, F b = none ∧ C.H0 b = none) (nd : (foot H a d).Nodup) (o : Own C.K F H a d) (ap : ∀ (j : Nat) (e : D) (b c : Addr), ρ[j]? = some (some (true, e)) → σ[j]? = some (some (.ref b)) → c ∈ foot H a d → c ∈ foot H b e → False) :
    Rel C (ρ.set i (some (true, d))) (σ.set i (some (.ref a))) F H where
  ext := r.ext
  sub := r.sub
  len := by rw [List.length_set, List.length_set]; exact r.len
  slot := fun j e h => by
    rcases get_set h with ⟨rfl, z⟩ | ⟨n, z⟩
    · cases z
    · obtain ⟨w, z1, z2⟩ := r.slot j e z
      exact ⟨w, by rw [List.getElem?_set_ne n]; exact z1, z2⟩
  ownF := fun j e h => by
    rcases get_set h with ⟨rfl, z⟩ | ⟨nn, z⟩
    · cases z
      refine ⟨a, ?_, n, nd, o⟩
      rw [List.getElem?_set_self]
      rw [r.len]
      have := (List.getElem?_eq_some_iff.mp h).1
      simpa using this
    · obtain ⟨b, z1, z2⟩ := r.ownF j e z
      exact ⟨b, by rw [List.getElem?_set_ne nn]; exact z1, z2⟩
  apartF := fun j k d' e b b' c h1 h2 h3 h4 h5 h6 => by
    rcases get_set h1 with ⟨rfl, z⟩ | ⟨n, z⟩
    · rcases get_set h2 with ⟨rfl, z'⟩ | ⟨n', z'⟩
      · rfl
      · rw [List.getElem?_set_ne n'] at h4
        cases z
        rcases get_set h3 with ⟨_, q⟩ | ⟨q, _⟩
        · cases q
          exact (ap k _ _ c z' h4 h5 h6).elim
        · exact absurd rfl q
    · rcases get_set h2 with ⟨rfl, z'⟩ | ⟨n', z'⟩
      · rw [List.getElem?_set_ne n] at h3
        cases z'
        rcases get_set h4 with ⟨_, q⟩ | ⟨q, _⟩
        · cases q
          exact (ap j _ _ c z h3 h6 h5).elim
        · exact absurd rfl q
      · rw [List.getElem?_set_ne n] at h3
        rw [List.getElem?_set_ne n'] at h4
        exact r.apartF j k _ _ b b' c z z' h3 h4 h5 h6
  lend := fun j d' w h => by
    obtain ⟨z1, z2⟩ := r.lend j d' w h
    exact ⟨by rw [List.getElem?_set_ne (fun e => by subst e; rw [hl] at h; cases h)]; exact z1, z2⟩
/-- .. the slot's own name aside -/
theorem Rel.forget (r : Rel C ρ σ F H) (i : Nat) (x : Option V) (hl : C.ln i = none) : Rel C (ρ.set i none) (σ.set i x) F H where
  ext := r.ext
  sub := r.sub
  len := by rw [List.length_set, List.length_set]; exact r.len
  slot := fun j e h => by
    rcases get_set h with ⟨rfl, z⟩ | ⟨n, z⟩
    · cases z
    · obtain ⟨w, z1, z2⟩ := r.slot j e z
      exact ⟨w, by rw [List.getElem?_set_ne n]; exact z1, z2⟩
  ownF := fun j e h => by
    rcases get_set h with ⟨rfl, z⟩ | ⟨n, z⟩
    · cases z
    · obtain ⟨a, z1, z2⟩ := r.ownF j e z
      exact ⟨a, by rw [List.getElem?_set_ne n]; exact z1, z2⟩
  apartF := fun j k d' e a b c h1 h2 h3 h4 h5 h6 => by
    rcases get_set h1 with ⟨rfl, z⟩ | ⟨n, z⟩
    · cases z
    · rcases get_set h2 with ⟨rfl, z'⟩ | ⟨n', z'⟩
      · cases z'
      · rw [List.getElem?_set_ne n] at h3
        rw [List.getElem?_set_ne n'] at h4
        exact r.apartF j k _ _ a b c z z' h3 h4 h5 h6
  lend := fun j d' w h => by
    obtain ⟨z1, z2⟩ := r.lend j d' w h
    exact ⟨by rw [List.getElem?_set_ne (fun e => by subst e; rw [hl] at h; cases h)]; exact z1, z2⟩
theorem Rel.unown (r : Rel C ρ σ F H) (i : Nat) : Rel C (ρ.set i none) σ F H where
  ext := r.ext
  sub := r.sub
  len := by rw [List.length_set]; exact r.len
  slot := fun j e h => by
    rcases get_set h with ⟨rfl, z⟩ | ⟨n, z⟩
    · cases z
    · exact r.slot j e z
  ownF := fun j e h => by
    rcases get_set h with ⟨rfl, z⟩ | ⟨n, z⟩
    · cases z
    · exact r.ownF j e z
  apartF := fun j k d' e a b c h1 h2 h3 h4 h5 h6 => by
    rcases get_set h1 with ⟨rfl, z⟩ | ⟨n, z⟩
    · cases z
    · rcases get_set h2 with ⟨rfl, z'⟩ | ⟨n', z'⟩
      · cases z'
      · exact r.apartF j k _ _ a b c z z' h3 h4 h5 h6
  lend := r.lend
/-- part of a name's own container is settled -/
theorem Rel.settleP (r : Rel C ρ σ F H) {i : Nat} {d : D} {a : Addr} {bs : List Addr} (e : ρ[i]? = some (some (true, d))) (q : σ[i]? = some (some (.ref a))) (hb : ∀ b ∈ bs, b ∈ foot H a d) (s1 : Same F F') (s2 : Same F' H) (hk : ∀ c o, F' c = some o → F c = some o ∨ c ∈ bs) : Rel C (ρ.set i none) σ F' H where
  ext := ⟨r.ext.f.trans s1, r.ext.h, fun b x h => by
    rcases hk b x h with z | z
    · exact r.ext.n b x z
    · obtain ⟨a', q', n, _, _⟩ := r.ownF i d e
      rw [q] at q'
      cases q'
      exact .inr (n b (hb b z)).2⟩
  sub := s2
  len := by rw [List.length_set]; exact r.len
  slot := fun j e' h => by
    rcases get_set h with ⟨rfl, z⟩ | ⟨nn, z⟩
    · cases z
    · obtain ⟨w, z1, z2⟩ := r.slot j e' z
      exact ⟨w, z1, z2.mono s1⟩
  ownF := fun j e' h => by
    rcases get_set h with ⟨rfl, z⟩ | ⟨nn, z⟩
    · cases z
    · obtain ⟨b, z1, z2, z3, z4⟩ := r.ownF j e' z
      refine ⟨b, z1, fun c hc => ⟨?_, (z2 c hc).2⟩, z3, z4.mono s1 (Same.refl _)⟩
      cases hF : F' c with
      | none => rfl
      | some o =>
        rcases hk c o hF with y | y
        · rw [(z2 c hc).1] at y; cases y
        · exact absurd (r.apartF i j _ _ a b c e z q z1 (hb c y) hc) nn
  apartF := fun j k d' e' b b' c h1 h2 h3 h4 h5 h6 => by
    rcases get_set h1 with ⟨rfl, z⟩ | ⟨n, z⟩
    · cases z
    · rcases get_set h2 with ⟨rfl, z'⟩ | ⟨n', z'⟩
      · cases z'
      · exact r.apartF j k _ _ b b' c z z' h3 h4 h5 h6
  lend := r.lend
theorem set_id {α : Type} {l : List α} {i : Nat} {x : α} (h : l[i]? = some x) : l.set i x = l := by
  obtain ⟨h1, h2⟩ := List.getElem?_eq_some_iff.mp h
  rw [← h2, List.set_getElem_self]
/-- a name's own container is settled -/
theorem Rel.settle1 (r : Rel C ρ σ F H) {i : Nat} {d : D} (e : ρ[i]? = some (some (true, d))) : ∃ F', Same F F' ∧ Rel C (ρ.set i (some (false, d))) σ F' H := by
  obtain ⟨a, q, n, nd, o⟩ := r.ownF i d e
  obtain ⟨F2, s1, s2, rp, hk⟩ := o.settle r.sub (fun b hb => (n b hb).1) nd
  have r2 := r.settleP e q (fun _ h => h) s1 s2 hk
  refine ⟨F2, s1, ⟨r2.ext, r2.sub, by rw [List.length_set]; exact r.len, fun j e' h => ?_, fun j e' h => ?_, fun j k d' e' b b' c h1 h2 h3 h4 h5 h6 => ?_, r.lend⟩⟩
  · rcases get_set h with ⟨rfl, z⟩ | ⟨nn, z⟩
    · cases z
      exact ⟨_, q, rp⟩
    · exact r2.slot j e' (by rw [List.getElem?_set_ne nn]; exact z)
  · rcases get_set h with ⟨rfl, z⟩ | ⟨nn, z⟩
    · cases z
    · exact r2.ownF j e' (by rw [List.getElem?_set_ne nn]; exact z)
  · rcases get_set h1 with ⟨rfl, z⟩ | ⟨n1, z⟩
    · cases z
    · rcases get_set h2 with ⟨rfl, z'⟩ | ⟨n2, z'⟩
      · cases z'
      · exact r.apartF j k _ _ b b' c z z' h3 h4 h5 h6
/-- settle the names at is -/
def settle (ρ : En) : List Nat → En
  | [] => ρ
  | i :: is => match ρ[i]? with
    | some (some (true, d)) => settle (ρ.set i (some (false, d))) is
    | _ => settle ρ is
theorem Rel.settle : ∀ (is : List Nat) {ρ : En} {F : Hp}, Rel C ρ σ F H → ∃ F', Same F F' ∧ Rel C (settle ρ is) σ F' H
  | [], _, F, r => ⟨F, Same.refl _, r⟩
  | i :: is, ρ, F, r => by
    unfold DL.settle
    split
    · rename_i d e
      obtain ⟨F', sf, r'⟩ := r.settle1 e
      obtain ⟨F2, sf2, r2⟩ := Rel.settle is r'
      exact ⟨F2, sf.trans sf2, r2⟩
    · exact Rel.settle is r
/-- a container of one's own is changed, the others stay -/
theorem Rel.writeF (r : Rel C ρ σ F H) {i : Nat} {d d' : D} {a : Addr} (e : ρ[i]? = some (some (true, d))) (q : σ[i]? = some (some (.ref a)))
    (hH : ∀ c, H' c ≠ H c → (c ∈ foot H a d ∨ H c = none) ∧ F c = none ∧ C.H0 c = none) (o' : Own C.K F H' a d') (n' : ∀ b ∈ foot H' a d', F b = none ∧ C.H0 b = none) (nd' : (foot H' a d').Nodup) (hf : ∀ c ∈ foot H' a d', c ∈ foot H a d ∨ ∀ (k : Nat) (e1 : D) (b' : Addr), ρ[k]? = some (some (true, e1)) → σ[k]? = some (some (.ref b')) → c ∉ foot H b' e1) : Rel C (ρ.set i (some (true, d'))) σ F H' := by
  have keep : ∀ (j : Nat) (e' : D) (b c : Addr), i ≠ j → ρ[j]? = some (some (true, e')) → σ[j]? = some (some (.ref b)) → c ∈ foot H b e' → H' c = H c := fun j e' b c hij hj hq hc => by
    by_cases hh : H' c = H c
    · exact hh
    · obtain ⟨h1, _, _⟩ := hH c hh
      rcases h1 with h1 | h1
      · exact absurd (r.apartF i j _ _ a b c e hj q hq h1 hc) hij
      · obtain ⟨b', q', _, _, o⟩ := r.ownF j e' hj
        rw [hq] at q'
        cases q'
        obtain ⟨u, hu⟩ := o.foot c hc
        rw [h1] at hu; cases hu
  have keepf : ∀ (j : Nat) (e' : D) (b : Addr), i ≠ j → ρ[j]? = some (some (true, e')) → σ[j]? = some (some (.ref b)) → foot H' b e' = foot H b e' := fun j e' b hij hj hq => by
    obtain ⟨b', q', _, _, o⟩ := r.ownF j e' hj
    rw [hq] at q'
    cases q'
    exact foot_same o fun c hc => keep j e' b c hij hj hq hc
  refine ⟨⟨r.ext.f, fun b x h => ?_, r.ext.n⟩, fun b x h => ?_, by rw [List.length_set]; exact r.len, fun j e' h => ?_, fun j e' h => ?_, fun j k d1 e1 b b' c h1 h2 h3 h4 h5 h6 => ?_, r.lend⟩
  · by_cases hh : H' b = H b
    · rw [hh]; exact r.ext.h b x h
    · rw [(hH b hh).2.2] at h; cases h
  · by_cases hh : H' b = H b
    · rw [hh]; exact r.sub b x h
    · rw [(hH b hh).2.1] at h; cases h
  · rcases get_set h with ⟨rfl, z⟩ | ⟨nn, z⟩
    · cases z
    · exact r.slot j e' z
  · rcases get_set h with ⟨rfl, z⟩ | ⟨nn, z⟩
    · cases z
      exact ⟨a, q, n', nd', o'⟩
    · obtain ⟨b, z1, z2, z3, z4⟩ := r.ownF j e' z
      have ef := keepf j e' b nn z z1
      refine ⟨b, z1, by rw [ef]; exact z2, by rw [ef]; exact z3, z4.at (Same.refl _) fun c hc u hu => ?_⟩
      rw [keep j e' b c nn z z1 hc]; exact hu
  · have cross : ∀ (k : Nat) (e1 : D) (b' c : Addr), i ≠ k → ρ[k]? = some (some (true, e1)) → σ[k]? = some (some (.ref b')) → c ∈ foot H' a d' → c ∈ foot H' b' e1 → False := fun k e1 b' c hik hk hq h5 h6 => by
      rw [keepf k e1 b' hik hk hq] at h6
      rcases hf c h5 with y | y
      · exact hik (r.apartF i k _ _ a b' c e hk q hq y h6)
      · exact y k e1 b' hk hq h6
    rcases get_set h1 with ⟨rfl, z⟩ | ⟨n1, z⟩
    · rcases get_set h2 with ⟨rfl, z'⟩ | ⟨n2, z'⟩
      · rfl
      · cases z
        rw [q] at h3
        cases h3
        exact (cross k e1 b' c n2 z' h4 h5 h6).elim
    · rcases get_set h2 with ⟨rfl, z'⟩ | ⟨n2, z'⟩
      · cases z'
        rw [q] at h4
        cases h4
        exact (cross j d1 b c n1 z h3 h6 h5).elim
      · rw [keepf j d1 b n1 z h3] at h5
        rw [keepf k e1 b' n2 z' h4] at h6
        exact r.apartF j k _ _ b b' c z z' h3 h4 h5 h6
/-- a container of one's own is changed -/
theorem Rel.write (r : Rel C ρ σ F H) {i : Nat} {d d' : D} {a : Addr} {u : HO} (e : ρ[i]? = some (some (true, d))) (q : σ[i]? = some (some (.ref a))) (o' : Own C.K F (upd H a u) a d') (hr : isRows d' = false := by rfl) : Rel C (ρ.set i (some (true, d'))) σ F (upd H a u) := by
  obtain ⟨a', q', n, nd, o⟩ := r.ownF i d e
  rw [q] at q'
  cases q'
  refine r.writeF e q (fun c hc => ?_) o' (fun b hb => ?_) (by rw [foot_one hr]; simp) fun b hb => ?_
  · have : c = a := by
      by_cases z : c = a
      · exact z
      · exact absurd (upd_ne z) hc
    subst this
    exact ⟨.inl foot_head, n c foot_head⟩
  · rw [foot_one hr] at hb
    rw [List.mem_singleton.mp hb]
    exact n a foot_head
  · rw [foot_one hr] at hb
    rw [List.mem_singleton.mp hb]
    exact .inl foot_head
end

/-! ### the readings of the layer -/
/-- what is wanted behind a value -/
def Out (C : Cd) (σ : L2.St) (F H : Hp) (W : Hp → Hp → D → V → Prop) (x : R D) (Q : VK) : Prop := match x with
  | .ok d => ∀ v F' H', Ext F H F' H' → Same F' H' → W F' H' d v → Q v H'
  | .err c => ∀ F' H', Ext F H F' H' → Same F' H' → C.XW c σ H'
  | .bad => False
def OutA (C : Cd) (σ : L2.St) (F H : Hp) (x : R (List D)) (Q : List V → Hp → Prop) : Prop := match x with
  | .ok d => ∀ v F' H', Ext F H F' H' → Same F' H' → Reps C.K F' d v → Q v H'
  | .err c => ∀ F' H', Ext F H F' H' → Same F' H' → C.XW c σ H'
  | .bad => False
def OutT (C : Cd) (σ : L2.St) (F H : Hp) (x : R Bool) (Q : Bool → Hp → Prop) : Prop := match x with
  | .ok d => ∀ F' H', Ext F H F' H' → Same F' H' → Q d H'
  | .err c => ∀ F' H', Ext F H F' H' → Same F' H' → C.XW c σ H'
  | .bad => False
/-- a value that may be read; a settled one; one that is new -/
def tR (C : Cd) (f : En → R D) : TE := fun σ H Q => ∃ ρ F, Rel C ρ σ F H ∧ Out C σ F H (fun F' H' => View C.K F' H') (f ρ) Q
def tE (C : Cd) (f : En → R D) : TE := fun σ H Q => ∃ ρ F, Rel C ρ σ F H ∧ Out C σ F H (fun F' H' => Rep C.K F') (f ρ) Q
def tO (C : Cd) (f : En → R D) : TE := fun σ H Q => ∃ ρ F, Rel C ρ σ F H ∧ Out C σ F H (fun F' H' => New C.K H F' H') (f ρ) Q
def tA (C : Cd) (f : En → R (List D)) : TA := fun σ H Q => ∃ ρ F, Rel C ρ σ F H ∧ OutA C σ F H (f ρ) Q
def tT (C : Cd) (f : En → R Bool) : TT := fun σ H Q => ∃ ρ F, Rel C ρ σ F H ∧ OutT C σ F H (f ρ) Q

theorem _root_.L2.PE.mono {X : Cx} {e : Expr} {t t' : TE} (h : PE X e t) (m : ∀ σ H Q, t' σ H Q → t σ H Q) : PE X e t' := ⟨fun pins s σ H Q I q => h.run pins s σ H Q I (m σ H Q q)⟩
theorem _root_.L2.PA.mono {X : Cx} {e : List Expr} {t t' : TA} (h : PA X e t) (m : ∀ σ H Q, t' σ H Q → t σ H Q) : PA X e t' := ⟨fun pos pins s σ H Q I q => h.run pos pins s σ H Q I (m σ H Q q)⟩
theorem _root_.L2.PT.mono {X : Cx} {e : Expr} {t t' : TT} (h : PT X e t) (m : ∀ σ H Q, t' σ H Q → t σ H Q) : PT X e t' := ⟨fun pins s σ H Q I q => h.run pins s σ H Q I (m σ H Q q)⟩
theorem _root_.L2.PW.mono {X : Cx} {e : Expr} {t t' : TT} (h : PW X e t) (m : ∀ σ H Q, t' σ H Q → t σ H Q) : PW X e t' := ⟨fun whole pins s σ H Q I q => h.run whole pins s σ H Q I (m σ H Q q)⟩
theorem _root_.L2.PS.mono {X : Cx} {e : Stmt} {t t' : TS} (h : PS X e t) (m : ∀ D σ H, t' D σ H → t D σ H) : PS X e t' := ⟨fun pins s σ H D I q => h.run pins s σ H D I (m D σ H q)⟩
theorem _root_.L2.PSs.mono {X : Cx} {e : List Stmt} {t t' : TS} (h : PSs X e t) (m : ∀ D σ H, t' D σ H → t D σ H) : PSs X e t' := ⟨fun pins s σ H D I q => h.run pins s σ H D I (m D σ H q)⟩

section
variable {C : Cd} {σ : L2.St} {F H F1 H1 : Hp} {W W' : Hp → Hp → D → V → Prop} {Q Q' : VK} {x : R D}
theorem Out.imp (o : Out C σ F H W x Q) (h : ∀ d v F' H', x = .ok d → Ext F H F' H' → Same F' H' → W' F' H' d v → (∀ v F' H', Ext F H F' H' → Same F' H' → W F' H' d v → Q v H') → Q' v H') : Out C σ F H W' x Q' := by
  cases x with
  | ok d => exact fun v F' H' x s w => h d v F' H' rfl x s w o
  | err c => exact o
  | bad => exact o
/-- the first of two steps -/
theorem Out.fst {k : D → R D} (o : Out C σ F H W (bd x k) Q) (h : ∀ d v F' H', x = .ok d → Out C σ F H W (k d) Q → Ext F H F' H' → Same F' H' → W' F' H' d v → Q' v H') : Out C σ F H W' x Q' := by
  cases x with
  | ok d => exact fun v F' H' x s w => h d v F' H' rfl o x s w
  | err c => exact o
  | bad => exact o
/-- behind some growth -/
theorem Out.later (o : Out C σ F H W x Q) (e : Ext F H F1 H1) : Out C σ F1 H1 W x Q := by
  cases x with
  | ok d => exact fun v F' H' x s w => o v F' H' (e.trans x) s w
  | err c => exact fun F' H' x s => o F' H' (e.trans x) s
  | bad => exact o
theorem New.later {K : PySem.W.Frag} {d : D} {v : V} (e : Same H H1) (n : New K H1 F1 F d v) : New K H F1 F d v := by
  cases h : isC d with
  | true =>
    obtain ⟨a, rfl, n1, nd, o⟩ := n.own h
    exact .mk (fun b hb => ⟨e.free (n1 b hb).1, (n1 b hb).2⟩) nd o
  | false => exact .of_rep h (n.isRep h)
end
section
variable {X : Cx} {C : Cd} {e a b : Expr} {f g : En → R D}
theorem _root_.L2.PE.or {X : Cx} {e : Expr} {t t' : TE} (h : PE X e t) (h' : PE X e t') : PE X e (fun σ H Q => t σ H Q ∨ t' σ H Q) := ⟨fun pins s σ H Q I q => by
  rcases q with q | q
  · exact h.run pins s σ H Q I q
  · exact h'.run pins s σ H Q I q⟩
theorem r_of_e (h : PE X e (tE C f)) : PE X e (tR C f) := h.mono fun σ H Q ⟨ρ, F, r, q⟩ => ⟨ρ, F, r, q.imp fun d v F' H' _ x s w k => k v F' H' x s (w.view s)⟩
theorem r_of_o (h : PE X e (tO C f)) : PE X e (tR C f) := h.mono fun σ H Q ⟨ρ, F, r, q⟩ => ⟨ρ, F, r, q.imp fun d v F' H' _ x s w k => k v F' H' x s (w.view s)⟩
theorem e_of_o (h : PE X e (tO C f)) : PE X e (tE C f) := h.mono fun σ H Q ⟨ρ, F, r, q⟩ => ⟨ρ, F, r, q.imp fun d v F' H' _ x s w k => by
      obtain ⟨F2, x2, s1, s2, p2⟩ := w.rep s x
      exact k v F2 H' x2 s2 p2⟩
/-- what an operator on two values is to keep -/
def Op2 (C : Cd) (r : R2) (w : D → D → R D) : Prop :=
  ∀ σ F H Q d e x y, Out C σ F H (fun F' H' => New C.K H F' H') (w d e) Q → Same F H → View C.K F H d x → View C.K F H e y → r x y H Q
/-- two values in a row -/
theorem two {r : R2} {w : D → D → R D} (hr : Op2 C r w) :
    ∀ σ H Q, tO C (fun ρ => bd (f ρ) fun d => bd (g ρ) fun e => w d e) σ H Q → tR C f σ H fun x H1 => tR C g σ H1 fun y H2 => r x y H2 Q := by
  rintro σ H Q ⟨ρ, F, rl, q⟩
  refine ⟨ρ, F, rl, q.fst fun d v F1 H1 _ q x1 s1 p1 => ?_⟩
  refine ⟨ρ, F1, rl.grow x1 s1, ?_⟩
  refine (q.later x1).fst fun e y F2 H2 _ q x2 s2 p2 => ?_
  refine hr σ F2 H2 Q d e v y ?_ s2 (p1.mono x2.f x2.h) p2
  exact (q.later x2).imp fun d v F' H' _ x s w k => k v F' H' x s (w.later (x1.h.trans x2.h))
/-- an operator on two values -/
theorem d_op {op : Operator} {r : R2} {w : D → D → R D} {pos : Pos} (ho : OpR X (binaryOp op) r) (hr : Op2 C r w) (ha : PE X a (tR C f)) (hb : PE X b (tR C g)) :
    PE X (.BinOp a op b pos) (tO C (fun ρ => bd (f ρ) fun d => bd (g ρ) fun e => w d e)) :=
  (pe_op ho ha hb).mono (two hr)
theorem d_cmp {op : CmpOp} {r : R2} {w : D → D → R D} {pos : Pos} (ho : OpR X (compareOp op) r) (hr : Op2 C r w) (hm : behindInMarks op b = false) (ha : PE X a (tR C f)) (hb : PE X b (tR C g)) :
    PE X (.Compare a [op] [b] pos) (tO C (fun ρ => bd (f ρ) fun d => bd (g ρ) fun e => w d e)) :=
  (pe_cmpR ho ha hb hm).mono (two hr)
end
end DL
/-! the D layer: expressions -/
namespace DL
open PySem PySem.Spec PyProof.Rows L2
def bop (f g : En → R D) (w : D → D → R D) : En → R D := fun ρ => bd (f ρ) fun d => bd (g ρ) fun e => w d e
def uop (f : En → R D) (w : D → R D) : En → R D := fun ρ => bd (f ρ) w
def nop (f : En → R (List D)) (w : List D → R D) : En → R D := fun ρ => bd (f ρ) w
section
variable {X : Cx} {C : Cd} {e a b c : Expr} {f g k : En → R D} {pos : Pos}
/-! ### names, constants -/
def rd (i : Nat) : En → R D := fun ρ => match ρ[i]? with
  | some (some (_, d)) => .ok d
  | _ => .bad
def rdE (i : Nat) : En → R D := fun ρ => match ρ[i]? with
  | some (some (false, d)) => .ok d
  | some (some (true, d)) => if isC d = true then .bad else .ok d
  | _ => .bad
theorem Rel.noC {ρ : En} {σ : L2.St} {F H : Hp} (r : Rel C ρ σ F H) {i : Nat} {d : D} (h : ρ[i]? = some (some (true, d))) : isC d = true := by
  obtain ⟨_, _, _, _, o⟩ := r.own i d h
  exact o.isC
theorem v_R {i : Nat} (h : PE X e (tVar i)) : PE X e (tR C (rd i)) := h.mono fun σ H Q ⟨ρ, F, r, q⟩ => by
  unfold rd at q
  split at q
  · rename_i bb d h
    obtain ⟨v, hv, w⟩ := r.view h
    exact ⟨v, hv, q v F H (Ext.refl _ _) r.sub w⟩
  · exact q.elim
theorem v_E {i : Nat} (h : PE X e (tVar i)) : PE X e (tE C (rdE i)) := h.mono fun σ H Q ⟨ρ, F, r, q⟩ => by
  unfold rdE at q
  split at q
  · rename_i d h
    obtain ⟨v, hv, w⟩ := r.slot i d h
    exact ⟨v, hv, q v F H (Ext.refl _ _) r.sub w⟩
  · rename_i d h
    rw [if_pos (r.noC h)] at q
    exact q.elim
  · exact q.elim
/-- a flat value -/
def flatD : D → Option V
  | .non => some .non
  | .bl b => some (.bl b)
  | .int i => some (.int i)
  | .str x => some (.str x)
  | _ => none
def cst (d : D) : En → R D := fun _ => .ok d
theorem c_of {d : D} {v : V} (h : PE X e (tC v)) (hd : flatD d = some v) : PE X e (tO C (cst d)) := h.mono fun σ H Q ⟨ρ, F, r, q⟩ => by
  refine q v F H (Ext.refl _ _) r.sub ?_
  cases d with
  | non => cases hd; exact .non
  | bl b => cases hd; exact .bl b
  | int b => cases hd; exact .int b
  | str b => cases hd; exact .str b
  | _ => exact nomatch hd
theorem c_int {i : Int} {j : Nat} : PE X (.Constant (.int i) j pos) (tO C (cst (.int i))) := c_of pe_int rfl
theorem c_bl {i : Bool} {j : Nat} : PE X (.Constant (.bool i) j pos) (tO C (cst (.bl i))) := c_of pe_bl rfl
theorem c_non {j : Nat} : PE X (.Constant .none j pos) (tO C (cst .non)) := c_of pe_non rfl
theorem c_str {i : Str} {j : Nat} : PE X (.Constant (.str i) j pos) (tO C (cst (.str i))) := c_of pe_str rfl
/-- a module's constant: a number, a text -/
theorem c_glob {x : Str} {d : D} {v : V} {u : Value} (hm : X.mg x = some u) (r : RelV v u) (hd : flatD d = some v) (hg : Gl X x := by rfl) (hdb : (x == ("__debug__" : Str)) = false := by decide) : PE X (.Name x pos) (tO C (cst d)) := c_of (pe_glob hg hm r hdb) hd

/-! ### argument lists, displays -/
def aNil : En → R (List D) := fun _ => .ok []
def aCons (f : En → R D) (g : En → R (List D)) : En → R (List D) := fun ρ => bd (f ρ) fun d => bd (g ρ) fun ds => .ok (d :: ds)
theorem a_nil : PA X [] (tA C aNil) := pa_nil.mono fun σ H Q ⟨ρ, F, r, q⟩ => q [] F H (Ext.refl _ _) r.sub .nil
theorem OutA.later {σ : L2.St} {F H F1 H1 : Hp} {x : R (List D)} {Q : List V → Hp → Prop} (o : OutA C σ F H x Q) (e : Ext F H F1 H1) : OutA C σ F1 H1 x Q := by
  cases x with
  | ok d => exact fun v F' H' x s w => o v F' H' (e.trans x) s w
  | err c => exact fun F' H' x s => o F' H' (e.trans x) s
  | bad => exact o
theorem a_cons {es : List Expr} {fs : En → R (List D)} (ha : PE X e (tE C f)) (hr : PA X es (tA C fs)) (hs : starEach (e :: es) X.env = (false, eval e X.env) :: starEach es X.env := by rfl) : PA X (e :: es) (tA C (aCons f fs)) :=
  (pa_cons ha hr hs).mono fun σ H Q ⟨ρ, F, r, q⟩ => by
    refine ⟨ρ, F, r, ?_⟩
    unfold aCons at q
    cases hf : f ρ with
    | bad => rw [hf] at q; exact q
    | err c => rw [hf] at q; exact q
    | ok d =>
      rw [hf] at q
      intro v F1 H1 x1 s1 w1
      refine ⟨ρ, F1, r.grow x1 s1, ?_⟩
      have q := OutA.later q x1
      rw [bd_ok] at q
      cases hg : fs ρ with
      | bad => rw [hg] at q; exact q
      | err c => rw [hg] at q; exact q
      | ok ds =>
        rw [hg] at q
        exact fun vs F2 H2 x2 s2 w2 => q (v :: vs) F2 H2 x2 s2 (.cons (w1.mono x2.f) w2)
/-- what a display of items tells -/
theorem out_args {σ : L2.St} {ρ : En} {F H : Hp} {fs : En → R (List D)} {w : List D → R D} {W : Hp → Hp → D → V → Prop} {Q : VK} {Q' : List V → Hp → Prop} (r : Rel C ρ σ F H) (q : Out C σ F H W (bd (fs ρ) w) Q)
    (h : ∀ ds vs F' H', fs ρ = .ok ds → Out C σ F' H' W (w ds) Q → Ext F H F' H' → Same F' H' → Reps C.K F' ds vs → Q' vs H') : tA C fs σ H Q' := by
  refine ⟨ρ, F, r, ?_⟩
  cases hf : fs ρ with
  | bad => rw [hf] at q; exact q
  | err c => rw [hf] at q; exact q
  | ok ds =>
    rw [hf] at q
    exact fun vs F1 H1 x1 s1 w1 => h ds vs F1 H1 hf (Out.later q x1) x1 s1 w1
def small (n : Nat) : Bool := decide (n ≤ sizeLine)
def mkTup (ds : List D) : R D := grd (small ds.length) (.ok (.tup ds))
def mkLst (ds : List D) : R D := grd (small ds.length) (.ok (.lst ds))
theorem grd_out {σ : L2.St} {F H : Hp} {W : Hp → Hp → D → V → Prop} {Q : VK} {c : Bool} {x : R D} (o : Out C σ F H W (grd c x) Q) : c = true ∧ Out C σ F H W x Q := by
  cases c with
  | true => exact ⟨rfl, o⟩
  | false => exact o.elim
theorem Ext.new {F H : Hp} {p : Addr} (s : Same F H) (n : H p = none) (o : HO) : Ext F H (upd F p o) (upd H p o) :=
  ⟨same_upd (s.free n), same_upd n, fun b u h => by
    by_cases hb : b = p
    · subst hb; exact .inr n
    · rw [upd_ne hb] at h; exact .inl h⟩
theorem Ext.newH {F H : Hp} {p : Addr} (n : H p = none) (o : HO) : Ext F H F (upd H p o) := Ext.heap (same_upd n)
/-- a new tuple -/
theorem fin_tup {σ : L2.St} {F H : Hp} {K' : Hp} {ds : List D} {vs : List V} {Q : VK} {p : Addr} (q : Out C σ F H (fun F' H' => New C.K K' F' H') (.ok (.tup ds)) Q) (s : Same F H) (r : Reps C.K F ds vs) (n : H p = none) : Q (.ref p) (upd H p (.tup vs)) :=
  q (.ref p) (upd F p (.tup vs)) _ (Ext.new s n _) (same_settle (same_upd2 s (s.free n)) upd_same) (.tup upd_same (r.mono (same_upd (s.free n))))
/-- a new list -/
theorem fin_lst {σ : L2.St} {F H : Hp} {K' : Hp} {ds : List D} {vs : List V} {Q : VK} {p : Addr} (q : Out C σ F H (fun F' H' => New C.K K' F' H') (.ok (.lst ds)) Q) (s : Same F H) (k : Same K' H) (r : Reps C.K F ds vs) (n : H p = none) : Q (.ref p) (upd H p (.lst vs)) :=
  q (.ref p) F _ (Ext.newH n _) (same_upd2 s (s.free n)) ⟨p, rfl, k.free n, s.free n, vs, upd_same, r⟩
theorem fin_dK {σ : L2.St} {F H : Hp} {K' : Hp} {ds : List (Key × D)} {vs : List (Key × V)} {Q : VK} {p : Addr} (q : Out C σ F H (fun F' H' => New C.K K' F' H') (.ok (.dK ds)) Q) (s : Same F H) (k : Same K' H) (r : RepK C.K F ds vs) (n : H p = none) : Q (.ref p) (upd H p (.dK vs)) :=
  q (.ref p) F _ (Ext.newH n _) (same_upd2 s (s.free n)) ⟨p, rfl, k.free n, s.free n, vs, upd_same, r⟩
theorem fin_dT {σ : L2.St} {F H : Hp} {K' : Hp} {ds : List (List Key × D)} {vs : List (List Key × V)} {Q : VK} {p : Addr} (q : Out C σ F H (fun F' H' => New C.K K' F' H') (.ok (.dT ds)) Q) (s : Same F H) (k : Same K' H) (r : RepT C.K F ds vs) (n : H p = none) : Q (.ref p) (upd H p (.dT vs)) :=
  q (.ref p) F _ (Ext.newH n _) (same_upd2 s (s.free n)) ⟨p, rfl, k.free n, s.free n, vs, upd_same, r⟩
/-- a flat value -/
theorem fin_flat {σ : L2.St} {F H : Hp} {K' : Hp} {d : D} {v : V} {Q : VK} (q : Out C σ F H (fun F' H' => New C.K K' F' H') (.ok d) Q) (s : Same F H) (hd : flatD d = some v) : Q v H := by
  refine q v F H (Ext.refl _ _) s ?_
  cases d with
  | non => cases hd; exact .non
  | bl b => cases hd; exact .bl b
  | int b => cases hd; exact .int b
  | str b => cases hd; exact .str b
  | _ => exact nomatch hd
/-- a settled value -/
theorem fin_rep {σ : L2.St} {F H : Hp} {W : Hp → Hp → D → V → Prop} {d : D} {v : V} {Q : VK} (q : Out C σ F H W (.ok d) Q) (s : Same F H) (r : W F H d v) : Q v H := q v F H (Ext.refl _ _) s r
theorem d_tup {es : List Expr} {fs : En → R (List D)} {x1 : Nat} (ha : PA X es (tA C fs)) : PE X (.Tuple es x1 pos) (tO C (nop fs mkTup)) :=
  (pe_tup ha).mono fun σ H Q ⟨ρ, F, r, q⟩ => by
    refine out_args r q fun ds vs F' H' hd q x s rp => ?_
    obtain ⟨z, q⟩ := grd_out q
    exact ⟨by rw [rp.length]; exact of_decide_eq_true z, fun p hp => fin_tup q s rp hp⟩
theorem d_lst {es : List Expr} {fs : En → R (List D)} (ha : PA X es (tA C fs)) : PE X (.List es pos) (tO C (nop fs mkLst)) :=
  (pe_lst ha).mono fun σ H Q ⟨ρ, F, r, q⟩ => by
    refine out_args r q fun ds vs F' H' hd q x s rp => ?_
    obtain ⟨z, q⟩ := grd_out q
    exact ⟨by rw [rp.length]; exact of_decide_eq_true z, fun p hp => fin_lst q s x.h rp hp⟩

/-! ### operators -/
theorem OpR.or {f : Value → Value → Sem Value} {r r' : R2} (h : OpR X f r) (h' : OpR X f r') : OpR X f (fun x y H Q => r x y H Q ∨ r' x y H Q) := by
  intro pins s σ H x y v u Q I rx ry q
  rcases q with q | q
  · exact h pins s σ H x y v u Q I rx ry q
  · exact h' pins s σ H x y v u Q I rx ry q
def dAdd : D → D → R D
  | .int i, .int j => .ok (.int (i + j))
  | .str x, .str y => grd (small (x.length + y.length)) (.ok (.str (x ++ y)))
  | .lst xs, .lst ys => grd (small (xs.length + ys.length)) (.ok (.lst (xs ++ ys)))
  | .tup xs, .tup ys => grd (small (xs.length + ys.length) && !xs.isEmpty && !ys.isEmpty) (.ok (.tup (xs ++ ys)))
  | _, _ => .bad
theorem rAdd_ok : Op2 C (fun x y H Q => rI0 (fun i j => .int (i + j)) x y H Q ∨ (∃ i j, x = .str i ∧ y = .str j ∧ i.length + j.length ≤ sizeLine ∧ Q (.str (i ++ j)) H) ∨ rCat x y H Q ∨ rCatT C.K x y H Q) dAdd := by
  intro σ F H Q d e x y o s w1 w2
  unfold dAdd at o
  split at o
  · cases w1; cases w2
    exact .inl ⟨_, _, rfl, rfl, fin_flat o s rfl⟩
  · cases w1; cases w2
    obtain ⟨z, o⟩ := grd_out o
    exact .inr (.inl ⟨_, _, rfl, rfl, of_decide_eq_true z, fin_flat o s rfl⟩)
  · obtain ⟨z, o⟩ := grd_out o
    obtain ⟨a, vs, rfl, h1, r1⟩ := w1
    obtain ⟨a', vs', rfl, h2, r2⟩ := w2
    exact .inr (.inr (.inl ⟨a, a', vs, vs', rfl, rfl, h1, h2, by rw [r1.length, r2.length]; exact of_decide_eq_true z, fun p hp => fin_lst o s (Same.refl _) (r1.append r2) hp⟩))
  · obtain ⟨z, o⟩ := grd_out o
    obtain ⟨a, vs, rfl, h1, r1⟩ := w1
    obtain ⟨a', vs', rfl, h2, r2⟩ := w2
    rename_i xs ys
    simp only [Bool.and_eq_true, Bool.not_eq_true', List.isEmpty_eq_false_iff] at z
    obtain ⟨⟨z1, z2⟩, z3⟩ := z
    have e1 := r1.length
    have e2 := r2.length
    refine .inr (.inr (.inr ⟨a, a', vs, vs', rfl, rfl, SqT.of h1, SqT.of h2, ?_, by rw [r1.length, r2.length]; exact of_decide_eq_true z1, fun h => ?_, fun _ p hp => fin_tup o s (r1.append r2) hp⟩))
    · rintro rfl
      exact z2 (List.eq_nil_of_length_eq_zero e1.symm)
    · subst h
      exact absurd (List.eq_nil_of_length_eq_zero e2.symm) z3
  · exact o.elim
theorem d_add (hC : X.K = C.K) (ha : PE X a (tR C f)) (hb : PE X b (tR C g)) : PE X (.BinOp a .Add b pos) (tO C (bop f g dAdd)) :=
  d_op (OpR.or op_add (OpR.or op_add_str (OpR.or op_cat (hC ▸ op_catT)))) rAdd_ok ha hb
def dSub : D → D → R D
  | .int i, .int j => .ok (.int (i - j))
  | _, _ => .bad
def dMod : D → D → R D
  | .int i, .int j => grd (decide (0 < j)) (.ok (.int (i % j)))
  | _, _ => .bad
def dDiv : D → D → R D
  | .int i, .int j => grd (decide (0 < j) && decide (j.natAbs.log2 < 9000)) (.ok (.int (i / j)))
  | _, _ => .bad
def dPow : D → D → R D
  | .int i, .int j => grd (decide (0 ≤ j) && decide (j ≤ 1000000) && decide (i.natAbs < 2 ^ 64)) (.ok (.int (i ^ j.toNat)))
  | _, _ => .bad
def dShr : D → D → R D
  | .int i, .int j => grd (decide (0 ≤ j)) (.ok (.int (i / 2 ^ j.toNat)))
  | _, _ => .bad
def dMul : D → D → R D
  | .int i, .int j => grd (decide (i.natAbs.log2 + j.natAbs.log2 < 1000000) || decide (i.natAbs < 2 ^ 64) || decide (j.natAbs < 2 ^ 64)) (.ok (.int (i * j)))
  | .lst xs, .int k => grd (decide (-(2 ^ 63) ≤ k) && decide (k < 2 ^ 63) && small (xs.length * k.toNat)) (.ok (.lst (List.replicate k.toNat xs).flatten))
  | _, _ => .bad
theorem d_sub (ha : PE X a (tR C f)) (hb : PE X b (tR C g)) : PE X (.BinOp a .Sub b pos) (tO C (bop f g dSub)) :=
  d_op op_sub (by
    intro σ F H Q d e x y o s w1 w2
    unfold dSub at o
    split at o
    · cases w1; cases w2; exact ⟨_, _, rfl, rfl, fin_flat o s rfl⟩
    · exact o.elim) ha hb
theorem d_mod (ha : PE X a (tR C f)) (hb : PE X b (tR C g)) : PE X (.BinOp a .Mod b pos) (tO C (bop f g dMod)) :=
  d_op op_mod (by
    intro σ F H Q d e x y o s w1 w2
    unfold dMod at o
    split at o
    · cases w1; cases w2
      obtain ⟨z, o⟩ := grd_out o
      exact ⟨_, _, rfl, rfl, of_decide_eq_true z, fin_flat o s rfl⟩
    · exact o.elim) ha hb
theorem d_div (ha : PE X a (tR C f)) (hb : PE X b (tR C g)) : PE X (.BinOp a .FloorDiv b pos) (tO C (bop f g dDiv)) :=
  d_op op_fdivW (by
    intro σ F H Q d e x y o s w1 w2
    unfold dDiv at o
    split at o
    · cases w1; cases w2
      obtain ⟨z, o⟩ := grd_out o
      rw [Bool.and_eq_true] at z
      exact ⟨_, _, rfl, rfl, ⟨of_decide_eq_true z.1, of_decide_eq_true z.2⟩, fin_flat o s rfl⟩
    · exact o.elim) ha hb
theorem d_pow (ha : PE X a (tR C f)) (hb : PE X b (tR C g)) : PE X (.BinOp a .Pow b pos) (tO C (bop f g dPow)) :=
  d_op op_pow (by
    intro σ F H Q d e x y o s w1 w2
    unfold dPow at o
    split at o
    · cases w1; cases w2
      obtain ⟨z, o⟩ := grd_out o
      rw [Bool.and_eq_true, Bool.and_eq_true] at z
      exact ⟨_, _, rfl, rfl, ⟨of_decide_eq_true z.1.1, of_decide_eq_true z.1.2, of_decide_eq_true z.2⟩, fin_flat o s rfl⟩
    · exact o.elim) ha hb
theorem d_shr (ha : PE X a (tR C f)) (hb : PE X b (tR C g)) : PE X (.BinOp a .RShift b pos) (tO C (bop f g dShr)) :=
  d_op op_shr (by
    intro σ F H Q d e x y o s w1 w2
    unfold dShr at o
    split at o
    · cases w1; cases w2
      obtain ⟨z, o⟩ := grd_out o
      exact ⟨_, _, rfl, rfl, of_decide_eq_true z, fin_flat o s rfl⟩
    · exact o.elim) ha hb
theorem Reps.flat {K : PySem.W.Frag} {F : Hp} {ds : List D} {vs : List V} (r : Reps K F ds vs) : ∀ n : Nat, Reps K F (List.replicate n ds).flatten (List.replicate n vs).flatten
  | 0 => .nil
  | n + 1 => by
    rw [List.replicate_succ, List.replicate_succ, List.flatten_cons, List.flatten_cons]
    exact r.append (Reps.flat r n)
theorem d_mul (ha : PE X a (tR C f)) (hb : PE X b (tR C g)) : PE X (.BinOp a .Mult b pos) (tO C (bop f g dMul)) :=
  d_op (OpR.or op_mulW (OpR.or op_mul op_rep)) (by
    intro σ F H Q d e x y o s w1 w2
    unfold dMul at o
    split at o
    · cases w1; cases w2
      obtain ⟨z, o⟩ := grd_out o
      rw [Bool.or_eq_true, Bool.or_eq_true] at z
      rcases z with (z | z) | z
      · exact .inl ⟨_, _, rfl, rfl, show _ < _ from of_decide_eq_true z, fin_flat o s rfl⟩
      · have z := of_decide_eq_true z
        exact .inr (.inl ⟨_, _, rfl, rfl, .inl ⟨by omega, by omega⟩, fin_flat o s rfl⟩)
      · have z := of_decide_eq_true z
        exact .inr (.inl ⟨_, _, rfl, rfl, .inr ⟨by omega, by omega⟩, fin_flat o s rfl⟩)
    · obtain ⟨z, o⟩ := grd_out o
      obtain ⟨a, vs, rfl, h1, r1⟩ := w1
      cases w2
      rw [Bool.and_eq_true, Bool.and_eq_true] at z
      exact .inr (.inr ⟨_, _, vs, rfl, rfl, h1, of_decide_eq_true z.1.1, of_decide_eq_true z.1.2, by rw [r1.length]; exact of_decide_eq_true z.2, fun p hp => fin_lst o s (Same.refl _) (r1.flat _) hp⟩)
    · exact o.elim) ha hb
def dNeg : D → R D
  | .int i => .ok (.int (-i))
  | _ => .bad
/-- what an operator on one value is to keep -/
def Op1 (C : Cd) (r : V → Hp → VK → Prop) (w : D → R D) : Prop :=
  ∀ σ F H Q d x, Out C σ F H (fun F' H' => New C.K H F' H') (w d) Q → Same F H → View C.K F H d x → r x H Q
theorem one {r : V → Hp → VK → Prop} {w : D → R D} (hr : Op1 C r w) : ∀ σ H Q, tO C (fun ρ => bd (f ρ) w) σ H Q → tR C f σ H fun x H1 => r x H1 Q := by
  rintro σ H Q ⟨ρ, F, rl, q⟩
  refine ⟨ρ, F, rl, q.fst fun d v F1 H1 _ q x1 s1 p1 => ?_⟩
  exact hr σ F1 H1 Q d v ((q.later x1).imp fun d v F' H' _ x s w k => k v F' H' x s (w.later x1.h)) s1 p1
theorem d_neg (ha : PE X a (tR C f)) : PE X (.UnaryOp .USub a pos) (tO C (uop f dNeg)) :=
  (pe_un un_neg ha).mono (one (by
    intro σ F H Q d x o s w
    cases d with
    | int i => cases w; exact ⟨i, rfl, fin_flat o s rfl⟩
    | _ => exact o.elim))

/-! ### comparisons -/
mutual
def py : D → Option PyData
  | .non => some .none
  | .bl b => some (.bool b)
  | .int i => some (.int i)
  | .str x => some (.str x)
  | .lst ds => (pys ds).map .list
  | .tup ds => (pys ds).map .tuple
  | .scr ns => some (.list (ns.map .int))
  | .dK _ => none
  | .dT _ => none
  | .ref _ => none
  | .exn _ => none
  | .deep _ => none
  | .junk _ => none
  | .rows ds => (pys ds).map .list
def pys : List D → Option (List PyData)
  | [] => some []
  | d :: ds => (py d).bind fun p => (pys ds).map fun ps => p :: ps
end
theorem dp_ints {K : PySem.W.Frag} {H : Hp} : ∀ ns : List Int, DpAll K H (ns.map V.int) (ns.map PyData.int)
  | [] => .nil
  | n :: ns => .cons (.int n) (dp_ints ns)
mutual
theorem Rep.dp {K : PySem.W.Frag} {F H : Hp} (s : Same F H) : ∀ {d : D} {v : V} {p : PyData}, Rep K F d v → py d = some p → Dp K H v p
  | _, _, _, .non, e => by cases e; exact .non
  | _, _, _, .bl b, e => by cases e; exact .bl b
  | _, _, _, .int b, e => by cases e; exact .int b
  | _, _, _, .str b, e => by cases e; exact .str b
  | _, _, _, .lst (ds := ds) q r, e => by
    unfold py at e
    cases h : pys ds with
    | none => rw [h] at e; cases e
    | some ps => rw [h] at e; cases e; exact .lst (.inl (.inl (s _ _ q))) (Reps.dp s r h)
  | _, _, _, .tup (ds := ds) q r, e => by
    unfold py at e
    cases h : pys ds with
    | none => rw [h] at e; cases e
    | some ps => rw [h] at e; cases e; exact .tup (SqT.of (s _ _ q)) (Reps.dp s r h)
  | _, _, _, .scr (ns := ns) q, e => by cases e; exact .lst (s.seq q) (dp_ints ns)
  | _, _, _, .dK _ _, e => nomatch e
  | _, _, _, .dT _ _, e => nomatch e
  | _, _, _, .ref _, e => nomatch e
  | _, _, _, .deep _ _, e => nomatch e
  | _, _, _, .rows (ds := ds) q r, e => by
    unfold py at e
    cases h : pys ds with
    | none => rw [h] at e; cases e
    | some ps => rw [h] at e; cases e; exact .lst (.inl (.inl (s _ _ q))) (Reps.dp s r h)
theorem Reps.dp {K : PySem.W.Frag} {F H : Hp} (s : Same F H) : ∀ {ds : List D} {vs : List V} {ps : List PyData}, Reps K F ds vs → pys ds = some ps → DpAll K H vs ps
  | _, _, _, .nil, e => by cases e; exact .nil
  | _, _, _, .cons (d := d) (ds := ds) r t, e => by
    unfold pys at e
    cases h : py d with
    | none => rw [h] at e; cases e
    | some p =>
      rw [h] at e
      cases h2 : pys ds with
      | none => rw [h2] at e; cases e
      | some ps => rw [h2] at e; cases e; exact .cons (Rep.dp s r h) (Reps.dp s t h2)
end
theorem RowsAt.dp {K : PySem.W.Frag} {F H : Hp} (s : Same F H) : ∀ {rs : List D} {vs : List V} {ps : List PyData}, RowsAt K F H rs vs → pys rs = some ps → DpAll K H vs ps
  | _, _, _, .nil, e => by cases e; exact .nil
  | _, _, _, .cons (xs := xs) (rs := rs) q r t, e => by
    unfold pys at e
    cases h : py (.lst xs) with
    | none => rw [h] at e; cases e
    | some p =>
      rw [h] at e
      cases h2 : pys rs with
      | none => rw [h2] at e; cases e
      | some ps =>
        rw [h2] at e; cases e
        refine .cons ?_ (RowsAt.dp s t h2)
        unfold py at h
        cases h3 : pys xs with
        | none => rw [h3] at h; cases h
        | some qs => rw [h3] at h; cases h; exact .lst (.inl (.inl q)) (Reps.dp s r h3)
theorem View.dp {K : PySem.W.Frag} {F H : Hp} (s : Same F H) {d : D} {v : V} {p : PyData} (w : View K F H d v) (e : py d = some p) : Dp K H v p := by
  cases d with
  | non => cases w; cases e; exact .non
  | bl b => cases w; cases e; exact .bl b
  | int b => cases w; cases e; exact .int b
  | str b => cases w; cases e; exact .str b
  | lst ds =>
    obtain ⟨a, vs, rfl, q, r⟩ := w
    unfold py at e
    cases h : pys ds with
    | none => rw [h] at e; cases e
    | some ps => rw [h] at e; cases e; exact .lst (.inl (.inl q)) (Reps.dp s r h)
  | tup ds =>
    obtain ⟨a, vs, rfl, q, r⟩ := w
    unfold py at e
    cases h : pys ds with
    | none => rw [h] at e; cases e
    | some ps => rw [h] at e; cases e; exact .tup (SqT.of q) (Reps.dp s r h)
  | scr ns => obtain ⟨a, rfl, q⟩ := w; cases e; exact .lst q (dp_ints ns)
  | rows ds =>
    obtain ⟨a, vs, rfl, q, r⟩ := w
    unfold py at e
    cases h : pys ds with
    | none => rw [h] at e; cases e
    | some ps =>
      rw [h] at e; cases e
      rcases r with r | r
      · exact .lst (.inl (.inl q)) (Reps.dp s r h)
      · exact .lst (.inl (.inl q)) (RowsAt.dp s r h)
  | _ => exact nomatch e
def deepEq (neg : Bool) (a b : D) : R D := match py a, py b with
  | some p, some q => grd (SeqAt.shaped p && SeqAt.shaped q) (.ok (.bl (if neg then !PyData.eqv p q else PyData.eqv p q)))
  | _, _ => .bad
def xorB (neg b : Bool) : Bool := if neg then !b else b
@[simp] theorem xorB_f (b : Bool) : xorB false b = b := rfl
@[simp] theorem xorB_t (b : Bool) : xorB true b = !b := rfl
/-- == and != -/
def dEq (neg : Bool) : D → D → R D
  | .int i, .int j => .ok (.bl (xorB neg (decide (i = j))))
  | .str i, .str j => .ok (.bl (xorB neg (decide (i = j))))
  | .bl i, .bl j => .ok (.bl (xorB neg (decide (i = j))))
  | .int _, .str _ => .ok (.bl (xorB neg false))
  | .str _, .int _ => .ok (.bl (xorB neg false))
  | .non, .int _ => .ok (.bl (xorB neg false))
  | .int _, .non => .ok (.bl (xorB neg false))
  | .non, .str _ => .ok (.bl (xorB neg false))
  | .str _, .non => .ok (.bl (xorB neg false))
  | a, b => deepEq neg a b
theorem rEq_ok : Op2 C (fun x y H Q => rEq x y H Q ∨ rEqD C.K x y H Q) (dEq false) := by
  intro σ F H Q d e x y o s w1 w2
  unfold dEq at o
  split at o
  · cases w1; cases w2; exact .inl ⟨rfl, by have := fin_flat o s rfl; simpa using this⟩
  · cases w1; cases w2; exact .inl ⟨rfl, by have := fin_flat o s rfl; simpa using this⟩
  · cases w1; cases w2; exact .inl ⟨rfl, by have := fin_flat o s rfl; simpa using this⟩
  · cases w1; cases w2; exact .inl ⟨rfl, by have := fin_flat o s rfl; simpa using this⟩
  · cases w1; cases w2; exact .inl ⟨rfl, by have := fin_flat o s rfl; simpa using this⟩
  · cases w1; cases w2; exact .inl ⟨rfl, by have := fin_flat o s rfl; simpa using this⟩
  · cases w1; cases w2; exact .inl ⟨rfl, by have := fin_flat o s rfl; simpa using this⟩
  · cases w1; cases w2; exact .inl ⟨rfl, by have := fin_flat o s rfl; simpa using this⟩
  · cases w1; cases w2; exact .inl ⟨rfl, by have := fin_flat o s rfl; simpa using this⟩
  · unfold deepEq at o
    split at o
    · rename_i p q hp hq
      obtain ⟨z, o⟩ := grd_out o
      rw [Bool.and_eq_true] at z
      exact .inr ⟨p, q, w1.dp s hp, w2.dp s hq, z.1, z.2, fin_flat o s rfl⟩
    · exact o.elim
theorem rNe_ok : Op2 C (fun x y H Q => rNe x y H Q ∨ rNeD C.K x y H Q) (dEq true) := by
  intro σ F H Q d e x y o s w1 w2
  unfold dEq at o
  split at o
  · cases w1; cases w2; exact .inl ⟨rfl, by have := fin_flat o s rfl; simpa using this⟩
  · cases w1; cases w2; exact .inl ⟨rfl, by have := fin_flat o s rfl; simpa using this⟩
  · cases w1; cases w2; exact .inl ⟨rfl, by have := fin_flat o s rfl; simpa using this⟩
  · cases w1; cases w2; exact .inl ⟨rfl, by have := fin_flat o s rfl; simpa using this⟩
  · cases w1; cases w2; exact .inl ⟨rfl, by have := fin_flat o s rfl; simpa using this⟩
  · cases w1; cases w2; exact .inl ⟨rfl, by have := fin_flat o s rfl; simpa using this⟩
  · cases w1; cases w2; exact .inl ⟨rfl, by have := fin_flat o s rfl; simpa using this⟩
  · cases w1; cases w2; exact .inl ⟨rfl, by have := fin_flat o s rfl; simpa using this⟩
  · cases w1; cases w2; exact .inl ⟨rfl, by have := fin_flat o s rfl; simpa using this⟩
  · unfold deepEq at o
    split at o
    · rename_i p q hp hq
      obtain ⟨z, o⟩ := grd_out o
      rw [Bool.and_eq_true] at z
      exact .inr ⟨p, q, w1.dp s hp, w2.dp s hq, z.1, z.2, fin_flat o s rfl⟩
    · exact o.elim
/-- the order of numbers, of texts -/
def dLt : D → D → R D
  | .int i, .int j => .ok (.bl (decide (i < j)))
  | .str i, .str j => .ok (.bl (decide (i.cps.toList < j.cps.toList)))
  | _, _ => .bad
def dLe : D → D → R D
  | .int i, .int j => .ok (.bl (decide (i ≤ j)))
  | .str i, .str j => .ok (.bl (!decide (j.cps.toList < i.cps.toList)))
  | _, _ => .bad
def dGt : D → D → R D
  | .int i, .int j => .ok (.bl (decide (j < i)))
  | .str i, .str j => .ok (.bl (decide (j.cps.toList < i.cps.toList)))
  | _, _ => .bad
def dGe : D → D → R D
  | .int i, .int j => .ok (.bl (decide (j ≤ i)))
  | .str i, .str j => .ok (.bl (!decide (i.cps.toList < j.cps.toList)))
  | _, _ => .bad
theorem rLt_ok : Op2 C (fun x y H Q => rI0 (fun i j => .bl (decide (i < j))) x y H Q ∨ (∃ i j, x = .str i ∧ y = .str j ∧ Q (.bl (decide (i.cps.toList < j.cps.toList))) H)) dLt := by
  intro σ F H Q d e x y o s w1 w2
  unfold dLt at o
  split at o
  · cases w1; cases w2; exact .inl ⟨_, _, rfl, rfl, fin_flat o s rfl⟩
  · cases w1; cases w2; exact .inr ⟨_, _, rfl, rfl, fin_flat o s rfl⟩
  · exact o.elim
theorem rLe_ok : Op2 C (fun x y H Q => rI0 (fun i j => .bl (decide (i ≤ j))) x y H Q ∨ (∃ i j, x = .str i ∧ y = .str j ∧ Q (.bl (!decide (j.cps.toList < i.cps.toList))) H)) dLe := by
  intro σ F H Q d e x y o s w1 w2
  unfold dLe at o
  split at o
  · cases w1; cases w2; exact .inl ⟨_, _, rfl, rfl, fin_flat o s rfl⟩
  · cases w1; cases w2; exact .inr ⟨_, _, rfl, rfl, fin_flat o s rfl⟩
  · exact o.elim
theorem rGt_ok : Op2 C (fun x y H Q => rI0 (fun i j => .bl (decide (j < i))) x y H Q ∨ (∃ i j, x = .str i ∧ y = .str j ∧ Q (.bl (decide (j.cps.toList < i.cps.toList))) H)) dGt := by
  intro σ F H Q d e x y o s w1 w2
  unfold dGt at o
  split at o
  · cases w1; cases w2; exact .inl ⟨_, _, rfl, rfl, fin_flat o s rfl⟩
  · cases w1; cases w2; exact .inr ⟨_, _, rfl, rfl, fin_flat o s rfl⟩
  · exact o.elim
theorem rGe_ok : Op2 C (fun x y H Q => rI0 (fun i j => .bl (decide (j ≤ i))) x y H Q ∨ (∃ i j, x = .str i ∧ y = .str j ∧ Q (.bl (!decide (i.cps.toList < j.cps.toList))) H)) dGe := by
  intro σ F H Q d e x y o s w1 w2
  unfold dGe at o
  split at o
  · cases w1; cases w2; exact .inl ⟨_, _, rfl, rfl, fin_flat o s rfl⟩
  · cases w1; cases w2; exact .inr ⟨_, _, rfl, rfl, fin_flat o s rfl⟩
  · exact o.elim
/-- is None, is not None -/
def isN : D → Bool
  | .non => true
  | _ => false
def dIsN (neg : Bool) : D → D → R D
  | d, .non => .ok (.bl (xorB neg (isN d)))
  | .bl a, .bl b => .ok (.bl (xorB neg (decide (a = b))))
  | _, _ => .bad
theorem View.non {K : PySem.W.Frag} {F H : Hp} {d : D} {v : V} (w : View K F H d v) : decide (v = .non) = isN d := by
  cases d with
  | non => cases w; rfl
  | bl b => cases w; rfl
  | int b => cases w; rfl
  | str b => cases w; rfl
  | ref b => cases w; rfl
  | exn c => obtain ⟨a, C, rfl, _⟩ := w; rfl
  | deep d => obtain ⟨a, rfl⟩ := w; rfl
  | junk n => exact w.elim
  | lst ds => obtain ⟨a, vs, rfl, _⟩ := w; rfl
  | tup ds => obtain ⟨a, vs, rfl, _⟩ := w; rfl
  | dK ds => obtain ⟨a, vs, rfl, _⟩ := w; rfl
  | dT ds => obtain ⟨a, vs, rfl, _⟩ := w; rfl
  | scr ds => obtain ⟨a, rfl, _⟩ := w; rfl
  | rows ds => obtain ⟨a, vs, rfl, _⟩ := w; rfl
theorem rIsN_ok : Op2 C (fun x y H Q => (y = .non ∧ Q (.bl (decide (x = .non))) H) ∨ rIsB x y H Q) (dIsN false) := by
  intro σ F H Q d e x y o s w1 w2
  unfold dIsN at o
  split at o
  · cases w2
    refine .inl ⟨rfl, ?_⟩
    rw [w1.non]
    exact fin_flat o s rfl
  · cases w1; cases w2
    exact .inr ⟨_, _, rfl, rfl, fin_flat o s rfl⟩
  · exact o.elim
theorem rNotN_ok : Op2 C (fun x y H Q => (y = .non ∧ Q (.bl (!decide (x = .non))) H) ∨ rNotB x y H Q) (dIsN true) := by
  intro σ F H Q d e x y o s w1 w2
  unfold dIsN at o
  split at o
  · cases w2
    refine .inl ⟨rfl, ?_⟩
    rw [w1.non]
    exact fin_flat o s rfl
  · cases w1; cases w2
    exact .inr ⟨_, _, rfl, rfl, fin_flat o s rfl⟩
  · exact o.elim
/-- a test's answer -/
def asB : D → R Bool
  | .bl b => .ok b
  | _ => .bad
theorem t_to_o {σ : L2.St} {H : Hp} {Q : Bool → Hp → Prop} (h : tT C (fun ρ => bd (f ρ) asB) σ H Q) : tO C f σ H (fun x H' => ∃ k, x = .bl k ∧ Q k H') := by
  obtain ⟨ρ, F, r, q⟩ := h
  refine ⟨ρ, F, r, ?_⟩
  cases hf : f ρ with
  | bad => simp only [hf, bd_bad] at q; exact q
  | err c => simp only [hf, bd_err] at q; exact q
  | ok d =>
    simp only [hf, bd_ok] at q
    intro v F' H' x s w
    unfold asB at q
    split at q
    · cases w
      exact ⟨_, rfl, q F' H' x s⟩
    · exact q.elim
theorem dt_cmp {op : CmpOp} {r : R2} {w : D → D → R D} (ho : OpR X (compareOp op) r) (hr : Op2 C r w) (hm : behindInMarks op b = false) (ha : PE X a (tR C f)) (hb : PE X b (tR C g)) :
    PT X (.Compare a [op] [b] pos) (tT C (fun ρ => bd (bd (f ρ) fun d => bd (g ρ) fun e => w d e) asB)) :=
  (pt_cmpR ho ha hb hm).mono fun σ H Q h => two hr σ H _ (t_to_o h)
theorem dt_truth (ha : PE X a (tO C f)) (he : ∀ whole, isTrue a X.env whole = (do let v ← whole; standAt a.pos; holding [v] (truthy v)) := by intro _; rfl) : PT X a (tT C (fun ρ => bd (f ρ) asB)) :=
  (pt_val ha he).mono fun σ H Q h => t_to_o h
end
end DL
/-! the D layer: tests, subscripts, calls of built-ins -/
namespace DL
open PySem PySem.Spec PyProof.Rows L2
section
variable {X : Cx} {C : Cd} {e a b c : Expr} {f g k : En → R D} {pos : Pos} {ft gt : En → R Bool}
/-! ### tests -/
theorem OutT.later {σ : L2.St} {F H F1 H1 : Hp} {x : R Bool} {Q : Bool → Hp → Prop} (o : OutT C σ F H x Q) (e : Ext F H F1 H1) : OutT C σ F1 H1 x Q := by
  cases x with
  | ok d => exact fun F' H' x s => o F' H' (e.trans x) s
  | err c => exact fun F' H' x s => o F' H' (e.trans x) s
  | bad => exact o
theorem OutT.fst {α : Type} {σ : L2.St} {F H : Hp} {x : R Bool} {kk : Bool → R Bool} {Q Q' : Bool → Hp → Prop} (o : OutT C σ F H (bd x kk) Q) (h : ∀ d F' H', x = .ok d → OutT C σ F' H' (kk d) Q → Ext F H F' H' → Same F' H' → Q' d H') : OutT C σ F H x Q' := by
  cases x with
  | ok d => exact fun F' H' x s => h d F' H' rfl (OutT.later o x) x s
  | err c => exact o
  | bad => exact o
def bAnd (f g : En → R Bool) : En → R Bool := fun ρ => bd (f ρ) fun c => if c = true then g ρ else .ok false
def bOr (f g : En → R Bool) : En → R Bool := fun ρ => bd (f ρ) fun c => if c = true then .ok true else g ρ
def bNot (f : En → R Bool) : En → R Bool := fun ρ => bd (f ρ) fun c => .ok (!c)
theorem t_not (h : PT X a (tT C ft)) : PT X (.UnaryOp .Not a pos) (tT C (bNot ft)) := (pt_not h).mono fun σ H Q ⟨ρ, F, r, q⟩ =>
  ⟨ρ, F, r, OutT.fst (α := Unit) q fun d F' H' _ o x s => o F' H' (Ext.refl _ _) s⟩
theorem w_and1 (h : PT X a (tT C ft)) : PW X (.BoolOp .And [a] pos) (tT C ft) := pw_and1 h
theorem w_or1 (h : PT X a (tT C ft)) : PW X (.BoolOp .Or [a] pos) (tT C ft) := pw_or1 h
theorem w_and {rest : List Expr} (ha : PT X a (tT C ft)) (hb : PW X (.BoolOp .And (b :: rest) pos) (tT C gt)) : PW X (.BoolOp .And (a :: b :: rest) pos) (tT C (bAnd ft gt)) :=
  (pw_and ha hb).mono fun σ H Q ⟨ρ, F, r, q⟩ => ⟨ρ, F, r, OutT.fst (α := Unit) q fun d F' H' _ o x s => by
    cases d with
    | true => rw [if_pos rfl]; exact ⟨ρ, F', r.grow x s, o⟩
    | false => rw [if_neg Bool.false_ne_true]; exact o F' H' (Ext.refl _ _) s⟩
theorem w_or {rest : List Expr} (ha : PT X a (tT C ft)) (hb : PW X (.BoolOp .Or (b :: rest) pos) (tT C gt)) : PW X (.BoolOp .Or (a :: b :: rest) pos) (tT C (bOr ft gt)) :=
  (pw_or ha hb).mono fun σ H Q ⟨ρ, F, r, q⟩ => ⟨ρ, F, r, OutT.fst (α := Unit) q fun d F' H' _ o x s => by
    cases d with
    | true => rw [if_pos rfl]; exact o F' H' (Ext.refl _ _) s
    | false => rw [if_neg Bool.false_ne_true]; exact ⟨ρ, F', r.grow x s, o⟩⟩
theorem t_w (h : PW X a (tT C ft)) : PT X a (tT C ft) := h.pt
/-! .. as values -/
def eAnd (f g : En → R D) : En → R D := fun ρ => bd (f ρ) fun c => match c with | .bl true => g ρ | .bl false => .ok (.bl false) | _ => .bad
def eOr (f g : En → R D) : En → R D := fun ρ => bd (f ρ) fun c => match c with | .bl true => .ok (.bl true) | .bl false => g ρ | _ => .bad
def eNot : D → R D
  | .bl b => .ok (.bl (!b))
  | _ => .bad
theorem Out.newer {σ : L2.St} {H F1 H1 : Hp} {x : R D} {Q : VK} (o : Out C σ F1 H1 (fun F' H' => New C.K H F' H') x Q) (s : Same H H1) : Out C σ F1 H1 (fun F' H' => New C.K H1 F' H') x Q :=
  o.imp fun d v F' H' _ x s' w k => k v F' H' x s' (w.later s)
theorem d_not (ha : PE X a (tO C f)) : PE X (.UnaryOp .Not a pos) (tO C (uop f eNot)) := (pe_not ha).mono fun σ H Q ⟨ρ, F, r, q⟩ => ⟨ρ, F, r, q.fst fun d v F' H' _ o x s w => by
    have o := o.later x
    cases d with
    | bl b => cases w; exact ⟨b, rfl, fin_flat o s rfl⟩
    | _ => exact o.elim⟩
theorem d_and {rest : List Expr} (ha : PE X a (tO C f)) (hb : PE X (.BoolOp .And (b :: rest) pos) (tO C g)) : PE X (.BoolOp .And (a :: b :: rest) pos) (tO C (eAnd f g)) :=
  (pe_and ha hb).mono fun σ H Q ⟨ρ, F, r, q⟩ => ⟨ρ, F, r, q.fst fun d v F' H' _ o x s w => by
    have o := o.later x
    cases d with
    | bl b =>
      cases w
      refine ⟨b, rfl, ?_⟩
      cases b with
      | true => rw [if_pos rfl]; exact ⟨ρ, F', r.grow x s, o.newer x.h⟩
      | false => rw [if_neg Bool.false_ne_true]; exact fin_flat o s rfl
    | _ => exact o.elim⟩
theorem d_or {rest : List Expr} (ha : PE X a (tO C f)) (hb : PE X (.BoolOp .Or (b :: rest) pos) (tO C g)) : PE X (.BoolOp .Or (a :: b :: rest) pos) (tO C (eOr f g)) :=
  (pe_or ha hb).mono fun σ H Q ⟨ρ, F, r, q⟩ => ⟨ρ, F, r, q.fst fun d v F' H' _ o x s w => by
    have o := o.later x
    cases d with
    | bl b =>
      cases w
      refine ⟨b, rfl, ?_⟩
      cases b with
      | true => rw [if_pos rfl]; exact fin_flat o s rfl
      | false => rw [if_neg Bool.false_ne_true]; exact ⟨ρ, F', r.grow x s, o.newer x.h⟩
    | _ => exact o.elim⟩
theorem d_one {op : BoolOp} (h : PE X a (tO C f)) : PE X (.BoolOp op [a] pos) (tO C f) := pe_one h
def eIf (t : En → R Bool) (f g : En → R D) : En → R D := fun ρ => bd (t ρ) fun c => if c = true then f ρ else g ρ
theorem out_test {σ : L2.St} {ρ : En} {F H : Hp} {t : En → R Bool} {w : Bool → R D} {W : Hp → Hp → D → V → Prop} {Q : VK} {Q' : Bool → Hp → Prop} (r : Rel C ρ σ F H) (q : Out C σ F H W (bd (t ρ) w) Q)
    (h : ∀ d F' H', t ρ = .ok d → Out C σ F' H' W (w d) Q → Ext F H F' H' → Same F' H' → Q' d H') : tT C t σ H Q' := by
  refine ⟨ρ, F, r, ?_⟩
  cases hf : t ρ with
  | bad => rw [hf] at q; exact q
  | err c => rw [hf] at q; exact q
  | ok ds =>
    rw [hf] at q
    exact fun F1 H1 x1 s1 => h ds F1 H1 hf (Out.later q x1) x1 s1
theorem d_ifO {t : Expr} (hc : PT X t (tT C ft)) (ha : PE X a (tO C f)) (hb : PE X b (tO C g)) : PE X (.IfExp t a b pos) (tO C (eIf ft f g)) :=
  (pe_ifExp hc ha hb).mono fun σ H Q ⟨ρ, F, r, q⟩ => out_test r q fun d F' H' _ o x s => by
    cases d with
    | true => rw [if_pos rfl] at o ⊢; exact ⟨ρ, F', r.grow x s, o.newer x.h⟩
    | false => rw [if_neg Bool.false_ne_true] at o ⊢; exact ⟨ρ, F', r.grow x s, o.newer x.h⟩
theorem d_ifE {t : Expr} (hc : PT X t (tT C ft)) (ha : PE X a (tE C f)) (hb : PE X b (tE C g)) : PE X (.IfExp t a b pos) (tE C (eIf ft f g)) :=
  (pe_ifExp hc ha hb).mono fun σ H Q ⟨ρ, F, r, q⟩ => out_test r q fun d F' H' _ o x s => by
    cases d with
    | true => rw [if_pos rfl] at o ⊢; exact ⟨ρ, F', r.grow x s, o⟩
    | false => rw [if_neg Bool.false_ne_true] at o ⊢; exact ⟨ρ, F', r.grow x s, o⟩
/-- a <= b <= c -/
def eChain (w w' : D → D → R D) (f g k : En → R D) : En → R D := fun ρ => bd (f ρ) fun x => bd (g ρ) fun y => bd (w x y) fun z => match z with
  | .bl true => bd (k ρ) fun u => w' y u
  | .bl false => .ok (.bl false)
  | _ => .bad
theorem chain_ok {r r' : R2} {w w' : D → D → R D} (hr : Op2 C r w) (hr' : Op2 C r' w') : ∀ σ H Q, tO C (eChain w w' f g k) σ H Q → tChain r r' (tR C f) (tR C g) (tR C k) σ H Q := by
  rintro σ H Q ⟨ρ, F, rl, q⟩
  refine ⟨ρ, F, rl, q.fst fun d v F1 H1 _ q x1 s1 p1 => ?_⟩
  refine ⟨ρ, F1, rl.grow x1 s1, ?_⟩
  refine (q.later x1).fst fun e y F2 H2 _ q x2 s2 p2 => ?_
  have q2 := q.later x2
  have x12 := x1.trans x2
  refine hr σ F2 H2 _ d e v y ?_ s2 (p1.mono x2.f x2.h) p2
  refine q2.fst fun z vz F3 H3 _ q x3 s3 p3 => ?_
  have q3 := q.later x3
  cases z with
  | bl b =>
    cases p3
    refine ⟨b, rfl, ?_⟩
    cases b with
    | true =>
      rw [if_pos rfl]
      refine ⟨ρ, F3, (rl.grow x12 s2).grow x3 s3, ?_⟩
      refine q3.fst fun u vu F4 H4 _ q x4 s4 p4 => ?_
      exact hr' σ F4 H4 Q e u y vu ((q.later x4).newer ((x12.h.trans x3.h).trans x4.h)) s4 (p2.mono (x3.f.trans x4.f) (x3.h.trans x4.h)) p4
    | false => rw [if_neg Bool.false_ne_true]; exact fin_flat q3 s3 rfl
  | _ => exact q3.elim
theorem d_chain {op op' : CmpOp} {r r' : R2} {w w' : D → D → R D} (ho : OpR X (compareOp op) r) (ho' : OpR X (compareOp op') r') (hr : Op2 C r w) (hr' : Op2 C r' w') (ha : PE X a (tR C f)) (hb : PE X b (tR C g)) (hc : PE X c (tR C k))
    (hm : lastMarks [op, op'] [b, c] = false := by with_unfolding_all rfl) : PE X (.Compare a [op, op'] [b, c] pos) (tO C (eChain w w' f g k)) :=
  (pe_chain ho ho' ha hb hc hm).mono (chain_ok hr hr')

/-! ### subscripts -/
/-- a list's items, a tuple's -/
def asSeq : D → Option (List D)
  | .lst ds => some ds
  | .tup ds => some ds
  | .scr ns => some (ns.map .int)
  | _ => none
/-- the item of a sequence at a place, a text's sign, a dict's value -/
def dIx : D → D → R D
  | .lst ds, .int i => match atI ds i with | some d => .ok d | none => .bad
  | .tup ds, .int i => match atI ds i with | some d => .ok d | none => .bad
  | .scr ds, .int i => match atI ds i with | some d => .ok (.int d) | none => .bad
  | .str z, .int i => grd (small z.length) (match atI z.cps.toList i with | some c => .ok (.str ⟨#[c]⟩) | none => .bad)
  | _, _ => .bad
theorem Reps.atI {K : PySem.W.Frag} {F : Hp} {ds : List D} {vs : List V} (r : Reps K F ds vs) {i : Int} {d : D} (h : L2.atI ds i = some d) : ∃ v, L2.atI vs i = some v ∧ Rep K F d v := by
  unfold L2.atI at h ⊢
  rw [r.length]
  cases hh : ixN ds.length i with
  | none => rw [hh] at h; cases h
  | some j => rw [hh] at h; exact r.get h
theorem atI_map {α β : Type} (f : α → β) (xs : List α) (i : Int) : L2.atI (xs.map f) i = (L2.atI xs i).map f := by
  unfold L2.atI
  rw [List.length_map]
  cases ixN xs.length i with
  | none => rfl
  | some j => simp
/-- .. which is settled -/
theorem ix_ok {σ : L2.St} {F H : Hp} {Q : VK} {d e : D} {x y : V} (o : Out C σ F H (fun F' H' => Rep C.K F') (dIx d e) Q) (s : Same F H) (w1 : View C.K F H d x) (w2 : View C.K F H e y) : rIx C.K x y H Q := by
  unfold dIx at o
  split at o
  · rename_i ds i
    obtain ⟨p, vs, rfl, h, r⟩ := w1
    cases w2
    split at o
    · rename_i z hz
      obtain ⟨v, h1, h2⟩ := r.atI hz
      exact .inl ⟨p, vs, i, v, rfl, rfl, SqL.of h, h1, o v F H (Ext.refl _ _) s h2⟩
    · exact o.elim
  · rename_i ds i
    obtain ⟨p, vs, rfl, h, r⟩ := w1
    cases w2
    split at o
    · rename_i z hz
      obtain ⟨v, h1, h2⟩ := r.atI hz
      exact .inr (.inl ⟨p, vs, i, v, rfl, rfl, SqT.of h, h1, o v F H (Ext.refl _ _) s h2⟩)
    · exact o.elim
  · rename_i ds i
    obtain ⟨p, rfl, h⟩ := w1
    cases w2
    split at o
    · rename_i z hz
      refine .inl ⟨p, _, i, .int z, rfl, rfl, h, ?_, o _ F H (Ext.refl _ _) s (.int z)⟩
      rw [atI_map, hz]; rfl
    · exact o.elim
  · rename_i z i
    obtain ⟨hz, o⟩ := grd_out o
    cases w1
    cases w2
    split at o
    · rename_i c hc
      exact .inr (.inr ⟨z, i, c, rfl, rfl, of_decide_eq_true hz, hc, o _ F H (Ext.refl _ _) s (.str _)⟩)
    · exact o.elim
  · exact o.elim
theorem d_ix (hC : X.K = C.K) (ha : PE X a (tR C f)) (hb : PE X b (tR C g)) (hs : PlainIx b := by exact fun _ _ => rfl) : PE X (.Subscript a b pos) (tE C (bop f g dIx)) :=
  (pe_ix (hC ▸ ix_seq) ha hb hs).mono (by
    rintro σ H Q ⟨ρ, F, rl, q⟩
    refine ⟨ρ, F, rl, q.fst fun d v F1 H1 _ q x1 s1 p1 => ?_⟩
    refine ⟨ρ, F1, rl.grow x1 s1, ?_⟩
    refine (q.later x1).fst fun e y F2 H2 _ q x2 s2 p2 => ?_
    exact ix_ok (q.later x2) s2 (p1.mono x2.f x2.h) p2)
/-! ### slices -/
def cutD {α : Type} (xs : List α) (lo hi : Option Int) : List α := (xs.drop (HT.sIx xs.length 0 lo)).take (HT.sIx xs.length xs.length hi - HT.sIx xs.length 0 lo)
theorem Reps.cut {K : PySem.W.Frag} {F : Hp} {ds : List D} {vs : List V} (r : Reps K F ds vs) (lo hi : Option Int) : Reps K F (cutD ds lo hi) (cutV vs lo hi) := by
  unfold cutD cutV
  rw [r.length]
  exact (r.drop _).take _
theorem cutD_map {α β : Type} (f : α → β) (xs : List α) (lo hi : Option Int) : cutD (xs.map f) lo hi = (cutD xs lo hi).map f := by
  unfold cutD
  rw [List.length_map, List.map_take, List.map_drop]
/-- a part of a slice -/
def PartOk (C : Cd) (X : Cx) (e : Option Expr) (f : En → R (Option Int)) : Prop := ∃ t : TO, PO X e t ∧ ∀ (σ : L2.St) (ρ : En) (F H : Hp) (W : Hp → Hp → D → V → Prop) (w : Option Int → R D) (Q : VK) (Q' : Option Int → Hp → Prop), Rel C ρ σ F H → Out C σ F H W (bd (f ρ) w) Q →
  (∀ o F' H', f ρ = .ok o → Out C σ F' H' W (w o) Q → Ext F H F' H' → Same F' H' → Q' o H') → t σ H Q'
def asI : D → R (Option Int)
  | .int i => .ok (some i)
  | _ => .bad
theorem part_none : PartOk C X none (fun _ => .ok none) := ⟨tNoPart, po_none, fun σ ρ F H W w Q Q' r o h => h none F H rfl o (Ext.refl _ _) r.sub⟩
theorem part_some (ha : PE X a (tO C f)) : PartOk C X (some a) (fun ρ => bd (f ρ) asI) := ⟨_, po_some ha, fun σ ρ F H W w Q Q' r o h => by
  refine ⟨ρ, F, r, ?_⟩
  cases hf : f ρ with
  | bad => simp only [hf, bd_bad, bd_err] at o; exact o
  | err c => simp only [hf, bd_bad, bd_err] at o; exact o
  | ok d =>
    simp only [hf, bd_ok] at o
    intro v F' H' x s w
    have o := o.later x
    cases d with
    | int i => cases w; exact ⟨i, rfl, h (some i) F' H' (by simp only [hf, bd_ok]; rfl) o x s⟩
    | _ => exact o.elim⟩
def pNone : En → R (Option Int) := fun _ => .ok none
def pSome (f : En → R D) : En → R (Option Int) := fun ρ => bd (f ρ) asI
def dCut : D → Option Int → Option Int → R D
  | .lst ds, lo, hi => .ok (.lst (cutD ds lo hi))
  | .scr ds, lo, hi => .ok (.lst ((cutD ds lo hi).map .int))
  | .tup ds, lo, hi => grd (!(decide (HT.sIx ds.length 0 lo = 0) && decide (HT.sIx ds.length ds.length hi = ds.length))) (.ok (.tup (cutD ds lo hi)))
  | .str z, lo, hi => grd (small z.length) (.ok (.str (cutS z lo hi)))
  | _, _, _ => .bad
def slc (f : En → R D) (fl fh : En → R (Option Int)) : En → R D := fun ρ => bd (f ρ) fun d => bd (fl ρ) fun l => bd (fh ρ) fun h => dCut d l h
theorem p_none : PartOk C X none pNone := part_none
theorem p_some (ha : PE X a (tO C f)) : PartOk C X (some a) (pSome f) := part_some ha
theorem SlR.or {r r' : V → Option Int → Option Int → Hp → VK → Prop} (h : SlR X r) (h' : SlR X r') : SlR X (fun x lo hi H Q => r x lo hi H Q ∨ r' x lo hi H Q) := by
  intro pins s σ H x v vl vu lo hi sl Q I rx hs pl pu q
  rcases q with q | q
  · exact h pins s σ H x v vl vu lo hi sl Q I rx hs pl pu q
  · exact h' pins s σ H x v vl vu lo hi sl Q I rx hs pl pu q
theorem d_slice {lo hi : Option Expr} {fl fh : En → R (Option Int)} {p2 : Pos} (hC : X.K = C.K) (ha : PE X a (tR C f)) (hl : PartOk C X lo fl) (hh : PartOk C X hi fh) :
    PE X (.Subscript a (.Slice lo hi none p2) pos) (tO C (slc f fl fh)) := by
  obtain ⟨tl, pl, hl⟩ := hl
  obtain ⟨th, ph, hh⟩ := hh
  refine (pe_slice (hC ▸ SlR.or sl_list (SlR.or sl_tup sl_str)) ha pl ph).mono ?_
  rintro σ H Q ⟨ρ, F, rl, q⟩
  refine ⟨ρ, F, rl, q.fst fun d v F1 H1 _ q x1 s1 p1 => ?_⟩
  refine hl σ ρ F1 H1 _ _ Q _ (rl.grow x1 s1) (q.later x1) fun l F2 H2 _ q x2 s2 => ?_
  refine hh σ ρ F2 H2 _ _ Q _ ((rl.grow x1 s1).grow x2 s2) q fun h F3 H3 _ q x3 s3 => ?_
  have x13 := (x1.trans x2).trans x3
  have p3 := p1.mono (x2.f.trans x3.f) (x2.h.trans x3.h)
  unfold dCut at q
  split at q
  · obtain ⟨p, vs, rfl, h1, r⟩ := p3
    exact .inl ⟨p, vs, rfl, SqL.of h1, fun z hz => fin_lst q s3 x13.h (r.cut _ _) hz⟩
  · obtain ⟨p, rfl, h1⟩ := p3
    refine .inl ⟨p, _, rfl, h1, fun z hz => fin_lst q s3 x13.h ?_ hz⟩
    rw [show cutV (List.map V.int _) _ _ = _ from cutD_map V.int _ _ _]
    exact Reps.of_ints _
  · obtain ⟨p, vs, rfl, h1, r⟩ := p3
    obtain ⟨z, q⟩ := grd_out q
    refine .inr (.inl ⟨p, vs, rfl, SqT.of h1, fun y => ?_, fun z hz => fin_tup q s3 (r.cut _ _) hz⟩)
    rw [r.length] at y
    rw [decide_eq_true y.1, decide_eq_true y.2] at z
    cases z
  · cases p3
    obtain ⟨z, q⟩ := grd_out q
    exact .inr (.inr ⟨_, rfl, of_decide_eq_true z, fin_flat q s3 rfl⟩)
  · exact q.elim
end
end DL
/-! the D layer: calls -/
namespace DL
open PySem PySem.Spec PyProof.Rows L2
section
variable {X : Cx} {C : Cd} {e a b c : Expr} {f g k : En → R D} {pos p : Pos}
/-! ### values to be read, in a row -/
abbrev Views (K : PySem.W.Frag) (F H : Hp) : List D → List V → Prop := Paired (View K F H)
theorem Views.mono {K : PySem.W.Frag} {F F' H H' : Hp} (f : Same F F') (h : Same H H') {ds : List D} {vs : List V} (w : Views K F H ds vs) : Views K F' H' ds vs := Paired.mapP w fun _ _ r => r.mono f h
theorem Views.one {K : PySem.W.Frag} {F H : Hp} {d : D} {vs : List V} (w : Views K F H [d] vs) : ∃ v, vs = [v] ∧ View K F H d v := by
  cases w with
  | cons r t => cases t; exact ⟨_, rfl, r⟩
theorem Views.two {K : PySem.W.Frag} {F H : Hp} {d e : D} {vs : List V} (w : Views K F H [d, e] vs) : ∃ v u, vs = [v, u] ∧ View K F H d v ∧ View K F H e u := by
  cases w with
  | cons r t =>
    obtain ⟨u, rfl, q⟩ := Views.one t
    exact ⟨_, u, rfl, r, q⟩
def OutV (C : Cd) (σ : L2.St) (F H : Hp) (x : R (List D)) (Q : List V → Hp → Prop) : Prop := match x with
  | .ok d => ∀ v F' H', Ext F H F' H' → Same F' H' → Views C.K F' H' d v → Q v H'
  | .err c => ∀ F' H', Ext F H F' H' → Same F' H' → C.XW c σ H'
  | .bad => False
def tV (C : Cd) (f : En → R (List D)) : TA := fun σ H Q => ∃ ρ F, Rel C ρ σ F H ∧ OutV C σ F H (f ρ) Q
theorem OutV.later {σ : L2.St} {F H F1 H1 : Hp} {x : R (List D)} {Q : List V → Hp → Prop} (o : OutV C σ F H x Q) (e : Ext F H F1 H1) : OutV C σ F1 H1 x Q := by
  cases x with
  | ok d => exact fun v F' H' x s w => o v F' H' (e.trans x) s w
  | err c => exact fun F' H' x s => o F' H' (e.trans x) s
  | bad => exact o
theorem w_nil : PA X [] (tV C aNil) := pa_nil.mono fun σ H Q ⟨ρ, F, r, q⟩ => q [] F H (Ext.refl _ _) r.sub .nil
theorem w_cons {es : List Expr} {fs : En → R (List D)} (ha : PE X e (tR C f)) (hr : PA X es (tV C fs)) (hs : starEach (e :: es) X.env = (false, eval e X.env) :: starEach es X.env := by rfl) : PA X (e :: es) (tV C (aCons f fs)) :=
  (pa_cons ha hr hs).mono fun σ H Q ⟨ρ, F, r, q⟩ => by
    refine ⟨ρ, F, r, ?_⟩
    unfold aCons at q
    cases hf : f ρ with
    | bad => rw [hf] at q; exact q
    | err c => rw [hf] at q; exact q
    | ok d =>
      rw [hf] at q
      intro v F1 H1 x1 s1 w1
      refine ⟨ρ, F1, r.grow x1 s1, ?_⟩
      have q := OutV.later q x1
      rw [bd_ok] at q
      cases hg : fs ρ with
      | bad => rw [hg] at q; exact q
      | err c => rw [hg] at q; exact q
      | ok ds =>
        rw [hg] at q
        exact fun vs F2 H2 x2 s2 w2 => q (v :: vs) F2 H2 x2 s2 (.cons (w1.mono x2.f x2.h) w2)
/-- what a call of a built-in is to keep -/
def OpL (C : Cd) (r : List V → Hp → VK → Prop) (w : List D → R D) : Prop :=
  ∀ σ F H Q ds vs, Out C σ F H (fun F' H' => New C.K H F' H') (w ds) Q → Same F H → Views C.K F H ds vs → r vs H Q
theorem many {fs : En → R (List D)} {r : List V → Hp → VK → Prop} {w : List D → R D} (hr : OpL C r w) : ∀ σ H Q, tO C (fun ρ => bd (fs ρ) w) σ H Q → tV C fs σ H fun xs H1 => r xs H1 Q := by
  rintro σ H Q ⟨ρ, F, rl, q⟩
  refine ⟨ρ, F, rl, ?_⟩
  cases hf : fs ρ with
  | bad => simp only [hf, bd_bad] at q; exact q
  | err c => simp only [hf, bd_err] at q; exact q
  | ok ds =>
    simp only [hf, bd_ok] at q
    intro v F1 H1 x1 s1 p1
    exact hr σ F1 H1 Q ds v ((Out.later q x1).newer x1.h) s1 p1
theorem d_callB {id : String} {x : Str} {es : List Expr} {fs : En → R (List D)} {r : List V → Hp → VK → Prop} {w : List D → R D} (hc : CallR X (.builtin id) r) (hr : OpL C r w) (hm : X.mg x = none) (hv : bootBuiltins x = some (.builtin id)) (ha : PA X (e :: es) (tV C fs))
    (hg : Gl X x := by rfl) (hn : x ≠ "__name__" := by decide) (hdb : (x == ("__debug__" : Str)) = false := by decide) (he : starEach (e :: es) X.env = (false, eval e X.env) :: starEach es X.env := by rfl) (hpl : (backTo pos (starEach es X.env)).any (·.1) = false := by rfl) :
    PE X (.Call (.Name x p) (e :: es) [] pos) (tO C (nop fs w)) := (pe_callB hc hg hm hv ha hn hdb he hpl).mono (many hr)
theorem d_callTy {T : String} {x : Str} {es : List Expr} {fs : En → R (List D)} {r : List V → Hp → VK → Prop} {w : List D → R D} (hc : CallR X (.type T) r) (hr : OpL C r w) (hm : X.mg x = none) (hv : bootBuiltins x = some (.type T)) (ha : PA X (e :: es) (tV C fs))
    (hg : Gl X x := by rfl) (hn : x ≠ "__name__" := by decide) (hdb : (x == ("__debug__" : Str)) = false := by decide) (he : starEach (e :: es) X.env = (false, eval e X.env) :: starEach es X.env := by rfl) (hpl : (backTo pos (starEach es X.env)).any (·.1) = false := by rfl) :
    PE X (.Call (.Name x p) (e :: es) [] pos) (tO C (nop fs w)) := (pe_callTy hc hg hm hv ha hn hdb he hpl).mono (many hr)
theorem CallR.or {u : Value} {r r' : List V → Hp → VK → Prop} (h : CallR X u r) (h' : CallR X u r') : CallR X u (fun xs H Q => r xs H Q ∨ r' xs H Q) := by
  intro pins s σ H xs us Q I rx q
  rcases q with q | q
  · exact h pins s σ H xs us Q I rx q
  · exact h' pins s σ H xs us Q I rx q
/-! ### len -/
def dLen : List D → R D
  | [.lst ds] => .ok (.int ds.length)
  | [.tup ds] => .ok (.int ds.length)
  | [.scr ds] => .ok (.int ds.length)
  | [.str z] => grd (small z.length) (.ok (.int z.length))
  | [.dK kvs] => .ok (.int kvs.length)
  | [.rows ds] => .ok (.int ds.length)
  | _ => .bad
theorem RepK.length {K : PySem.W.Frag} {F : Hp} : ∀ {ds : List (Key × D)} {vs : List (Key × V)}, RepK K F ds vs → vs.length = ds.length
  | _, _, .nil => rfl
  | _, _, .cons _ t => congrArg (· + 1) (RepK.length t)
theorem len_ok : OpL C (fun xs H Q => (∃ x n, xs = [x] ∧ LenV C.K x H n ∧ Q (.int n) H) ∨ ∃ p kvs, xs = [.ref p] ∧ Rd H p (.dK kvs) ∧ Q (.int (kvs.length : Nat)) H) dLen := by
  intro σ F H Q ds vs o s w
  unfold dLen at o
  split at o
  · obtain ⟨v, rfl, p, vs, rfl, h, r⟩ := w.one
    exact .inl ⟨_, _, rfl, .inl ⟨vs, SqL.of h, r.length.symm⟩, fin_flat o s rfl⟩
  · obtain ⟨v, rfl, p, vs, rfl, h, r⟩ := w.one
    exact .inl ⟨_, _, rfl, .inr ⟨vs, SqT.of h, r.length.symm⟩, fin_flat o s rfl⟩
  · obtain ⟨v, rfl, p, rfl, h⟩ := w.one
    exact .inl ⟨_, _, rfl, .inl ⟨_, h, (List.length_map _).symm⟩, fin_flat o s rfl⟩
  · obtain ⟨z, o⟩ := grd_out o
    obtain ⟨v, rfl, h⟩ := w.one
    cases h
    exact .inl ⟨_, _, rfl, ⟨of_decide_eq_true z, rfl⟩, fin_flat o s rfl⟩
  · obtain ⟨v, rfl, p, vs, rfl, h, r⟩ := w.one
    refine .inr ⟨p, vs, rfl, h, ?_⟩
    rw [r.length]
    exact fin_flat o s rfl
  · obtain ⟨v, rfl, p, vs, rfl, h, r⟩ := w.one
    exact .inl ⟨_, _, rfl, .inl ⟨vs, SqL.of h, by rcases r with r | r <;> exact r.length.symm⟩, fin_flat o s rfl⟩
  · exact o.elim
end
end DL
/-! the D layer: statements, loops, defs -/
namespace DL
open PySem PySem.Spec PyProof.Rows L2
/-! ### where a statement leads -/
inductive Fl where
  | next (ρ : En) | ret (o : Bool) (d : D) | brk (ρ : En) | cont (ρ : En)
/-- what is handed back: o, a new container of the def's own; else settled -/
def RetP (C : Cd) (F H : Hp) (o : Bool) (d : D) (v : V) : Prop := if o = true then New C.K C.H0 F H d v else Rep C.K F d v
/-- the places that containers of one's own take -/
def feet (H : Hp) : List Addr → List D → List Addr
  | a :: as, d :: ds => foot H a d ++ feet H as ds
  | _, _ => []
/-- containers of one's own, apart from each other -/
def OwnAll (K : PySem.W.Frag) (F H H0 : Hp) (as : List Addr) (es : List D) : Prop :=
  as.length = es.length ∧ (feet H as es).Nodup ∧ (∀ b ∈ feet H as es, F b = none ∧ H0 b = none) ∧ ∀ (k : Nat) (a : Addr) (e : D), as[k]? = some a → es[k]? = some e → Own K F H a e
/-- .. and, where the def changes what it is given, what became of that -/
def RetV (C : Cd) (F H : Hp) (o : Bool) (d : D) (v : V) : Prop := match C.io with
  | [] => RetP C F H o d v
  | as => o = false ∧ ∃ d0 es, d = .tup (d0 :: es) ∧ Rep C.K F d0 v ∧ OwnAll C.K F H C.H0 as es
theorem RetV.of {C : Cd} {F H : Hp} {o : Bool} {d : D} {v : V} (h : C.io = []) (w : RetP C F H o d v) : RetV C F H o d v := by
  unfold RetV; rw [h]; exact w
theorem RetV.ofE {C : Cd} {F H : Hp} {d : D} {v : V} (h : C.io = []) (w : Rep C.K F d v) : RetV C F H false d v := .of h (by unfold RetP; rw [if_neg Bool.false_ne_true]; exact w)
theorem RetV.ofO {C : Cd} {F H : Hp} {d : D} {v : V} (h : C.io = []) (w : New C.K C.H0 F H d v) : RetV C F H true d v := .of h (by unfold RetP; rw [if_pos rfl]; exact w)
def Post (C : Cd) (T : Ends) (B : Hp) : R Fl → Prop
  | .ok (.next ρ) => ∀ σ F H, Same B F → Rel C ρ σ F H → T.nx σ H
  | .ok (.brk ρ) => ∀ σ F H, Same B F → Rel C ρ σ F H → T.bk σ H
  | .ok (.cont ρ) => ∀ σ F H, Same B F → Rel C ρ σ F H → T.ct σ H
  | .ok (.ret o d) => ∀ v F H, Ext C.F0 C.H0 F H → Same F H → RetV C F H o d v → T.rt v H
  | .err c => ∀ ρ σ F H, Rel C ρ σ F H → C.XW c σ H
  | .bad => False
theorem Post.up {C : Cd} {T : Ends} {B B' : Hp} {x : R Fl} (q : Post C T B x) (s : Same B B') : Post C T B' x := by
  cases x with
  | bad => exact q
  | err c => exact q
  | ok r =>
    cases r with
    | next ρ => exact fun σ F H z => q σ F H (s.trans z)
    | brk ρ => exact fun σ F H z => q σ F H (s.trans z)
    | cont ρ => exact fun σ F H z => q σ F H (s.trans z)
    | ret o d => exact q
def tS (C : Cd) (g : En → R Fl) : TS := fun T σ H => ∃ ρ F, Rel C ρ σ F H ∧ Post C T F (g ρ)

section
variable {X : Cx} {C : Cd} {e a b c : Expr} {f g k : En → R D} {pos p : Pos} {st : Stmt} {rest : List Stmt} {s1 s2 : En → R Fl}
theorem Rel.err {ρ : En} {σ : L2.St} {F H F' H' : Hp} {T : Ends} {c : Str} {B : Hp} (r : Rel C ρ σ F H) (q : Post C T B (.err c)) (x : Ext F H F' H') (s : Same F' H') : C.XW c σ H' := q ρ σ F' H' (r.grow x s)
/-- an expression, then its wish -/
theorem out_of {σ : L2.St} {ρ : En} {F H : Hp} {W : Hp → Hp → D → V → Prop} {x : R D} {w : D → R Fl} {T : Ends} {Q : VK} (r : Rel C ρ σ F H) (q : Post C T F (bd x w))
    (h : ∀ d v F' H', x = .ok d → Post C T F' (w d) → Ext F H F' H' → Same F' H' → Rel C ρ σ F' H' → W F' H' d v → Q v H') : Out C σ F H W x Q := by
  cases x with
  | bad => exact q
  | err c => exact fun F' H' x s => r.err q x s
  | ok d => exact fun v F' H' x s w => h d v F' H' rfl (Post.up q x.f) x s (r.grow x s) w
theorem outA_of {σ : L2.St} {ρ : En} {F H : Hp} {x : R (List D)} {w : List D → R Fl} {T : Ends} {Q : List V → Hp → Prop} (r : Rel C ρ σ F H) (q : Post C T F (bd x w))
    (h : ∀ d v F' H', x = .ok d → Post C T F' (w d) → Ext F H F' H' → Same F' H' → Rel C ρ σ F' H' → Reps C.K F' d v → Q v H') : OutA C σ F H x Q := by
  cases x with
  | bad => exact q
  | err c => exact fun F' H' x s => r.err q x s
  | ok d => exact fun v F' H' x s w => h d v F' H' rfl (Post.up q x.f) x s (r.grow x s) w
theorem outT_of {σ : L2.St} {ρ : En} {F H : Hp} {x : R Bool} {w : Bool → R Fl} {T : Ends} {Q : Bool → Hp → Prop} (r : Rel C ρ σ F H) (q : Post C T F (bd x w))
    (h : ∀ d F' H', x = .ok d → Post C T F' (w d) → Same F F' → Rel C ρ σ F' H' → Q d H') : OutT C σ F H x Q := by
  cases x with
  | bad => exact q
  | err c => exact fun F' H' x s => r.err q x s
  | ok d => exact fun F' H' x s => h d F' H' rfl (Post.up q x.f) x.f (r.grow x s)
def sSkip : En → R Fl := fun ρ => .ok (.next ρ)
def sSeq (s t : En → R Fl) : En → R Fl := fun ρ => bd (s ρ) fun r => match r with
  | .next ρ' => t ρ'
  | r => .ok r
theorem ss_nil : PSs X [] (tS C sSkip) := pss_nil.mono fun T σ H ⟨ρ, F, r, q⟩ => q σ F H (Same.refl _) r
theorem post_seq {T : Ends} {B : Hp} {x : R Fl} {t : En → R Fl} (q : Post C T B (bd x fun r => match r with | .next ρ' => t ρ' | r => .ok r)) : Post C { T with nx := tS C t T } B x := by
  cases x with
  | bad => exact q
  | err c => exact q
  | ok r =>
    cases r with
    | next ρ => exact fun σ F H s r => ⟨ρ, F, r, Post.up q s⟩
    | ret o d => exact q
    | brk ρ => exact q
    | cont ρ => exact q
theorem ss_cons (h1 : PS X st (tS C s1)) (h2 : PSs X rest (tS C s2)) : PSs X (st :: rest) (tS C (sSeq s1 s2)) := (pss_cons h1 h2).mono fun T σ H ⟨ρ, F, r, q⟩ => ⟨ρ, F, r, post_seq q⟩
theorem ss_one (h1 : PS X st (tS C s1)) : PSs X [st] (tS C s1) := pss_one h1
/-- names are settled ahead of a statement -/
def sStl (is : List Nat) (s : En → R Fl) : En → R Fl := fun ρ => s (settle ρ is)
theorem s_settle (is : List Nat) (h : PS X st (tS C s1)) : PS X st (tS C (sStl is s1)) := h.mono fun T σ H ⟨ρ, F, r, q⟩ => by
  obtain ⟨F', sf, r'⟩ := r.settle is
  exact ⟨_, F', r', Post.up q sf⟩
theorem s_pass : PS X (.Pass pos) (tS C sSkip) := ps_pass.mono fun T σ H ⟨ρ, F, r, q⟩ => q σ F H (Same.refl _) r
def sBrk : En → R Fl := fun ρ => .ok (.brk ρ)
def sCont : En → R Fl := fun ρ => .ok (.cont ρ)
theorem s_break : PS X (.Break pos) (tS C sBrk) := ps_break.mono fun T σ H ⟨ρ, F, r, q⟩ => q σ F H (Same.refl _) r
theorem s_cont : PS X (.Continue pos) (tS C sCont) := ps_continue.mono fun T σ H ⟨ρ, F, r, q⟩ => q σ F H (Same.refl _) r
/-- a test -/
def sIf (t : En → R Bool) (s1 s2 : En → R Fl) : En → R Fl := fun ρ => bd (t ρ) fun c => if c = true then s1 ρ else s2 ρ
theorem s_if {t : En → R Bool} {bs cs : List Stmt} (hc : PT X c (tT C t)) (ha : PSs X bs (tS C s1)) (hb : PSs X cs (tS C s2)) : PS X (.If c bs cs pos) (tS C (sIf t s1 s2)) :=
  (ps_if hc ha hb).mono fun T σ H ⟨ρ, F, r, q⟩ => ⟨ρ, F, r, outT_of r q fun d F' H' _ q _ r => by
    cases d with
    | true => rw [if_pos rfl] at q ⊢; exact ⟨ρ, F', r, q⟩
    | false => rw [if_neg Bool.false_ne_true] at q ⊢; exact ⟨ρ, F', r, q⟩⟩
/-- what is handed back -/
def sRet (f : En → R D) : En → R Fl := fun ρ => bd (f ρ) fun d => .ok (.ret false d)
def sRetO (f : En → R D) : En → R Fl := fun ρ => bd (f ρ) fun d => .ok (.ret true d)
theorem Rel.new {ρ : En} {σ : L2.St} {F H : Hp} {H1 F' H' : Hp} {d : D} {v : V} (r : Rel C ρ σ F H) (s : Same H H1) (w : New C.K H F' H' d v) : New C.K C.H0 F' H' d v := w.later r.ext.h
theorem s_ret (he : PE X e (tE C f)) (hio : C.io = [] := by rfl) : PS X (.Return (some e) pos) (tS C (sRet f)) := (ps_ret he).mono fun T σ H ⟨ρ, F, r, q⟩ => ⟨ρ, F, r, out_of r q fun d v F' H' _ q x s r w => q v F' H' r.ext s (.ofE hio w)⟩
theorem s_retO (he : PE X e (tO C f)) (hio : C.io = [] := by rfl) : PS X (.Return (some e) pos) (tS C (sRetO f)) := (ps_ret he).mono fun T σ H ⟨ρ, F, r, q⟩ => ⟨ρ, F, r, out_of r q fun d v F' H' _ q x s r' w => q v F' H' r'.ext s (.ofO hio (w.later r.ext.h))⟩
/-- a name of the def's own is handed back, with its container -/
def rdO (i : Nat) : En → R D := fun ρ => match ρ[i]? with
  | some (some (true, d)) => .ok d
  | some (some (false, d)) => if isC d = true then .bad else .ok d
  | _ => .bad
theorem s_retN {i : Nat} (he : PE X e (tVar i)) (hio : C.io = [] := by rfl) : PS X (.Return (some e) pos) (tS C (sRetO (rdO i))) := (ps_ret he).mono fun T σ H ⟨ρ, F, r, q⟩ => by
  unfold sRetO rdO at q
  split at q
  · rename_i d h
    obtain ⟨v, hv, n, nd, o⟩ := r.ownF i d h
    refine ⟨_, hv, q _ F H r.ext r.sub ?_⟩
    refine .ofO hio ?_
    exact .mk (fun b hb => ⟨(n b hb).2, (n b hb).1⟩) nd o
  · rename_i d h
    obtain ⟨v, hv, w⟩ := r.slot i d h
    split at q
    · exact q.elim
    · rename_i hd
      refine ⟨_, hv, q _ F H r.ext r.sub ?_⟩
      refine .ofO hio ?_
      exact New.of_rep (by simpa using hd) w
  · exact q.elim
/-- nothing is handed back -/
def sRetNone : En → R Fl := fun _ => .ok (.ret false .non)
theorem s_ret0 (hio : C.io = [] := by rfl) : PS X (.Return none pos) (tS C sRetNone) := ps_retN.mono fun T σ H ⟨ρ, F, r, q⟩ => q .non F H r.ext r.sub (.ofE hio .non)
/-! ### stores -/
def stE (i : Nat) (d : D) (ρ : En) : R Fl := .ok (.next (ρ.set i (some (false, d))))
def stO (i : Nat) (d : D) (ρ : En) : R Fl := .ok (.next (ρ.set i (some (isC d, d))))
def sSet (i : Nat) (f : En → R D) : En → R Fl := fun ρ => bd (f ρ) fun d => stE i d ρ
def sSetO (i : Nat) (f : En → R D) : En → R Fl := fun ρ => bd (f ρ) fun d => stO i d ρ
theorem Rel.setN {ρ : En} {σ : L2.St} {F H H1 : Hp} {i : Nat} {d : D} {v : V} (r : Rel C ρ σ F H) (h1 : ∀ (j : Nat) (e : D) (b c : Addr), ρ[j]? = some (some (true, e)) → σ[j]? = some (some (V.ref b)) → c ∈ foot H b e → ∃ u, H1 c = some u) (h0 : ∀ a, H1 a = none → C.H0 a = none) (w : New C.K H1 F H d v) (hl : C.ln i = none) :
    Rel C (ρ.set i (some (isC d, d))) (σ.set i (some v)) F H := by
  cases hc : isC d with
  | true =>
    obtain ⟨a, rfl, n, nd, o⟩ := w.own hc
    exact r.setO hl (fun b hb => ⟨(n b hb).2, h0 b (n b hb).1⟩) nd o fun j e b c hj hs h5 h6 => by
      obtain ⟨u, hu⟩ := h1 j e b c hj hs h6
      rw [(n c h5).1] at hu
      cases hu
  | false => exact r.set (w.isRep hc) hl
theorem Rel.old {ρ : En} {σ : L2.St} {F H H' : Hp} (r : Rel C ρ σ F H) (s : Same H H') : ∀ (j : Nat) (e : D) (b c : Addr), ρ[j]? = some (some (true, e)) → σ[j]? = some (some (V.ref b)) → c ∈ foot H' b e → ∃ u, H c = some u := fun j e b c hj hs hc => by
  obtain ⟨a', q, _, _, o⟩ := r.ownF j e hj
  rw [hs] at q
  cases q
  rw [foot_grow s o] at hc
  exact o.foot c hc
theorem s_set {i : Nat} {x : Str} {pos' : Pos} (he : PE X e (tE C f)) (hN : X.N.Nodup) (hi : X.N[i]? = some x := by rfl) (hx : Loc X.env.scope x := by first | exact .inl rfl | exact .inr rfl) (hs : swapsWith e (some (.Name x pos')) pos.line X.env = pure false := by rfl)
    (hf : X.fn x = true ∨ X.env.scope.names.lookup x = some .local := by first | exact .inl rfl | exact .inr rfl | assumption) (hl : C.ln i = none := by rfl) : PS X (.Assign [.Name x pos'] e pos) (tS C (sSet i f)) :=
  (ps_set hN hi hx he hs hf).mono fun T σ H ⟨ρ, F, r, q⟩ => ⟨ρ, F, r, out_of r q fun d v F' H' _ q x s r w => q _ F' H' (Same.refl _) (r.set w hl)⟩
theorem s_setO {i : Nat} {x : Str} {pos' : Pos} (he : PE X e (tO C f)) (hN : X.N.Nodup) (hi : X.N[i]? = some x := by rfl) (hx : Loc X.env.scope x := by first | exact .inl rfl | exact .inr rfl) (hs : swapsWith e (some (.Name x pos')) pos.line X.env = pure false := by rfl)
    (hf : X.fn x = true ∨ X.env.scope.names.lookup x = some .local := by first | exact .inl rfl | exact .inr rfl | assumption) (hl : C.ln i = none := by rfl) : PS X (.Assign [.Name x pos'] e pos) (tS C (sSetO i f)) :=
  (ps_set hN hi hx he hs hf).mono fun T σ H ⟨ρ, F, r, q⟩ => ⟨ρ, F, r, out_of r q fun d v F' H' _ q x s r' w => q _ F' H' (Same.refl _) (r'.setN (r.old x.h) (fun a h => r.ext.h.free h) w hl)⟩
/-! ### targets -/
theorem wipe_set {i : Nat} {x : Option V} : ∀ {σ : L2.St} {own : List Nat}, i ∈ own → wipe (σ.set i x) own = wipe σ own
  | σ, v :: own, h => by
    unfold wipe
    by_cases e : i = v
    · subst e
      by_cases h2 : i ∈ own
      · rw [wipe_set h2]
      · have aux : ∀ (own : List Nat) (σ : L2.St), i ∉ own → wipe (σ.set i x) own = (wipe σ own).set i x := by
          intro own
          induction own with
          | nil => intro σ _; rfl
          | cons w own ih =>
            intro σ hn
            unfold wipe
            rw [ih σ fun z => hn (List.mem_cons_of_mem _ z), List.set_comm _ _ (fun z => hn (by rw [z]; exact List.mem_cons_self))]
        rw [aux own σ h2, List.set_set]
    · have h2 : i ∈ own := by
        rcases List.mem_cons.mp h with z | z
        · exact absurd z e
        · exact z
      rw [wipe_set h2]
theorem wipe_wipe : ∀ (own more : List Nat) (σ : L2.St), (∀ i ∈ more, i ∈ own) → wipe (wipe σ more) own = wipe σ own
  | own, [], σ, _ => rfl
  | own, i :: more, σ, h => by
    show wipe ((wipe σ more).set i none) own = _
    rw [wipe_set (h i List.mem_cons_self), wipe_wipe own more σ fun j hj => h j (List.mem_cons_of_mem _ hj)]
def tG (C : Cd) (vs : List Nat) (g : D → En → Option En) : TG := fun v σ H Q => ∃ ρ F d, Rel C ρ σ F H ∧ Rep C.K F d v ∧ match g d ρ with
  | some ρ' => ∀ σ', wipe σ' vs = wipe σ vs → Rel C ρ' σ' F H → Q σ' H
  | none => False
def tGs (C : Cd) (vs : List Nat) (g : List D → En → Option En) : TGs := fun ws σ H Q => ∃ ρ F ds, Rel C ρ σ F H ∧ Reps C.K F ds ws ∧ match g ds ρ with
  | some ρ' => ∀ σ', wipe σ' vs = wipe σ vs → Rel C ρ' σ' F H → Q σ' H
  | none => False
theorem _root_.L2.PG.mono {X : Cx} {e : Expr} {t t' : TG} (h : PG X e t) (m : ∀ v σ H Q, t' v σ H Q → t v σ H Q) : PG X e t' := ⟨fun pins s σ H v u Q I r q => h.run pins s σ H v u Q I r (m v σ H Q q)⟩
theorem _root_.L2.PGs.mono {X : Cx} {e : List Expr} {t t' : TGs} (h : PGs X e t) (m : ∀ v σ H Q, t' v σ H Q → t v σ H Q) : PGs X e t' := ⟨fun pins s σ H v u Q I r q => h.run pins s σ H v u Q I r (m v σ H Q q)⟩
def gSet (i : Nat) : D → En → Option En := fun d ρ => some (ρ.set i (some (false, d)))
theorem g_name {i : Nat} {x : Str} {own : List Nat} (hN : X.N.Nodup) (hi : X.N[i]? = some x := by rfl) (ho : i ∈ own := by decide) (hx : Loc X.env.scope x := by first | exact .inl rfl | exact .inr rfl) (hf : X.fn x = true ∨ X.env.scope.names.lookup x = some .local := by first | exact .inl rfl | exact .inr rfl | assumption) (hl : C.ln i = none := by rfl) :
    PG X (.Name x pos) (tG C own (gSet i)) := (pg_name hN hi hx hf).mono fun v σ H Q ⟨ρ, F, d, r, w, q⟩ => q _ (wipe_set ho) (r.set w hl)
def gsNil : List D → En → Option En := fun ds ρ => match ds with | [] => some ρ | _ => none
def gsCons (g : D → En → Option En) (gs : List D → En → Option En) : List D → En → Option En := fun ds ρ => match ds with | d :: ds => (g d ρ).bind (gs ds) | [] => none
theorem gs_nil {own : List Nat} : PGs X [] (tGs C own gsNil) := pgs_nil.mono fun v σ H Q ⟨ρ, F, ds, r, w, q⟩ => by
  cases ds with
  | nil => cases w; exact ⟨rfl, q σ rfl r⟩
  | cons d ds => exact q.elim
theorem gs_cons {own : List Nat} {es : List Expr} {gg : D → En → Option En} {gs : List D → En → Option En} (h1 : PG X e (tG C own gg)) (h2 : PGs X es (tGs C own gs)) (hs : (assignEach (e :: es) X.env).map (·.2) = assign e X.env :: (assignEach es X.env).map (·.2) := by rfl) :
    PGs X (e :: es) (tGs C own (gsCons gg gs)) := (pgs_cons h1 h2 hs).mono fun v σ H Q ⟨ρ, F, ds, r, w, q⟩ => by
  cases w with
  | nil => exact q.elim
  | @cons d v ds vs w ws =>
    refine ⟨v, vs, rfl, ρ, F, d, r, w, ?_⟩
    have q' : match (gg d ρ).bind (gs ds) with | some ρ' => ∀ σ', wipe σ' own = wipe σ own → Rel C ρ' σ' F H → Q σ' H | none => False := q
    cases hg : gg d ρ with
    | none => rw [hg] at q'; exact q'
    | some ρ1 =>
      rw [hg] at q'
      refine fun σ1 e1 r1 => ⟨ρ1, F, ds, r1, ws, ?_⟩
      have q2 : match gs ds ρ1 with | some ρ' => ∀ σ', wipe σ' own = wipe σ own → Rel C ρ' σ' F H → Q σ' H | none => False := q'
      cases hh : gs ds ρ1 with
      | none => rw [hh] at q2; exact q2
      | some ρ2 => rw [hh] at q2; exact fun σ2 e2 r2 => q2 σ2 (e2.trans e1) r2
def gTupD (n : Nat) (gs : List D → En → Option En) : D → En → Option En := fun d ρ => match d with
  | .tup ds => if ds.length = n then gs ds ρ else none
  | _ => none
theorem g_tup {own : List Nat} {es : List Expr} {kk n : Nat} {gs : List D → En → Option En} (hc : X.calm = true) (h : PGs X es (tGs C own gs)) (hn : (assignEach es X.env).length = n := by rfl) (hst : (assignEach es X.env).findIdx? (·.1) = none := by rfl) :
    PG X (.Tuple es kk pos) (tG C own (gTupD n gs)) := (pg_tup hc h hn hst).mono fun v σ H Q ⟨ρ, F, d, r, w, q⟩ => by
  unfold gTupD at q
  cases w with
  | @tup a vs ds ha ws =>
    by_cases hd : ds.length = n
    · simp only [hd, if_true] at q
      exact ⟨a, vs, rfl, SqT.of (r.sub _ _ ha), by rw [ws.length]; exact hd, ρ, F, ds, r, ws, q⟩
    · simp only [hd, if_false] at q
  | _ => exact q.elim
def gLstD (n : Nat) (gs : List D → En → Option En) : D → En → Option En := fun d ρ => match d with
  | .lst ds => if ds.length = n then gs ds ρ else none
  | _ => none
theorem g_lst {own : List Nat} {es : List Expr} {kk n : Nat} {gs : List D → En → Option En} (hc : X.calm = true) (h : PGs X es (tGs C own gs)) (hn : (assignEach es X.env).length = n := by rfl) (hst : (assignEach es X.env).findIdx? (·.1) = none := by rfl) :
    PG X (.Tuple es kk pos) (tG C own (gLstD n gs)) := (pg_unl hc h hn hst).mono fun v σ H Q ⟨ρ, F, d, r, w, q⟩ => by
  unfold gLstD at q
  cases w with
  | @lst a vs ds ha ws =>
    by_cases hd : ds.length = n
    · simp only [hd, if_true] at q
      exact ⟨a, vs, rfl, SqL.of (r.sub _ _ ha), by rw [ws.length]; exact hd, ρ, F, ds, r, ws, q⟩
    · simp only [hd, if_false] at q
  | _ => exact q.elim
/-- targets = value -/
def sUnp (f : En → R D) (g : D → En → Option En) : En → R Fl := fun ρ => bd (f ρ) fun d => match g d ρ with
  | some ρ' => .ok (.next ρ')
  | none => .bad
theorem s_unp {gg : D → En → Option En} (he : PE X e (tE C f)) {own : List Nat} (hg : PG X a (tG C own gg)) (hs : swapsWithSole [a] e pos.line X.env = pure false := by rfl) (hw : swappedStores [a] e X.env = pure none := by rfl)
    (h1 : (assignEach [a] X.env).map (·.2) = [assign a X.env] := by rfl) : PS X (.Assign [a] e pos) (tS C (sUnp f gg)) :=
  (ps_asg he hg hs hw h1).mono fun T σ H ⟨ρ, F, r, q⟩ => ⟨ρ, F, r, out_of r q fun d v F' H' _ q x s r w => by
    refine ⟨ρ, F', d, r, w, ?_⟩
    cases hg : gg d ρ with
    | none => rw [hg] at q; exact q.elim
    | some ρ1 => rw [hg] at q; exact fun σ1 _ r1 => q σ1 F' H' (Same.refl _) r1⟩
end
end DL
/-! the D layer: what is walked; for, while, comprehensions -/
namespace DL
open PySem PySem.Spec PyProof.Rows L2
/-- the walk J yields ds while what B says stands -/
def IterOk (K : PySem.W.Frag) (J : It) (B F : Hp) (ds : List D) : Prop := ∀ i F2 H2, Same B H2 → Same F F2 → Same F2 H2 →
  (i < ds.length → J.go i H2 ∧ ∀ x H3, J.yld i H2 x H3 → ∃ F3 d, ds[i]? = some d ∧ Ext F2 H2 F3 H3 ∧ Same F3 H3 ∧ Rep K F3 d x) ∧ (i = ds.length → J.stop i H2)
theorem IterOk.base {K : PySem.W.Frag} {J : It} {B B' F : Hp} {ds : List D} (h : IterOk K J B F ds) (s : Same B B') : IterOk K J B' F ds := fun i F2 H2 b => h i F2 H2 (s.trans b)
/-- both heaps -/
def jn (A B : Hp) : Hp := fun a => match A a with
  | some o => some o
  | none => B a
theorem jn_l {A B : Hp} : Same A (jn A B) := fun a o h => by unfold jn; rw [h]
theorem jn_r {A B H : Hp} (h1 : Same A H) (h2 : Same B H) : Same B (jn A B) := fun a o h => by
  unfold jn
  cases e : A a with
  | none => exact h
  | some u => rw [← h2 _ _ h, h1 _ _ e]
theorem jn_in {A B H : Hp} (h1 : Same A H) (h2 : Same B H) : Same (jn A B) H := fun a o h => by
  unfold jn at h
  cases e : A a with
  | none => rw [e] at h; exact h2 _ _ h
  | some u => rw [e] at h; cases h; exact h1 _ _ e
def OutI (C : Cd) (st : Bool) (σ : L2.St) (F H : Hp) (x : R (List D)) (Q : It → Hp → Prop) : Prop := match x with
  | .ok ds => ∀ J F' H', Ext F H F' H' → Same F' H' → IterOk C.K J (if st = true then jn F' C.H0 else H') F' ds → Q J H'
  | .err c => ∀ F' H', Ext F H F' H' → Same F' H' → C.XW c σ H'
  | .bad => False
/-- st: what is walked is settled -/
def tI (C : Cd) (st : Bool) (f : En → R (List D)) : TI := fun σ H Q => ∃ ρ F, Rel C ρ σ F H ∧ OutI C st σ F H (f ρ) Q
theorem _root_.L2.PI.mono {X : Cx} {tg e : Expr} {t t' : TI} (h : PI X tg e t) (m : ∀ σ H Q, t' σ H Q → t σ H Q) : PI X tg e t' := ⟨fun pins s σ H Q I q => h.run pins s σ H Q I (m σ H Q q)⟩
theorem _root_.L2.PI.or {X : Cx} {tg e : Expr} {t t' : TI} (h : PI X tg e t) (h' : PI X tg e t') : PI X tg e (fun σ H Q => t σ H Q ∨ t' σ H Q) := ⟨fun pins s σ H Q I q => by
  rcases q with q | q
  · exact h.run pins s σ H Q I q
  · exact h'.run pins s σ H Q I q⟩
section
variable {X : Cx} {C : Cd} {e a b c tg : Expr} {f g k : En → R D} {pos p : Pos} {st : Stmt} {rest : List Stmt} {s1 s2 : En → R Fl} {K : PySem.W.Frag}
theorem OutI.later {st : Bool} {σ : L2.St} {F H F1 H1 : Hp} {x : R (List D)} {Q : It → Hp → Prop} (o : OutI C st σ F H x Q) (e : Ext F H F1 H1) : OutI C st σ F1 H1 x Q := by
  cases x with
  | ok d => exact fun J F' H' x s w => o J F' H' (e.trans x) s w
  | err c => exact fun F' H' x s => o F' H' (e.trans x) s
  | bad => exact o
/-- settled sources serve as others -/
theorem i_stable {fs : En → R (List D)} (h : PI X tg e (tI C true fs)) : PI X tg e (tI C false fs) := h.mono fun σ H Q ⟨ρ, F, r, q⟩ => by
  refine ⟨ρ, F, r, ?_⟩
  revert q
  generalize fs ρ = x
  intro q
  cases x with
  | ok ds => exact fun J F' H' x s w => q J F' H' x s (by rw [if_neg Bool.false_ne_true]; rw [if_pos rfl] at w; exact w.base (jn_in s (r.ext.h.trans x.h)))
  | err c => exact q
  | bad => exact q
theorem iter_list {B F : Hp} {l : Addr} {vs : List V} {ds : List D} (h : SqL K B l vs) (r : Reps K F ds vs) : IterOk K (Itl K l) B F ds := fun i F2 H2 b f s => by
  have q := b.seq h
  refine ⟨fun hi => ?_, fun hi => ⟨vs, q, by rw [r.length]; omega⟩⟩
  obtain ⟨v, hv, w⟩ := r.get (List.getElem?_eq_getElem hi)
  refine ⟨⟨vs, v, q, hv⟩, fun x H3 y => ?_⟩
  obtain ⟨rfl, y⟩ := y
  have e := (y vs q).symm.trans hv
  cases e
  exact ⟨F2, _, List.getElem?_eq_getElem hi, Ext.refl _ _, s, w.mono f⟩
theorem iter_tup {B F : Hp} {l : Addr} {vs : List V} {ds : List D} (h : SqT K B l vs) (r : Reps K F ds vs) : IterOk K (Itt K l) B F ds := fun i F2 H2 b f s => by
  have q := Same.seqT b h
  refine ⟨fun hi => ?_, fun hi => ⟨vs, q, by rw [r.length]; omega⟩⟩
  obtain ⟨v, hv, w⟩ := r.get (List.getElem?_eq_getElem hi)
  refine ⟨⟨vs, v, q, hv⟩, fun x H3 y => ?_⟩
  obtain ⟨rfl, y⟩ := y
  have e := (y vs q).symm.trans hv
  cases e
  exact ⟨F2, _, List.getElem?_eq_getElem hi, Ext.refl _ _, s, w.mono f⟩
theorem iter_range {B F : Hp} {lo : Int} {n : Nat} : IterOk K (Itr lo n) B F ((List.range n).map fun i => D.int (lo + (i : Nat))) := fun i F2 H2 b f s => by
  refine ⟨fun hi => ?_, fun hi => ?_⟩
  · rw [List.length_map, List.length_range] at hi
    refine ⟨hi, fun x H3 y => ?_⟩
    obtain ⟨rfl, rfl⟩ := y
    refine ⟨F2, .int (lo + i), ?_, Ext.refl _ _, s, .int _⟩
    rw [List.getElem?_map, List.getElem?_range hi]
    rfl
  · rw [List.length_map, List.length_range] at hi
    exact Nat.le_of_eq hi.symm
/-- the signs of a text -/
def signs (z : Str) : List D := z.cps.toList.map fun c => D.str ⟨#[c]⟩
theorem iter_str {B F : Hp} {z : Str} : IterOk K (Its z) B F (signs z) := fun i F2 H2 b f s => by
  have hl : (signs z).length = z.cps.size := by unfold signs; rw [List.length_map, Array.length_toList]
  refine ⟨fun hi => ?_, fun hi => ?_⟩
  · rw [hl] at hi
    refine ⟨hi, fun x H3 y => ?_⟩
    obtain ⟨rfl, c, hc, rfl⟩ := y
    refine ⟨F2, .str ⟨#[c]⟩, ?_, Ext.refl _ _, s, .str _⟩
    unfold signs
    rw [List.getElem?_map, Array.getElem?_toList, hc]
    rfl
  · rw [hl] at hi
    exact Nat.le_of_eq hi.symm
/-- a list's, a tuple's items, a text's signs -/
def itD : D → R (List D)
  | .lst ds => .ok ds
  | .tup ds => .ok ds
  | .scr ns => .ok (ns.map .int)
  | .str z => .ok (signs z)
  | _ => .bad
def itr (f : En → R D) : En → R (List D) := fun ρ => bd (f ρ) itD
def irg (f : En → R (List D)) (w : List D → R (List D)) : En → R (List D) := fun ρ => bd (f ρ) w
theorem i_seqE (hC : X.K = C.K) (ha : PE X e (tE C f)) : PI X tg e (tI C true (itr f)) :=
  (PI.or (pi_list ha) (PI.or (pi_tup ha) (pi_str ha))).mono fun σ H Q ⟨ρ, F, r, q⟩ => by
    unfold itr at q
    rw [hC]
    cases hf : f ρ with
    | bad => simp only [hf, bd_bad] at q; exact q.elim
    | err c => simp only [hf, bd_err] at q; exact .inl ⟨ρ, F, r, by rw [hf]; exact q⟩
    | ok d =>
      simp only [hf, bd_ok] at q
      cases d with
      | lst ds =>
        refine .inl ⟨ρ, F, r, ?_⟩
        rw [hf]
        intro v F' H' x s w
        cases w with
        | lst ha rr => exact ⟨_, rfl, ⟨_, SqL.of (s _ _ ha)⟩, q _ F' H' x s (iter_list (SqL.of (by rw [if_pos rfl]; exact jn_l _ _ ha)) rr)⟩
      | scr ds =>
        refine .inl ⟨ρ, F, r, ?_⟩
        rw [hf]
        intro v F' H' x s w
        cases w with
        | scr ha => exact ⟨_, rfl, ⟨_, s.seq ha⟩, q _ F' H' x s (iter_list (by rw [if_pos rfl]; exact jn_l.seq ha) (Reps.of_ints _))⟩
      | tup ds =>
        refine .inr (.inl ⟨ρ, F, r, ?_⟩)
        rw [hf]
        intro v F' H' x s w
        cases w with
        | tup ha rr => exact ⟨_, rfl, ⟨_, SqT.of (s _ _ ha)⟩, q _ F' H' x s (iter_tup (SqT.of (by rw [if_pos rfl]; exact jn_l _ _ ha)) rr)⟩
      | str z =>
        refine .inr (.inr ⟨ρ, F, r, ?_⟩)
        rw [hf]
        intro v F' H' x s w
        cases w
        exact ⟨z, rfl, q _ F' H' x s iter_str⟩
      | _ => exact q.elim
theorem i_seqR (hC : X.K = C.K) (ha : PE X e (tR C f)) : PI X tg e (tI C false (itr f)) :=
  (PI.or (pi_list ha) (PI.or (pi_tup ha) (pi_str ha))).mono fun σ H Q ⟨ρ, F, r, q⟩ => by
    unfold itr at q
    rw [hC]
    cases hf : f ρ with
    | bad => simp only [hf, bd_bad] at q; exact q.elim
    | err c => simp only [hf, bd_err] at q; exact .inl ⟨ρ, F, r, by rw [hf]; exact q⟩
    | ok d =>
      simp only [hf, bd_ok] at q
      cases d with
      | lst ds =>
        refine .inl ⟨ρ, F, r, ?_⟩
        rw [hf]
        intro v F' H' x s w
        obtain ⟨l, vs, rfl, ha, rr⟩ := w
        exact ⟨_, rfl, ⟨_, SqL.of ha⟩, q _ F' H' x s (iter_list (SqL.of (by simpa using ha)) rr)⟩
      | scr ds =>
        refine .inl ⟨ρ, F, r, ?_⟩
        rw [hf]
        intro v F' H' x s w
        obtain ⟨l, rfl, ha⟩ := w
        exact ⟨_, rfl, ⟨_, ha⟩, q _ F' H' x s (iter_list (by simpa using ha) (Reps.of_ints _))⟩
      | tup ds =>
        refine .inr (.inl ⟨ρ, F, r, ?_⟩)
        rw [hf]
        intro v F' H' x s w
        obtain ⟨l, vs, rfl, ha, rr⟩ := w
        exact ⟨_, rfl, ⟨_, SqT.of ha⟩, q _ F' H' x s (iter_tup (SqT.of (by simpa using ha)) rr)⟩
      | str z =>
        refine .inr (.inr ⟨ρ, F, r, ?_⟩)
        rw [hf]
        intro v F' H' x s w
        cases w
        exact ⟨z, rfl, q _ F' H' x s iter_str⟩
      | _ => exact q.elim
def inR (i : Int) : Bool := decide (-(2 ^ 62) ≤ i) && decide (i < 2 ^ 62)
theorem inR_of {i : Int} (h : inR i = true) : -(2 ^ 62) ≤ i ∧ i < 2 ^ 62 := by
  unfold inR at h
  rw [Bool.and_eq_true] at h
  exact ⟨of_decide_eq_true h.1, of_decide_eq_true h.2⟩
def rng1 : List D → R (List D)
  | [.int j] => grd (inR j) (.ok ((List.range j.toNat).map fun (i : Nat) => D.int (0 + (i : Int))))
  | _ => .bad
def rng2 : List D → R (List D)
  | [.int i, .int j] => grd (inR i && inR j) (.ok ((List.range (j - i).toNat).map fun (k : Nat) => D.int (i + (k : Int))))
  | _ => .bad
theorem outV_of {st : Bool} {σ : L2.St} {F H : Hp} {x : R (List D)} {w : List D → R (List D)} {Q : It → Hp → Prop} {Q' : List V → Hp → Prop} (q : OutI C st σ F H (bd x w) Q)
    (h : ∀ ds vs F' H', OutI C st σ F' H' (w ds) Q → Ext F H F' H' → Same F' H' → Views C.K F' H' ds vs → Q' vs H') : OutV C σ F H x Q' := by
  cases x with
  | bad => exact q
  | err c => exact q
  | ok ds => exact fun vs F' H' x s w => h ds vs F' H' (OutI.later q x) x s w
theorem grdI {st : Bool} {σ : L2.St} {F H : Hp} {Q : It → Hp → Prop} {c : Bool} {x : R (List D)} (o : OutI C st σ F H (grd c x) Q) : c = true ∧ OutI C st σ F H x Q := by
  cases c with
  | true => exact ⟨rfl, o⟩
  | false => exact o.elim
theorem i_range1 {fs : En → R (List D)} (hm : X.mg "range" = none) (ha : PA X [a] (tV C fs)) (hg : Gl X "range" := by rfl) (hs : starEach [a] X.env = [(false, eval a X.env)] := by rfl) :
    PI X tg (.Call (.Name "range" p) [a] [] pos) (tI C true (irg fs rng1)) := (pi_range1 hg hm ha hs).mono fun σ H Q ⟨ρ, F, r, q⟩ => ⟨ρ, F, r, outV_of q fun ds vs F' H' o x s w => by
      unfold rng1 at o
      split at o
      · obtain ⟨z, o⟩ := grdI o
        obtain ⟨v, rfl, w1⟩ := Views.one w
        obtain rfl : v = V.int _ := w1
        obtain ⟨h1, h2⟩ := inR_of z
        exact ⟨_, rfl, h1, h2, o _ F' H' (Ext.refl _ _) s iter_range⟩
      · exact o.elim⟩
theorem i_range2 {fs : En → R (List D)} (hm : X.mg "range" = none) (ha : PA X [a, b] (tV C fs)) (hg : Gl X "range" := by rfl) (hs : starEach [a, b] X.env = [(false, eval a X.env), (false, eval b X.env)] := by rfl) (hs2 : starEach [b] X.env = [(false, eval b X.env)] := by rfl) :
    PI X tg (.Call (.Name "range" p) [a, b] [] pos) (tI C true (irg fs rng2)) := (pi_range2 hg hm ha hs hs2).mono fun σ H Q ⟨ρ, F, r, q⟩ => ⟨ρ, F, r, outV_of q fun ds vs F' H' o x s w => by
      unfold rng2 at o
      split at o
      · obtain ⟨z, o⟩ := grdI o
        rw [Bool.and_eq_true] at z
        obtain ⟨v, u, rfl, w1, w2⟩ := Views.two w
        obtain rfl : v = V.int _ := w1
        obtain rfl : u = V.int _ := w2
        obtain ⟨h1, h2⟩ := inR_of z.1
        obtain ⟨h3, h4⟩ := inR_of z.2
        exact ⟨_, _, rfl, ⟨h1, h2, h3, h4⟩, o _ F' H' (Ext.refl _ _) s iter_range⟩
      · exact o.elim⟩
/-! ### for -/
def loopD (g : D → En → Option En) (gb : En → R Fl) : List D → En → R Fl
  | [], ρ => .ok (.next ρ)
  | d :: ds, ρ => match g d ρ with
    | none => .bad
    | some ρ1 => bd (gb ρ1) fun r => match r with
      | .next ρ' => loopD g gb ds ρ'
      | .cont ρ' => loopD g gb ds ρ'
      | .brk ρ' => .ok (.next ρ')
      | .ret o d => .ok (.ret o d)
def sFor (f : En → R (List D)) (g : D → En → Option En) (gb : En → R Fl) : En → R Fl := fun ρ => bd (f ρ) fun ds => loopD g gb ds ρ
theorem s_for {iter : Expr} {body : List Stmt} {fs : En → R (List D)} {gg : D → En → Option En} {gb : En → R Fl} {own : List Nat} (hc : X.calm = true) (hi : PI X tg iter (tI C true fs)) (hg : PG X tg (tG C own gg)) (hb : PSs X body (tS C gb))
    (hp : PassesOwn (model X.prog X.w) X.A X.env X.xe) (hs : ∀ x, foldedSetIterable iter X.env x = pure x := by intro _; rfl) : PS X (.For tg iter body [] pos) (tS C (sFor fs gg gb)) :=
  (ps_for hp hc hi hg hb hs).mono fun T σ H ⟨ρ, F, r, q⟩ => by
    refine ⟨ρ, F, r, ?_⟩
    have q' : Post C T F (bd (fs ρ) fun ds => loopD gg gb ds ρ) := q
    cases hf : fs ρ with
    | bad => rw [hf] at q'; exact q'
    | err c => rw [hf] at q'; exact fun F' H' x s => r.err q' x s
    | ok ds =>
      rw [hf, bd_ok] at q'
      intro J F1 H1 x1 s1 it
      rw [if_pos rfl] at it
      refine ⟨fun i m σ H => m = ds.length - i ∧ i ≤ ds.length ∧ ∃ ρ F, Rel C ρ σ F H ∧ Same F1 F ∧ Post C T F1 (loopD gg gb (ds.drop i) ρ), ⟨_, rfl, Nat.zero_le _, ρ, F1, r.grow x1 s1, Same.refl _, Post.up q' x1.f⟩, ?_⟩
      rintro i m σ H ⟨rfl, hi, ρ, F, r, sf, q⟩
      obtain ⟨it1, it2⟩ := it i F H (jn_in (sf.trans r.sub) r.ext.h) sf r.sub
      by_cases hlt : i < ds.length
      · obtain ⟨go, y⟩ := it1 hlt
        have e : ds.drop i = ds[i] :: ds.drop (i + 1) := List.drop_eq_getElem_cons hlt
        rw [e] at q
        refine .inr ⟨go, fun σ' H' => ∃ ρ F, Rel C ρ σ' F H' ∧ Same F1 F ∧ Post C T F1 (loopD gg gb (ds.drop (i + 1)) ρ), fun σ' H' p2 => ⟨_, by omega, rfl, hlt, p2⟩, fun v H' yy => ?_⟩
        obtain ⟨F3, d, hd, x3, s3, w3⟩ := y v H' yy
        rw [List.getElem?_eq_getElem hlt] at hd
        cases hd
        refine ⟨ρ, F3, ds[i], r.grow x3 s3, w3, ?_⟩
        unfold loopD at q
        cases hgg : gg ds[i] ρ with
        | none => rw [hgg] at q; exact q
        | some ρ1 =>
          rw [hgg] at q
          have q2 : Post C T F1 (bd (gb ρ1) fun r => match r with
            | .next ρ' => loopD gg gb (ds.drop (i + 1)) ρ'
            | .cont ρ' => loopD gg gb (ds.drop (i + 1)) ρ'
            | .brk ρ' => .ok (.next ρ')
            | .ret o d => .ok (.ret o d)) := q
          intro σ2 _ r2
          refine ⟨ρ1, F3, r2, ?_⟩
          have s13 : Same F1 F3 := sf.trans x3.f
          cases hb : gb ρ1 with
          | bad => rw [hb] at q2; exact q2
          | err c => rw [hb] at q2; exact q2
          | ok fl =>
            rw [hb] at q2
            cases fl with
            | next ρ' => exact fun σ' F' H' s' r' => ⟨ρ', F', r', s13.trans s', q2⟩
            | cont ρ' => exact fun σ' F' H' s' r' => ⟨ρ', F', r', s13.trans s', q2⟩
            | brk ρ' => exact fun σ' F' H' s' r' => q2 σ' F' H' (s13.trans s') r'
            | ret o d => exact q2
      · have e : i = ds.length := by omega
        subst e
        rw [List.drop_length] at q
        exact .inl ⟨it2 rfl, q σ F H sf r⟩
/-! ### while -/
def whileD (t : En → R Bool) (gb : En → R Fl) : Nat → En → R Fl
  | 0, _ => .bad
  | n + 1, ρ => bd (t ρ) fun c => if c = true then bd (gb ρ) fun r => match r with
      | .next ρ' => whileD t gb n ρ'
      | .cont ρ' => whileD t gb n ρ'
      | .brk ρ' => .ok (.next ρ')
      | .ret o d => .ok (.ret o d)
    else .ok (.next ρ)
theorem s_while {body : List Stmt} {t : En → R Bool} {gb : En → R Fl} (n : Nat) (hc : PT X c (tT C t)) (hb : PSs X body (tS C gb)) (hp : PassesOwn (model X.prog X.w) X.A X.env X.xe) : PS X (.While c body [] pos) (tS C (whileD t gb n)) :=
  (ps_while hp hc hb).mono fun T σ H ⟨ρ, F, r, q⟩ => by
    refine ⟨fun m σ H => ∃ ρ F1, Rel C ρ σ F1 H ∧ Same F F1 ∧ Post C T F (whileD t gb m ρ), ⟨n, ρ, F, r, Same.refl _, q⟩, ?_⟩
    rintro m σ H ⟨ρ, F1, r, sf, q⟩
    refine ⟨ρ, F1, r, ?_⟩
    cases m with
    | zero => exact q.elim
    | succ m =>
      unfold whileD at q
      refine outT_of r (Post.up q sf) fun d F' H' hd q' sf' r' => ?_
      simp only [hd, bd_ok] at q
      cases d with
      | false =>
        rw [if_neg Bool.false_ne_true] at q ⊢
        exact q σ F' H' (sf.trans sf') r'
      | true =>
        rw [if_pos rfl] at q ⊢
        refine ⟨fun σ H => ∃ ρ F1, Rel C ρ σ F1 H ∧ Same F F1 ∧ Post C T F (whileD t gb m ρ), fun σ' H' z => ⟨m, Nat.lt_succ_self _, z⟩, ρ, F', r', ?_⟩
        have s13 := sf.trans sf'
        cases hb : gb ρ with
        | bad => rw [hb] at q; exact q
        | err c => rw [hb] at q; exact q
        | ok fl =>
          rw [hb] at q
          cases fl with
          | next ρ' => exact fun σ' F' H' s' r' => ⟨ρ', F', r', s13.trans s', q⟩
          | cont ρ' => exact fun σ' F' H' s' r' => ⟨ρ', F', r', s13.trans s', q⟩
          | brk ρ' => exact fun σ' F' H' s' r' => q σ' F' H' (s13.trans s') r'
          | ret o d => exact q
/-! ### comprehensions -/
/-- nothing is raised -/
def Cd.nox (C : Cd) : Cd := { C with XW := fun _ _ _ => False }
theorem Rel.nox {ρ : En} {σ : L2.St} {F H : Hp} (r : Rel C ρ σ F H) : Rel C.nox ρ σ F H := ⟨r.ext, r.sub, r.len, r.slot, r.ownF, r.apartF, r.lend⟩
theorem Rel.unnox {ρ : En} {σ : L2.St} {F H : Hp} (r : Rel C.nox ρ σ F H) : Rel C ρ σ F H := ⟨r.ext, r.sub, r.len, r.slot, r.ownF, r.apartF, r.lend⟩
def wipeR (ρ : En) : List Nat → En
  | [] => ρ
  | v :: vs => (wipeR ρ vs).set v none
theorem Rel.wipe {ρ : En} {σ : L2.St} {F H : Hp} (r : Rel C ρ σ F H) : ∀ own : List Nat, (own.all fun v => (C.ln v).isNone) = true → Rel C (wipeR ρ own) (L2.wipe σ own) F H
  | [], _ => r
  | v :: own, h => by
    rw [List.all_cons, Bool.and_eq_true] at h
    exact (Rel.wipe r own h.2).forget v none (by simpa using h.1)
/-- one item more, or not -/
def lcStep (g : D → En → Option En) (t : En → R Bool) (f : En → R D) (ρ : En) (d : D) : R (Option D) := match g d ρ with
  | none => .bad
  | some ρ1 => match t ρ1 with
    | .ok true => match f ρ1 with
      | .ok z => .ok (some z)
      | _ => .bad
    | .ok false => .ok none
    | _ => .bad
def lcGo (g : D → En → Option En) (t : En → R Bool) (f : En → R D) (ρ : En) : List D → R (List D)
  | [] => .ok []
  | d :: ds => bd (lcStep g t f ρ d) fun o => bd (lcGo g t f ρ ds) fun zs => .ok (match o with | some z => z :: zs | none => zs)
def lcD (own : List Nat) (fi : En → R (List D)) (g : D → En → Option En) (t : En → R Bool) (f : En → R D) : En → R D := fun ρ => bd (fi ρ) fun ds =>
  grd (decide (ds.length < sizeLine)) (bd (lcGo g t f (wipeR ρ own) ds) fun zs => .ok (.lst zs))
/-- a heap in which an untracked list has grown -/
theorem Rel.other {ρ : En} {σ : L2.St} {F H : Hp} {p : Addr} {o : HO} (r : Rel C ρ σ F H) (nf : F p = none) (n0 : C.H0 p = none) (ap : ∀ (j : Nat) (e : D) (b : Addr), ρ[j]? = some (some (true, e)) → σ[j]? = some (some (.ref b)) → p ∉ foot H b e) : Rel C ρ σ F (upd H p o) where
  ext := ⟨r.ext.f, fun b x h => by rw [upd_ne (ne_of_none h n0)]; exact r.ext.h b x h, r.ext.n⟩
  sub := same_upd2 r.sub nf
  len := r.len
  slot := r.slot
  ownF := fun i d e => by
    obtain ⟨a, q, n, nd, ow⟩ := r.ownF i d e
    have hp := ap i d a e q
    have hf : foot (upd H p o) a d = foot H a d := foot_same ow fun b hb => upd_ne fun (z : b = p) => hp (z ▸ hb)
    rw [← hf] at n nd
    refine ⟨a, q, n, nd, ow.at (Same.refl _) fun b hb u hu => ?_⟩
    rw [upd_ne (fun (z : b = p) => hp (z ▸ hb))]
    exact hu
  apartF := fun i j d e a b c h1 h2 h3 h4 h5 h6 => by
    have hp := ap i d a h1 h3
    have hp' := ap j e b h2 h4
    obtain ⟨a1, q1, _, _, w1⟩ := r.ownF i d h1
    rw [h3] at q1; cases q1
    obtain ⟨b1, q2, _, _, w2⟩ := r.ownF j e h2
    rw [h4] at q2; cases q2
    rw [foot_same w1 fun c hc => upd_ne fun (z : c = p) => hp (z ▸ hc)] at h5
    rw [foot_same w2 fun c hc => upd_ne fun (z : c = p) => hp' (z ▸ hc)] at h6
    exact r.apartF i j d e a b c h1 h2 h3 h4 h5 h6
  lend := r.lend
theorem lcStep_err {gg : D → En → Option En} {t : En → R Bool} {ρ : En} {d : D} {c : Str} : lcStep gg t f ρ d ≠ .err c := by
  unfold lcStep
  intro h
  split at h
  · cases h
  · split at h
    · split at h <;> cases h
    · cases h
    · cases h
theorem lcGo_err {gg : D → En → Option En} {t : En → R Bool} {ρ : En} {c : Str} : ∀ {ds : List D}, lcGo gg t f ρ ds ≠ .err c
  | [], h => by cases h
  | d :: ds, h => by
    unfold lcGo at h
    cases h1 : lcStep gg t f ρ d with
    | bad => rw [h1] at h; cases h
    | err c => exact lcStep_err h1
    | ok o =>
      rw [h1, bd_ok] at h
      cases h2 : lcGo gg t f ρ ds with
      | bad => rw [h2] at h; cases h
      | err c => exact lcGo_err h2
      | ok zs => rw [h2] at h; cases h
theorem lcGo_cons {gg : D → En → Option En} {t : En → R Bool} {ρ : En} {d : D} {ds zs : List D} (h : lcGo gg t f ρ (d :: ds) = .ok zs) : ∃ o ws, lcStep gg t f ρ d = .ok o ∧ lcGo gg t f ρ ds = .ok ws ∧ zs = (match o with | some z => z :: ws | none => ws) := by
  unfold lcGo at h
  cases h1 : lcStep gg t f ρ d with
  | bad => rw [h1] at h; cases h
  | err c => rw [h1] at h; cases h
  | ok o =>
    rw [h1, bd_ok] at h
    cases h2 : lcGo gg t f ρ ds with
    | bad => rw [h2] at h; cases h
    | err c => rw [h2] at h; cases h
    | ok ws => rw [h2] at h; cases h; exact ⟨o, ws, rfl, rfl, rfl⟩
/-- the reading of a comprehension -/
theorem lc_ok {st : Bool} {fi : En → R (List D)} {gg : D → En → Option En} {t : En → R Bool} {own : List Nat} (hln : (own.all fun v => (C.ln v).isNone) = true) : ∀ σ H Q, tO C (lcD own fi gg t f) σ H Q → tLc (tI C st fi) (tG C.nox own gg) (tT C.nox t) (tE C.nox f) own σ H Q := by
  rintro σ H Q ⟨ρ, F, r, q⟩
  refine ⟨ρ, F, r, ?_⟩
  unfold lcD at q
  cases hfi : fi ρ with
  | bad => rw [hfi] at q; exact q
  | err c => rw [hfi] at q; exact q
  | ok ds =>
    rw [hfi, bd_ok] at q
    intro J F1 H1 x1 s1 it
    replace it : IterOk C.K J H1 F1 ds := by
      cases st with
      | true => rw [if_pos rfl] at it; exact it.base (jn_in s1 (r.ext.h.trans x1.h))
      | false => rw [if_neg Bool.false_ne_true] at it; exact it
    obtain ⟨z, q⟩ := grd_out q
    have z := of_decide_eq_true z
    intro D hD
    cases hgo : lcGo gg t f (wipeR ρ own) ds with
    | bad => rw [hgo] at q; exact q.elim
    | err c => exact absurd hgo lcGo_err
    | ok all =>
      rw [hgo, bd_ok] at q
      have q := Out.later q x1
      have r1 := r.grow x1 s1
      have d0 : C.H0 D = none := r1.ext.h.free hD
      have fd : F1 D = none := s1.free hD
      have ap : ∀ H', Same H1 H' → ∀ (j : Nat) (e : DL.D) (b : Addr), ρ[j]? = some (some (true, e)) → σ[j]? = some (some (.ref b)) → D ∉ foot H' b e := fun H' s' j e b h1 h2 h3 => by
        obtain ⟨a, q1, _, _, o⟩ := r1.ownF j e h1
        rw [h2] at q1
        cases q1
        rw [foot_grow s' o] at h3
        obtain ⟨u, hu⟩ := o.foot D h3
        rw [hD] at hu
        cases hu
      refine ⟨fun i m H => m = ds.length - i ∧ i ≤ ds.length ∧ ∃ F2 acc zs ws, Rel C ρ σ F2 H ∧ Ext F1 H1 F2 H ∧ F2 D = none ∧ H D = some (.lst acc) ∧ Reps C.K F2 zs acc ∧ zs.length ≤ i ∧ lcGo gg t f (wipeR ρ own) (ds.drop i) = .ok ws ∧ all = zs ++ ws,
        ⟨_, rfl, Nat.zero_le _, F1, [], [], all, r1.other fd d0 (ap H1 (Same.refl _)), Ext.heap (same_upd hD), fd, upd_same, .nil, Nat.zero_le _, hgo, rfl⟩, ?_⟩
      rintro i m H2 ⟨rfl, hi, F2, acc, zs, ws, r2, x2, f2, h2, rz, lz, hw, ha⟩
      obtain ⟨it1, it2⟩ := it i F2 H2 x2.h x2.f r2.sub
      by_cases hlt : i < ds.length
      · obtain ⟨go, y⟩ := it1 hlt
        have e : ds.drop i = ds[i] :: ds.drop (i + 1) := List.drop_eq_getElem_cons hlt
        rw [e] at hw
        obtain ⟨o, ws', hs, hw', hz⟩ := lcGo_cons hw
        refine .inr ⟨go, fun H => ∃ F2 acc zs ws, Rel C ρ σ F2 H ∧ Ext F1 H1 F2 H ∧ F2 D = none ∧ H D = some (.lst acc) ∧ Reps C.K F2 zs acc ∧ zs.length ≤ i + 1 ∧ lcGo gg t f (wipeR ρ own) (ds.drop (i + 1)) = .ok ws ∧ all = zs ++ ws,
          fun H' p => ⟨_, by omega, rfl, hlt, p⟩, fun v H3 yy => ?_⟩
        obtain ⟨F3, d, hd, x3, s3, w3⟩ := y v H3 yy
        rw [List.getElem?_eq_getElem hlt] at hd
        cases hd
        have r3 := r2.grow x3 s3
        refine ⟨wipeR ρ own, F3, ds[i], (r3.nox).wipe own hln, w3, ?_⟩
        unfold lcStep at hs
        cases hgg : gg ds[i] (wipeR ρ own) with
        | none => rw [hgg] at hs; cases hs
        | some ρ1 =>
          rw [hgg] at hs
          intro σ4 e4 r4
          refine ⟨e4.trans (wipe_wipe own own σ fun _ h => h), ρ1, F3, r4, ?_⟩
          dsimp only at hs
          cases ht : t ρ1 with
          | bad => rw [ht] at hs; cases hs
          | err c => rw [ht] at hs; cases hs
          | ok b =>
            rw [ht] at hs
            intro F5 H5 x5 s5
            have x35 := x3.trans x5
            have hD5 : H5 D = some (.lst acc) := x35.h _ _ h2
            have fD5 : F5 D = none := x35.keepN h2 f2
            cases b with
            | false =>
              rw [if_neg Bool.false_ne_true]
              cases hs
              exact ⟨F5, acc, zs, ws', (r3.grow x5 s5), x2.trans x35, fD5, hD5, rz.mono x35.f, by omega, hw', by rw [ha, hz]⟩
            | true =>
              rw [if_pos rfl]
              refine ⟨ρ1, F5, r4.grow x5 s5, ?_⟩
              dsimp only at hs
              cases hf : f ρ1 with
              | bad => rw [hf] at hs; cases hs
              | err c => rw [hf] at hs; cases hs
              | ok zz =>
                rw [hf] at hs
                cases hs
                intro yv F6 H6 x6 s6 w6
                have x26 := x35.trans x6
                have hD6 : H6 D = some (.lst acc) := x26.h _ _ h2
                have fD6 : F6 D = none := x26.keepN h2 f2
                refine ⟨acc, hD6, by rw [rz.length]; omega, F6, acc ++ [yv], zs ++ [zz], ws', ((r3.grow x5 s5).grow x6 s6).other fD6 d0 (ap H6 (x2.trans x26).h), ?_, fD6, upd_same, (rz.mono x26.f).append (.cons w6 .nil), by rw [List.length_append]; exact Nat.succ_le_succ lz, hw', ?_⟩
                · have x16 := x2.trans x26
                  exact ⟨x16.f, fun b u h => by rw [upd_ne (ne_of_none h hD)]; exact x16.h b u h, x16.n⟩
                · rw [ha, hz, List.append_assoc]; rfl
      · have e : i = ds.length := by omega
        subst e
        rw [List.drop_length] at hw
        cases hw
        rw [List.append_nil] at ha
        subst ha
        refine .inl ⟨it2 rfl, q (.ref D) F2 H2 x2 r2.sub ⟨D, rfl, x1.h.free hD, f2, acc, h2, rz⟩⟩
theorem d_lc {st : Bool} {elt iter : Expr} {ifs : List Expr} {scope : Scope} {own : List (Str × Nat)} {fi : En → R (List D)} {gg : D → En → Option En} {t : En → R Bool} (hc : X.calm = true) (hN : X.N.Nodup) (hi : PI X tg iter (tI C st fi)) (ok : BlkOk X.N X.env.scope scope own)
    (hg : ∀ (s : Shared) (H : Hp) (A : Addr) (cl : List (Str × Addr)) (fp : List Addr), PG (X.blk s H scope (compEnvC scope cl A X.env) fp) tg (tG C.nox (own.map (·.2)) gg)) (ht : ∀ (s : Shared) (H : Hp) (A : Addr) (cl : List (Str × Addr)) (fp : List Addr), PTs (X.blk s H scope (compEnvC scope cl A X.env) fp) ifs (tT C.nox t))
    (he : ∀ (s : Shared) (H : Hp) (A : Addr) (cl : List (Str × Addr)) (fp : List Addr), PE (X.blk s H scope (compEnvC scope cl A X.env) fp) elt (tE C.nox f)) (hs : ∀ x, foldedSetIterable iter X.env x = pure x := by intro _; rfl) (hw : ((own.map (·.2)).all fun v => (C.ln v).isNone) = true := by rfl) :
    PE X (.ListComp elt [⟨tg, iter, ifs, 0⟩] scope pos) (tO C (lcD (own.map (·.2)) fi gg t f)) := (pe_lc hc hN hi ok hg ht he hs).mono (lc_ok hw)
/-- name = [..] -/
theorem s_setLc {i : Nat} {y : Str} {py : Pos} {spos : Pos} {st : Bool} {elt iter : Expr} {ifs : List Expr} {scope : Scope} {own : List (Str × Nat)} {fi : En → R (List D)} {gg : D → En → Option En} {t : En → R Bool} (hc : X.calm = true) (hN : X.N.Nodup) (hi : PI X tg iter (tI C st fi)) (ok : BlkOk X.N X.env.scope scope own)
    (hg : ∀ (s : Shared) (H : Hp) (A : Addr) (cl : List (Str × Addr)) (fp : List Addr), PG (X.blk s H scope (compEnvC scope cl A X.env) fp) tg (tG C.nox (own.map (·.2)) gg)) (ht : ∀ (s : Shared) (H : Hp) (A : Addr) (cl : List (Str × Addr)) (fp : List Addr), PTs (X.blk s H scope (compEnvC scope cl A X.env) fp) ifs (tT C.nox t))
    (he : ∀ (s : Shared) (H : Hp) (A : Addr) (cl : List (Str × Addr)) (fp : List Addr), PE (X.blk s H scope (compEnvC scope cl A X.env) fp) elt (tE C.nox f))
    (hsw : swapsWith (.ListComp elt [⟨tg, iter, ifs, 0⟩] scope pos) (some (.Name y py)) spos.line X.env = pure true) (hy : X.N[i]? = some y := by rfl) (hyl : X.env.scope.names.lookup y = some .local := by rfl) (hs : ∀ x, foldedSetIterable iter X.env x = pure x := by intro _; rfl) (hw : ((own.map (·.2)).all fun v => (C.ln v).isNone) = true := by rfl) (hl : C.ln i = none := by rfl) :
    PS X (.Assign [.Name y py] (.ListComp elt [⟨tg, iter, ifs, 0⟩] scope pos) spos) (tS C (sSetO i (lcD (own.map (·.2)) fi gg t f))) :=
  (ps_setLc hc hN hy hyl hsw hi ok hg ht he hs).mono fun T σ H ⟨ρ, F, r, q⟩ => lc_ok hw σ H _ ⟨ρ, F, r, out_of r q fun d v F' H' _ q x s r' w => q _ F' H' (Same.refl _) (r'.setN (r.old x.h) (fun a h => r.ext.h.free h) w hl)⟩
def tYesD : En → R Bool := fun _ => .ok true
theorem ts_nil {C : Cd} : PTs X [] (tT C tYesD) := ⟨fun pins s σ H Q I h => pts_nil.run pins s σ H Q I (by
  obtain ⟨ρ, F, r, q⟩ := h
  exact q F H (Ext.refl _ _) r.sub)⟩
theorem ts_one {C : Cd} {t : En → R Bool} (h : PT X c (tT C t)) : PTs X [c] (tT C t) := pts_one h
end
end DL
/-! the D layer: membership, dicts, methods that change, built-ins, defs -/
namespace DL
open PySem PySem.Spec PyProof.Rows L2
section
variable {X : Cx} {C : Cd} {e a b c tg : Expr} {f g k : En → R D} {pos p : Pos} {st : Stmt} {rest : List Stmt} {s1 s2 : En → R Fl} {K : PySem.W.Frag} {F H : Hp}
/-! ### look-up -/
def lkD {κ : Type} [DecidableEq κ] (kds : List (κ × D)) (q : κ) : Option D := (kds.find? fun kv => decide (kv.1 = q)).map (·.2)
def putD {κ : Type} [DecidableEq κ] (kds : List (κ × D)) (q : κ) (v : D) : List (κ × D) :=
  if (kds.any fun kv => decide (kv.1 = q)) = true then kds.map (fun kv => if kv.1 = q then (kv.1, v) else kv) else kds ++ [(q, v)]
theorem RepK.look {q : Key} : ∀ {kds : List (Key × D)} {kvs : List (Key × V)}, RepK K F kds kvs → (∃ d v, lkD kds q = some d ∧ valV kvs q = some v ∧ Rep K F d v) ∨ (lkD kds q = none ∧ valV kvs q = none)
  | _, _, .nil => .inr ⟨rfl, rfl⟩
  | _, _, .cons (k := k) (d := d) (v := v) (ds := ds) (vs := vs) r t => by
    by_cases h : k = q
    · refine .inl ⟨d, v, ?_, ?_, r⟩
      · unfold lkD; rw [List.find?_cons_of_pos (by simpa using h)]; rfl
      · unfold valV; rw [List.find?_cons_of_pos (by simpa using h)]; rfl
    · have e1 : lkD ((k, d) :: ds) q = lkD ds q := by unfold lkD; rw [List.find?_cons_of_neg (by simpa using h)]
      have e2 : valV ((k, v) :: vs) q = valV vs q := by unfold valV; rw [List.find?_cons_of_neg (by simpa using h)]
      rw [e1, e2]
      exact RepK.look t
theorem RepT.look {q : List Key} : ∀ {kds : List (List Key × D)} {kvs : List (List Key × V)}, RepT K F kds kvs → (∃ d v, lkD kds q = some d ∧ valV kvs q = some v ∧ Rep K F d v) ∨ (lkD kds q = none ∧ valV kvs q = none)
  | _, _, .nil => .inr ⟨rfl, rfl⟩
  | _, _, .cons (k := k) (d := d) (v := v) (ds := ds) (vs := vs) r t => by
    by_cases h : k = q
    · refine .inl ⟨d, v, ?_, ?_, r⟩
      · unfold lkD; rw [List.find?_cons_of_pos (by simpa using h)]; rfl
      · unfold valV; rw [List.find?_cons_of_pos (by simpa using h)]; rfl
    · have e1 : lkD ((k, d) :: ds) q = lkD ds q := by unfold lkD; rw [List.find?_cons_of_neg (by simpa using h)]
      have e2 : valV ((k, v) :: vs) q = valV vs q := by unfold valV; rw [List.find?_cons_of_neg (by simpa using h)]
      rw [e1, e2]
      exact RepT.look t
theorem RepK.any {q : Key} : ∀ {kds : List (Key × D)} {kvs : List (Key × V)}, RepK K F kds kvs → (kds.any fun kv => decide (kv.1 = q)) = (kvs.any fun kv => decide (kv.1 = q))
  | _, _, .nil => rfl
  | _, _, .cons r t => by rw [List.any_cons, List.any_cons, RepK.any t]
theorem RepT.any {q : List Key} : ∀ {kds : List (List Key × D)} {kvs : List (List Key × V)}, RepT K F kds kvs → (kds.any fun kv => decide (kv.1 = q)) = (kvs.any fun kv => decide (kv.1 = q))
  | _, _, .nil => rfl
  | _, _, .cons r t => by rw [List.any_cons, List.any_cons, RepT.any t]
theorem RepK.app : ∀ {kds kes : List (Key × D)} {kvs kws : List (Key × V)}, RepK K F kds kvs → RepK K F kes kws → RepK K F (kds ++ kes) (kvs ++ kws)
  | _, _, _, _, .nil, s => s
  | _, _, _, _, .cons r t, s => .cons r (RepK.app t s)
theorem RepT.app : ∀ {kds kes : List (List Key × D)} {kvs kws : List (List Key × V)}, RepT K F kds kvs → RepT K F kes kws → RepT K F (kds ++ kes) (kvs ++ kws)
  | _, _, _, _, .nil, s => s
  | _, _, _, _, .cons r t, s => .cons r (RepT.app t s)
theorem RepK.map {q : Key} {d : D} {v : V} (w : Rep K F d v) : ∀ {kds : List (Key × D)} {kvs : List (Key × V)}, RepK K F kds kvs → RepK K F (kds.map fun kv => if kv.1 = q then (kv.1, d) else kv) (kvs.map fun kv => if kv.1 = q then (kv.1, v) else kv)
  | _, _, .nil => .nil
  | _, _, .cons (k := k) r t => by
    rw [List.map_cons, List.map_cons]
    by_cases h : k = q
    · simp only [h, if_true]; exact .cons w (RepK.map w t)
    · simp only [h, if_false]; exact .cons r (RepK.map w t)
theorem RepT.map {q : List Key} {d : D} {v : V} (w : Rep K F d v) : ∀ {kds : List (List Key × D)} {kvs : List (List Key × V)}, RepT K F kds kvs → RepT K F (kds.map fun kv => if kv.1 = q then (kv.1, d) else kv) (kvs.map fun kv => if kv.1 = q then (kv.1, v) else kv)
  | _, _, .nil => .nil
  | _, _, .cons (k := k) r t => by
    rw [List.map_cons, List.map_cons]
    by_cases h : k = q
    · simp only [h, if_true]; exact .cons w (RepT.map w t)
    · simp only [h, if_false]; exact .cons r (RepT.map w t)
theorem RepK.put {q : Key} {d : D} {v : V} (w : Rep K F d v) {kds : List (Key × D)} {kvs : List (Key × V)} (r : RepK K F kds kvs) : RepK K F (putD kds q d) (putK kvs q v) := by
  unfold putD putK
  rw [r.any]
  split
  · exact RepK.map w r
  · exact r.app (.cons w .nil)
theorem RepT.put {q : List Key} {d : D} {v : V} (w : Rep K F d v) {kds : List (List Key × D)} {kvs : List (List Key × V)} (r : RepT K F kds kvs) : RepT K F (putD kds q d) (putK kvs q v) := by
  unfold putD putK
  rw [r.any]
  split
  · exact RepT.map w r
  · exact r.app (.cons w .nil)
theorem RepT.length : ∀ {ds : List (List Key × D)} {vs : List (List Key × V)}, RepT K F ds vs → vs.length = ds.length
  | _, _, .nil => rfl
  | _, _, .cons _ t => congrArg (· + 1) (RepT.length t)
/-! ### keys -/
def keyD : D → Option Key
  | .int i => some (.inl i)
  | .str x => some (.inr x)
  | _ => none
theorem View.key {d : D} {v : V} {q : Key} (w : View K F H d v) (h : keyD d = some q) : v = kV q := by
  cases d with
  | int i => cases h; exact w
  | str i => cases h; exact w
  | _ => cases h
theorem Rep.key {d : D} {v : V} {q : Key} (w : Rep K F d v) (h : keyD d = some q) : v = kV q := by
  cases w with
  | int i => cases h; rfl
  | str i => cases h; rfl
  | _ => cases h
def keysD : List D → Option (List Key)
  | [] => some []
  | d :: ds => (keyD d).bind fun q => (keysD ds).map (q :: ·)
theorem Reps.keys : ∀ {ds : List D} {vs : List V} {qs : List Key}, Reps K F ds vs → keysD ds = some qs → vs = qs.map kV
  | _, _, _, .nil, h => by cases h; rfl
  | _, _, _, .cons (d := d) (ds := ds) r t, h => by
    unfold keysD at h
    cases h1 : keyD d with
    | none => rw [h1] at h; cases h
    | some q =>
      rw [h1] at h
      cases h2 : keysD ds with
      | none => rw [h2] at h; cases h
      | some qs => rw [h2] at h; cases h; rw [r.key h1, Reps.keys t h2]; rfl
def keyT : D → Option (List Key)
  | .tup ds => keysD ds
  | _ => none
theorem View.keyT {d : D} {v : V} {q : List Key} (w : View K F H d v) (h : DL.keyT d = some q) : ∃ b, v = .ref b ∧ H b = some (.tup (q.map kV)) := by
  cases d with
  | tup ds =>
    obtain ⟨b, vs, rfl, h1, r⟩ := w
    refine ⟨b, rfl, ?_⟩
    rw [h1, Reps.keys r h]
  | _ => cases h
/-- what a dict has at a key -/
def dGet? : D → D → Option (Option D)
  | .dK kds, q => (keyD q).map (lkD kds)
  | .dT kds, q => (keyT q).map (lkD kds)
  | _, _ => none
theorem get_ok {d q : D} {x y : V} {o : Option D} (h : dGet? d q = some o) (w1 : View K F H d x) (w2 : View K F H q y) : ∃ a ov, x = .ref a ∧ DGet H a y ov ∧ ((∃ z v, o = some z ∧ ov = some v ∧ Rep K F z v) ∨ (o = none ∧ ov = none)) := by
  cases d with
  | dK kds =>
    obtain ⟨a, kvs, rfl, hr, r⟩ := w1
    have h' : (keyD q).map (lkD kds) = some o := h
    cases hk : keyD q with
    | none => rw [hk] at h'; cases h'
    | some kk =>
      rw [hk] at h'
      cases h'
      refine ⟨a, valV kvs kk, rfl, .inl ⟨kvs, kk, hr, w2.key hk, rfl⟩, ?_⟩
      rcases RepK.look (q := kk) r with ⟨z, v, e1, e2, rr⟩ | ⟨e1, e2⟩
      · exact .inl ⟨z, v, e1, e2, rr⟩
      · exact .inr ⟨e1, e2⟩
  | dT kds =>
    obtain ⟨a, kvs, rfl, hr, r⟩ := w1
    have h' : (keyT q).map (lkD kds) = some o := h
    cases hk : keyT q with
    | none => rw [hk] at h'; cases h'
    | some kk =>
      rw [hk] at h'
      cases h'
      obtain ⟨bb, e, hb⟩ := w2.keyT hk
      refine ⟨a, valV kvs kk, rfl, .inr ⟨kvs, kk, bb, hr, e, hb, rfl⟩, ?_⟩
      rcases RepT.look (q := kk) r with ⟨z, v, e1, e2, rr⟩ | ⟨e1, e2⟩
      · exact .inl ⟨z, v, e1, e2, rr⟩
      · exact .inr ⟨e1, e2⟩
  | _ => cases h
/-! ### in -/
def isFlat : D → Bool
  | .non => true
  | .bl _ => true
  | .int _ => true
  | .str _ => true
  | _ => false
def eqF : D → D → Bool
  | .non, .non => true
  | .bl a, .bl b => a == b
  | .bl a, .int b => (if a then 1 else 0) == b
  | .int a, .bl b => a == (if b then 1 else 0)
  | .int a, .int b => a == b
  | .str a, .str b => a == b
  | _, _ => false
theorem Rep.flatV {d : D} {v : V} (w : Rep K F d v) (h : isFlat d = true) : L2.flatV v = true := by
  cases w <;> first | rfl | cases h
theorem View.rep {d : D} {v : V} (w : View K F H d v) (h : isFlat d = true) : Rep K F d v := by
  cases d with
  | non => cases w; exact .non
  | bl b => cases w; exact .bl b
  | int b => cases w; exact .int b
  | str b => cases w; exact .str b
  | _ => cases h
theorem Rep.eqF {d e : D} {v u : V} (w : Rep K F d v) (w' : Rep K F e u) (h : isFlat d = true) (h' : isFlat e = true) : DL.eqF d e = eqV v u := by
  cases w <;> first | (cases h; done) | (cases w' <;> first | (cases h'; done) | rfl)
theorem Reps.flats : ∀ {ds : List D} {vs : List V}, Reps K F ds vs → ds.all isFlat = true → vs.all L2.flatV = true
  | _, _, .nil, _ => rfl
  | _, _, .cons r t, h => by
    rw [List.all_cons, Bool.and_eq_true] at h ⊢
    exact ⟨r.flatV h.1, Reps.flats t h.2⟩
theorem Reps.inF {x : D} {v : V} (w : Rep K F x v) (hx : isFlat x = true) : ∀ {ds : List D} {vs : List V}, Reps K F ds vs → ds.all isFlat = true → (ds.any fun y => DL.eqF y x) = inV v vs
  | _, _, .nil, _ => rfl
  | _, _, .cons r t, h => by
    rw [List.all_cons, Bool.and_eq_true] at h
    unfold inV
    rw [List.any_cons, List.any_cons, r.eqF w h.1 hx, Reps.inF w hx t h.2]
    rfl
def inSeq (neg : Bool) (x : D) (ds : List D) : R D := if (isFlat x && ds.all isFlat) = true then .ok (.bl (xorB neg (ds.any fun y => eqF y x))) else match py x, pys ds with
  | some p, some ps => grd (SeqAt.shaped p && SeqAt.shaped (.list ps)) (.ok (.bl (xorB neg (ps.any fun z => PyData.eqv z p))))
  | _, _ => .bad
def inTup (neg : Bool) (x : D) (ds : List D) : R D := grd (isFlat x && ds.all isFlat) (.ok (.bl (xorB neg (ds.any fun y => eqF y x))))
def inStr (neg : Bool) (x z : Str) : R D := match x.cps.toList with
  | [c] => .ok (.bl (xorB neg (decide (c ∈ z.cps.toList))))
  | _ => .ok (.bl (xorB neg (!(Builtin.Str.occurrences z x 0 z.length 1).isEmpty)))
def dIn (neg : Bool) (x : D) : D → R D
  | .lst ds => inSeq neg x ds
  | .scr ns => inSeq neg x (ns.map .int)
  | .tup ds => inTup neg x ds
  | .str z => match x with | .str y => inStr neg y z | _ => .bad
  | .dK kds => match dGet? (.dK kds) x with | some o => .ok (.bl (xorB neg o.isSome)) | none => .bad
  | .dT kds => match dGet? (.dT kds) x with | some o => .ok (.bl (xorB neg o.isSome)) | none => .bad
  | _ => .bad
def rInAll (K : PySem.W.Frag) (neg : Bool) : R2 := fun x y H Q => rIn K neg x y H Q ∨ (∃ d ds, Dp K H x d ∧ Dp K H y (.list ds) ∧ SeqAt.shaped d = true ∧ SeqAt.shaped (.list ds) = true ∧ Q (.bl (xorB neg (ds.any fun z => PyData.eqv z d))) H) ∨
  (∃ (c : Nat) (z : Str), x = .str ⟨#[c]⟩ ∧ y = .str z ∧ Q (.bl (xorB neg (decide (c ∈ z.cps.toList)))) H) ∨ (∃ i j, x = .str i ∧ y = .str j ∧ Q (.bl (xorB neg (!(Builtin.Str.occurrences j i 0 j.length 1).isEmpty))) H) ∨
  (∃ a o, y = .ref a ∧ DGet H a x o ∧ Q (.bl (xorB neg o.isSome)) H)
theorem op_inAll (hu : X.A.units + 65 < cLine) : OpR X (compareOp .In) (rInAll X.K false) := by
  refine OpR.or op_in_seq (OpR.or (op_inD hu) (OpR.or op_in_sign (OpR.or op_in_str ?_)))
  intro pins s σ H x y v u Q I rx ry h
  obtain ⟨a, o, rfl, g, q⟩ := h
  cases ry
  exact d_in (by omega) I g rx fun s' I' => ⟨.bl _, H, I', rfl, q⟩
theorem op_notInAll (hu : X.A.units + 65 < cLine) : OpR X (compareOp .NotIn) (rInAll X.K true) := by
  refine OpR.or op_notIn_seq (OpR.or (op_notInD hu) (OpR.or op_notIn_sign (OpR.or op_notin_str ?_)))
  intro pins s σ H x y v u Q I rx ry h
  obtain ⟨a, o, rfl, g, q⟩ := h
  cases ry
  exact d_notIn (by omega) I g rx fun s' I' => ⟨.bl _, H, I', rfl, q⟩
theorem xor_if (neg b : Bool) : (if neg = true then !b else b) = xorB neg b := by cases neg <;> rfl
theorem in_ok (neg : Bool) : Op2 C (rInAll C.K neg) (dIn neg) := by
  intro σ F H Q d e x y o s w1 w2
  have seq : ∀ (p : Addr) (ds : List D) (vs : List V), y = .ref p → SqL C.K H p vs → Reps C.K F ds vs → Out C σ F H (fun F' H' => New C.K H F' H') (inSeq neg d ds) Q → (∀ ps, pys ds = some ps → Dp C.K H y (.list ps)) → rInAll C.K neg x y H Q := by
    intro p ds vs ey hq r o hdp
    unfold inSeq at o
    split at o
    · rename_i hf
      rw [Bool.and_eq_true] at hf
      refine .inl ⟨p, vs, ey, .inl hq, (w1.rep hf.1).flatV hf.1, r.flats hf.2, ?_⟩
      rw [xor_if, ← Reps.inF (w1.rep hf.1) hf.1 r hf.2]
      exact fin_flat o s rfl
    · split at o
      · rename_i pp ps hp hps
        obtain ⟨z, o⟩ := grd_out o
        rw [Bool.and_eq_true] at z
        exact .inr (.inl ⟨pp, ps, w1.dp s hp, hdp ps hps, z.1, z.2, fin_flat o s rfl⟩)
      · exact o.elim
  cases e with
  | lst ds =>
    obtain ⟨p, vs, ey, hq, r⟩ := w2
    exact seq p ds vs ey (SqL.of hq) r o fun ps hps => by rw [ey]; exact .lst (SqL.of hq) (Reps.dp s r hps)
  | scr ns =>
    obtain ⟨p, ey, hq⟩ := w2
    refine seq p _ _ ey hq (Reps.of_ints ns) o fun ps hps => ?_
    have : ∀ ns : List Int, pys (ns.map D.int) = some (ns.map PyData.int) := fun ns => by
      induction ns with
      | nil => rfl
      | cons n ns ih => simp only [List.map_cons]; unfold pys; rw [ih]; rfl
    rw [this] at hps
    cases hps
    rw [ey]
    exact .lst hq (dp_ints ns)
  | tup ds =>
    obtain ⟨p, vs, ey, hq, r⟩ := w2
    obtain ⟨hf, o⟩ := grd_out o
    rw [Bool.and_eq_true] at hf
    refine .inl ⟨p, vs, ey, .inr (SqT.of hq), (w1.rep hf.1).flatV hf.1, r.flats hf.2, ?_⟩
    rw [xor_if, ← Reps.inF (w1.rep hf.1) hf.1 r hf.2]
    exact fin_flat o s rfl
  | str z =>
    cases d with
    | str i =>
      obtain rfl : x = .str i := w1
      obtain rfl : y = .str z := w2
      have o' : Out C σ F H (fun F' H' => New C.K H F' H') (inStr neg i z) Q := o
      unfold inStr at o'
      split at o'
      · rename_i c hc
        refine .inr (.inr (.inl ⟨c, z, ?_, rfl, fin_flat o' s rfl⟩))
        rw [show i = ⟨#[c]⟩ by
          cases i with
          | mk cps =>
            congr 1
            exact Array.ext' hc]
      · exact .inr (.inr (.inr (.inl ⟨i, z, rfl, rfl, fin_flat o' s rfl⟩)))
    | _ => exact o.elim
  | dK kds =>
    have o' : Out C σ F H (fun F' H' => New C.K H F' H') (match dGet? (.dK kds) d with | some o => .ok (.bl (xorB neg o.isSome)) | none => .bad) Q := o
    cases hg : dGet? (.dK kds) d with
    | none => rw [hg] at o'; exact o'.elim
    | some oo =>
      rw [hg] at o'
      obtain ⟨a, ov, ey, g, hh⟩ := get_ok hg w2 w1
      refine .inr (.inr (.inr (.inr ⟨a, ov, ey, g, ?_⟩)))
      have e : ov.isSome = oo.isSome := by
        rcases hh with ⟨_, _, rfl, rfl, _⟩ | ⟨rfl, rfl⟩ <;> rfl
      rw [e]
      exact fin_flat o' s rfl
  | dT kds =>
    have o' : Out C σ F H (fun F' H' => New C.K H F' H') (match dGet? (.dT kds) d with | some o => .ok (.bl (xorB neg o.isSome)) | none => .bad) Q := o
    cases hg : dGet? (.dT kds) d with
    | none => rw [hg] at o'; exact o'.elim
    | some oo =>
      rw [hg] at o'
      obtain ⟨a, ov, ey, g, hh⟩ := get_ok hg w2 w1
      refine .inr (.inr (.inr (.inr ⟨a, ov, ey, g, ?_⟩)))
      have e : ov.isSome = oo.isSome := by
        rcases hh with ⟨_, _, rfl, rfl, _⟩ | ⟨rfl, rfl⟩ <;> rfl
      rw [e]
      exact fin_flat o' s rfl
  | _ => exact o.elim
/-! ### subscripts of all kinds -/
def dIxA (d q : D) : R D := match dGet? d q with
  | some (some z) => .ok z
  | some none => .bad
  | none => dIx d q
theorem d_ixA (hC : X.K = C.K) (hu : X.A.units + 1 < cLine) (ha : PE X a (tR C f)) (hb : PE X b (tR C g)) (hs : PlainIx b := by exact fun _ _ => rfl) : PE X (.Subscript a b pos) (tE C (bop f g dIxA)) :=
  (PE.or (pe_ix (hC ▸ ix_seq) ha hb hs) (pe_dget hu ha hb hs)).mono (by
    rintro σ H Q ⟨ρ, F, rl, q⟩
    unfold bop at q
    cases hf : f ρ with
    | bad => simp only [hf, bd_bad] at q; exact q.elim
    | err c => simp only [hf, bd_err] at q; exact .inl ⟨ρ, F, rl, by rw [hf]; exact q⟩
    | ok d =>
      simp only [hf, bd_ok] at q
      cases hg : g ρ with
      | bad => simp only [hg, bd_bad] at q; exact q.elim
      | err c =>
        simp only [hg, bd_err] at q
        refine .inl ⟨ρ, F, rl, ?_⟩
        rw [hf]
        exact fun v F1 H1 x1 s1 w1 => ⟨ρ, F1, rl.grow x1 s1, by rw [hg]; exact Out.later q x1⟩
      | ok z =>
        simp only [hg, bd_ok] at q
        cases hq : dGet? d z with
        | none =>
          unfold dIxA at q
          rw [hq] at q
          refine .inl ⟨ρ, F, rl, ?_⟩
          rw [hf]
          intro v F1 H1 x1 s1 w1
          refine ⟨ρ, F1, rl.grow x1 s1, ?_⟩
          rw [hg]
          intro y F2 H2 x2 s2 w2
          exact ix_ok (Out.later (Out.later q x1) x2) s2 (w1.mono x2.f x2.h) w2
        | some oo =>
          unfold dIxA at q
          rw [hq] at q
          cases oo with
          | none => exact q.elim
          | some zz =>
            refine .inr ⟨ρ, F, rl, ?_⟩
            rw [hf]
            intro v F1 H1 x1 s1 w1
            refine ⟨ρ, F1, rl.grow x1 s1, ?_⟩
            rw [hg]
            intro y F2 H2 x2 s2 w2
            obtain ⟨aa, ov, e1, gg, hh⟩ := get_ok hq (w1.mono x2.f x2.h) w2
            rcases hh with ⟨z', v', e2, rfl, rr⟩ | ⟨e2, _⟩
            · cases e2
              exact ⟨aa, v', e1, gg, q v' F2 H2 (x1.trans x2) s2 rr⟩
            · cases e2)
end
end DL
/-! the D layer: what changes a container, built-ins, defs -/
namespace DL
open PySem PySem.Spec PyProof.Rows L2
section
variable {X : Cx} {C : Cd} {e a b c tg : Expr} {f g k : En → R D} {pos p apos cpos : Pos} {st : Stmt} {rest : List Stmt} {s1 s2 : En → R Fl} {K : PySem.W.Frag} {F H : Hp}
/-! ### dict displays -/
theorem d_dictK : PE X (.Dict [] [] pos) (tO C (cst (.dK []))) := pe_dnewK.mono fun σ H Q ⟨ρ, F, r, q⟩ => fun p hp => fin_dK q r.sub (Same.refl _) .nil hp
theorem d_dictT : PE X (.Dict [] [] pos) (tO C (cst (.dT []))) := pe_dnewT.mono fun σ H Q ⟨ρ, F, r, q⟩ => fun p hp => fin_dT q r.sub (Same.refl _) .nil hp
/-- d.get(k, x) -/
def dGet2 (d q x : D) : R D := match dGet? d q with
  | some o => .ok (o.getD x)
  | none => .bad
def isDD : D → Bool
  | .dK _ => true
  | .dT _ => true
  | _ => false
theorem view_isD {d : D} {x : V} (h : isDD d = true) (w : View K F H d x) : ∃ a, x = .ref a ∧ IsD H a := by
  cases d with
  | dK ds => obtain ⟨a, vs, rfl, r, _⟩ := w; exact ⟨a, rfl, .inl ⟨vs, r⟩⟩
  | dT ds => obtain ⟨a, vs, rfl, r, _⟩ := w; exact ⟨a, rfl, .inr ⟨vs, r⟩⟩
  | _ => cases h
theorem d_get2 (hu : X.A.units + 1 < cLine) (ha : PE X a (tR C f)) (hb : PE X b (tR C g)) (hc : PE X c (tE C k)) (m : M2 X a "get" apos b c cpos := by exact ⟨rfl, rfl, rfl, rfl⟩) :
    PE X (.Call (.Attribute a "get" apos) [b, c] [] cpos) (tE C (fun ρ => bd (f ρ) fun d => grd (isDD d) (bd (g ρ) fun q => bd (k ρ) fun x => dGet2 d q x))) :=
  (pe_dget2 hu ha hb hc m).mono (by
    rintro σ H Q ⟨ρ, F, rl, q⟩
    refine ⟨ρ, F, rl, q.fst fun d v F1 H1 _ q x1 s1 w1 => ?_⟩
    obtain ⟨hd, q⟩ := grd_out q
    obtain ⟨aa, e1, hI⟩ := view_isD hd w1
    refine ⟨aa, e1, hI, ρ, F1, rl.grow x1 s1, (Out.later q x1).fst fun z y F2 H2 _ q x2 s2 w2 => ?_⟩
    refine ⟨ρ, F2, (rl.grow x1 s1).grow x2 s2, (Out.later q x2).fst fun z2 y2 F3 H3 _ q x3 s3 w3 => ?_⟩
    have q := Out.later q x3
    unfold dGet2 at q
    cases hq : dGet? d z with
    | none => rw [hq] at q; exact q.elim
    | some oo =>
      rw [hq] at q
      have x23 := x2.trans x3
      obtain ⟨a', ov, e2, gg, hh⟩ := get_ok hq (w1.mono x23.f x23.h) (w2.mono x3.f x3.h)
      rw [e1] at e2
      cases e2
      refine ⟨ov, gg, ?_⟩
      rcases hh with ⟨z', v', rfl, rfl, rr⟩ | ⟨rfl, rfl⟩
      · exact q v' F3 H3 (Ext.refl _ _) s3 rr
      · exact q y2 F3 H3 (Ext.refl _ _) s3 w3)
/-! ### what changes a container of one's own -/
/-- an expression statement, its value dropped -/
def sDrop (f : En → R D) : En → R Fl := fun ρ => bd (f ρ) fun _ => .ok (.next ρ)
theorem s_drop (he : PE X e (tR C f)) (hs : swapsWith e none pos.line X.env = pure false := by rfl) : PS X (.Expr e pos) (tS C (sDrop f)) := (ps_expr he hs).mono fun T σ H ⟨ρ, F, r, q⟩ => ⟨ρ, F, r, out_of r q fun d v F' H' _ q x s r w => q σ F' H' (Same.refl _) r⟩
/-- x.append(e) -/
def sAppend (i : Nat) (f : En → R D) : En → R Fl := fun ρ => match ρ[i]? with
  | some (some (true, .lst ds)) => bd (f ρ) fun z => grd (decide (ds.length < sizeLine)) (.ok (.next (ρ.set i (some (true, .lst (ds ++ [z]))))))
  | _ => .bad
theorem grd_post {T : Ends} {B : Hp} {c : Bool} {x : R Fl} (q : Post C T B (grd c x)) : c = true ∧ Post C T B x := by
  cases c with
  | true => exact ⟨rfl, q⟩
  | false => exact q.elim
theorem s_append {i : Nat} (ho : PE X a (tVar i)) (he : PE X e (tE C f))
    (hbase : attributeBase a "append" X.env (eval a X.env) = eval a X.env := by rfl)
    (hfew : ((backTo cpos (starEach [e] X.env)).all (fun x => !x.1) && (backToKw cpos (keywordEach [] X.env)).all (fun x => x.1.isSome)
      && decide (([e] : List Expr).length + ([] : List Keyword).length + (if ([] : List Keyword).isEmpty then 0 else 1) < 30)) = true := by rfl)
    (hline : (apos.endLine == cpos.line) = true := by rfl) (hs : starEach [e] X.env = (false, eval e X.env) :: starEach [] X.env := by rfl) (hplain : (backTo cpos (starEach [] X.env)).any (·.1) = false := by rfl)
    (hsw : swapsWith (.Call (.Attribute a "append" apos) [e] [] cpos) none pos.line X.env = pure false := by rfl) : PS X (.Expr (.Call (.Attribute a "append" apos) [e] [] cpos) pos) (tS C (sAppend i f)) :=
  (ps_expr (pe_bm PySem.F.plainAttrs_list PySem.F.slot_list_append PySem.F.type_list_append mt_append ho (pa_cons he pa_nil hs) hbase hfew hline hs hplain) hsw).mono fun T σ H ⟨ρ, F, r, q⟩ => by
    unfold sAppend at q
    split at q
    · rename_i ds hd
      obtain ⟨l, hl, n, n0, vs, h1, r1⟩ := r.own i _ hd
      refine ⟨_, hl, .inl ⟨rfl, _, SqL.of h1⟩, ρ, F, r, out_of r q fun z v F' H' _ q x s r' w => ?_⟩
      obtain ⟨hlen, q⟩ := grd_post q
      refine ⟨l, vs, v, rfl, rfl, x.h _ _ h1, by rw [r1.length]; exact of_decide_eq_true hlen, ?_⟩
      exact q σ F' _ (Same.refl _) (r'.write hd hl ⟨_, upd_same, (r1.mono x.f).append (.cons w .nil)⟩)
    · exact q.elim
/-- x.extend(ys) -/
def sExtend (i : Nat) (f : En → R D) : En → R Fl := fun ρ => match ρ[i]? with
  | some (some (true, .lst ds)) => bd (f ρ) fun z => match z with | .lst es => grd (small (ds.length + es.length)) (.ok (.next (ρ.set i (some (true, .lst (ds ++ es)))))) | _ => .bad
  | _ => .bad
theorem s_extend {i : Nat} (ho : PE X a (tVar i)) (he : PE X e (tR C f))
    (hbase : attributeBase a "extend" X.env (eval a X.env) = eval a X.env := by rfl)
    (hfew : ((backTo cpos (starEach [e] X.env)).all (fun x => !x.1) && (backToKw cpos (keywordEach [] X.env)).all (fun x => x.1.isSome)
      && decide (([e] : List Expr).length + ([] : List Keyword).length + (if ([] : List Keyword).isEmpty then 0 else 1) < 30)) = true := by rfl)
    (hline : (apos.endLine == cpos.line) = true := by rfl) (hs : starEach [e] X.env = (false, eval e X.env) :: starEach [] X.env := by rfl) (hplain : (backTo cpos (starEach [] X.env)).any (·.1) = false := by rfl)
    (hsw : swapsWith (.Call (.Attribute a "extend" apos) [e] [] cpos) none pos.line X.env = pure false := by rfl) : PS X (.Expr (.Call (.Attribute a "extend" apos) [e] [] cpos) pos) (tS C (sExtend i f)) :=
  (ps_expr (pe_bm PySem.F.plainAttrs_list PySem.F.slot_list_extend PySem.F.type_list_extend mt_extend ho (pa_cons he pa_nil hs) hbase hfew hline hs hplain) hsw).mono fun T σ H ⟨ρ, F, r, q⟩ => by
    unfold sExtend at q
    split at q
    · rename_i ds hd
      obtain ⟨l, hl, n, n0, vs, h1, r1⟩ := r.own i _ hd
      refine ⟨_, hl, .inl ⟨rfl, _, SqL.of h1⟩, ρ, F, r, out_of r q fun z v F' H' _ q x s r' w => ?_⟩
      cases z with
      | lst es =>
        obtain ⟨hlen, q⟩ := grd_post q
        obtain ⟨b, ws, rfl, h2, r2⟩ := w
        refine ⟨l, b, vs, ws, rfl, rfl, x.h _ _ h1, h2, by rw [r1.length, r2.length]; exact of_decide_eq_true hlen, ?_⟩
        exact q σ F' _ (Same.refl _) (r'.write hd hl ⟨_, upd_same, (r1.mono x.f).append r2⟩)
      | _ => exact q.elim
    · exact q.elim
/-- x.clear(), x.reverse() of a list -/
def sOwn0 (i : Nat) (w : List D → List D) : En → R Fl := fun ρ => match ρ[i]? with
  | some (some (true, .lst ds)) => .ok (.next (ρ.set i (some (true, .lst (w ds)))))
  | _ => .bad
theorem s_clear {i : Nat} (ho : PE X a (tVar i))
    (hbase : attributeBase a "clear" X.env (eval a X.env) = eval a X.env := by rfl) (hline : (apos.endLine == cpos.line) = true := by rfl)
    (hsw : swapsWith (.Call (.Attribute a "clear" apos) [] [] cpos) none pos.line X.env = pure false := by rfl) : PS X (.Expr (.Call (.Attribute a "clear" apos) [] [] cpos) pos) (tS C (sOwn0 i fun _ => [])) :=
  (ps_expr (pe_bm0 PySem.F.plainAttrs_list PySem.F.slot_list_clear PySem.F.type_list_clear mt_clear ho hbase hline) hsw).mono fun T σ H ⟨ρ, F, r, q⟩ => by
    unfold sOwn0 at q
    split at q
    · rename_i ds hd
      obtain ⟨l, hl, n, n0, vs, h1, r1⟩ := r.own i _ hd
      exact ⟨_, hl, .inl ⟨rfl, _, SqL.of h1⟩, l, vs, rfl, rfl, h1, q σ F _ (Same.refl _) (r.write hd hl ⟨_, upd_same, .nil⟩)⟩
    · exact q.elim
theorem s_reverse {i : Nat} (ho : PE X a (tVar i))
    (hbase : attributeBase a "reverse" X.env (eval a X.env) = eval a X.env := by rfl) (hline : (apos.endLine == cpos.line) = true := by rfl)
    (hsw : swapsWith (.Call (.Attribute a "reverse" apos) [] [] cpos) none pos.line X.env = pure false := by rfl) : PS X (.Expr (.Call (.Attribute a "reverse" apos) [] [] cpos) pos) (tS C (sOwn0 i List.reverse)) :=
  (ps_expr (pe_bm0 PySem.F.plainAttrs_list PySem.F.slot_list_reverse PySem.F.type_list_reverse mt_reverse ho hbase hline) hsw).mono fun T σ H ⟨ρ, F, r, q⟩ => by
    unfold sOwn0 at q
    split at q
    · rename_i ds hd
      obtain ⟨l, hl, n, n0, vs, h1, r1⟩ := r.own i _ hd
      exact ⟨_, hl, .inl ⟨rfl, _, SqL.of h1⟩, l, vs, rfl, rfl, h1, q σ F _ (Same.refl _) (r.write hd hl ⟨_, upd_same, r1.reverse⟩)⟩
    · exact q.elim
/-- x[k] = v -/
def putA (d q v : D) : R D := match d with
  | .lst ds => match q with
    | .int j => match ixN ds.length j with | some n => .ok (.lst (ds.set n v)) | none => .bad
    | _ => .bad
  | .dK kds => match keyD q with | some kk => grd (decide (kds.length < sizeLine)) (.ok (.dK (putD kds kk v))) | none => .bad
  | .dT kds => match keyT q with | some kk => grd (decide (kds.length < sizeLine)) (.ok (.dT (putD kds kk v))) | none => .bad
  | _ => .bad
def sPut (i : Nat) (f g : En → R D) : En → R Fl := fun ρ => match ρ[i]? with
  | some (some (true, d)) => bd (f ρ) fun v => bd (g ρ) fun q => bd (putA d q v) fun d' => .ok (.next (ρ.set i (some (true, d'))))
  | _ => .bad
theorem _root_.L2.PS.or {X : Cx} {e : Stmt} {t t' : TS} (h : PS X e t) (h' : PS X e t') : PS X e (fun T σ H => t T σ H ∨ t' T σ H) := ⟨fun pins s σ H D I q => by
  rcases q with q | q
  · exact h.run pins s σ H D I q
  · exact h'.run pins s σ H D I q⟩
theorem s_put {i : Nat} {pos' : Pos} (hu : X.A.units + 1 < cLine) (ho : PE X a (tVar i)) (hv : PE X e (tE C f)) (hi : PE X b (tR C g)) (hs : swapsWith e (some (.Subscript a b pos')) pos.line X.env = pure false := by rfl)
    (ha : ∀ v, assign (.Subscript a b pos') X.env v = (do
      let ov ← holding [v] (eval a X.env)
      let iv ← holding [v, ov] (eval b X.env)
      standAt pos'
      holding [v, ov, iv] (setItem ov iv v)
      release [v, ov, iv] []) := by intro _; rfl)
    (hs' : swapsWithSole [.Subscript a b pos'] e pos.line X.env = pure false := by rfl) (hw : swappedStores [.Subscript a b pos'] e X.env = pure none := by rfl)
    (h1 : (assignEach [.Subscript a b pos'] X.env).map (·.2) = [assign (.Subscript a b pos') X.env] := by rfl) : PS X (.Assign [.Subscript a b pos'] e pos) (tS C (sPut i f g)) :=
  (PS.or (ps_dput hu ho hi hv hs) (ps_asg hv (pg_sub ho hi set_list ha) hs' hw h1)).mono fun T σ H ⟨ρ, F, r, q⟩ => by
    unfold sPut at q
    split at q
    · rename_i d hd
      obtain ⟨l, hl, n, n0, o⟩ := r.own i d hd
      cases d with
      | lst ds =>
        refine .inr ⟨ρ, F, r, out_of r q fun v xv F1 H1 _ q x1 s1 r1 w1 => ?_⟩
        refine ⟨_, hl, ρ, F1, r1, out_of r1 q fun z xz F2 H2 _ q x2 s2 r2 w2 => ?_⟩
        obtain ⟨vs, h1, rr⟩ := o
        cases z with
        | int jj =>
          have q' : Post C T F2 (bd (match ixN ds.length jj with | some n => .ok (.lst (ds.set n v)) | none => .bad) fun d' => .ok (.next (ρ.set i (some (true, d'))))) := q
          cases hx : ixN ds.length jj with
          | none => rw [hx] at q'; exact q'.elim
          | some m =>
            rw [hx] at q'
            have x12 := x1.trans x2
            obtain rfl : xz = .int jj := w2
            refine ⟨l, vs, jj, m, rfl, rfl, x12.h _ _ h1, by rw [rr.length]; exact hx, ?_⟩
            exact q' σ F2 _ (Same.refl _) (r2.write hd hl ⟨_, upd_same, (rr.mono x12.f).set (w1.mono x2.f) _⟩)
        | _ => exact q.elim
      | dK kds =>
        refine .inl ⟨ρ, F, r, out_of r q fun v xv F1 H1 _ q x1 s1 r1 w1 => ?_⟩
        refine ⟨_, hl, ρ, F1, r1, out_of r1 q fun z xz F2 H2 _ q x2 s2 r2 w2 => ?_⟩
        obtain ⟨vs, h1, rr⟩ := o
        have q' : Post C T F2 (bd (match keyD z with | some kk => grd (decide (kds.length < sizeLine)) (.ok (.dK (putD kds kk v))) | none => .bad) fun d' => .ok (.next (ρ.set i (some (true, d'))))) := q
        cases hx : keyD z with
        | none => rw [hx] at q'; exact q'.elim
        | some kk =>
          rw [hx] at q'
          have x12 := x1.trans x2
          cases hlen : decide (kds.length < sizeLine) with
          | false => simp only [hlen, grd_f, bd_bad] at q'; exact q'.elim
          | true =>
            simp only [hlen, grd_t, bd_ok] at q'
            refine ⟨l, _, rfl, .inl ⟨vs, kk, x12.h _ _ h1, w2.key hx, by rw [rr.length]; exact of_decide_eq_true hlen, rfl⟩, ?_⟩
            exact q' σ F2 _ (Same.refl _) (r2.write hd hl ⟨_, upd_same, (rr.mono x12.f).put (w1.mono x2.f)⟩)
      | dT kds =>
        refine .inl ⟨ρ, F, r, out_of r q fun v xv F1 H1 _ q x1 s1 r1 w1 => ?_⟩
        refine ⟨_, hl, ρ, F1, r1, out_of r1 q fun z xz F2 H2 _ q x2 s2 r2 w2 => ?_⟩
        obtain ⟨vs, h1, rr⟩ := o
        have q' : Post C T F2 (bd (match keyT z with | some kk => grd (decide (kds.length < sizeLine)) (.ok (.dT (putD kds kk v))) | none => .bad) fun d' => .ok (.next (ρ.set i (some (true, d'))))) := q
        cases hx : keyT z with
        | none => rw [hx] at q'; exact q'.elim
        | some kk =>
          rw [hx] at q'
          have x12 := x1.trans x2
          cases hlen : decide (kds.length < sizeLine) with
          | false => simp only [hlen, grd_f, bd_bad] at q'; exact q'.elim
          | true =>
            simp only [hlen, grd_t, bd_ok] at q'
            obtain ⟨bb, e, hb⟩ := w2.keyT hx
            refine ⟨l, _, rfl, .inr ⟨vs, kk, bb, x12.h _ _ h1, e, hb, by rw [rr.length]; exact of_decide_eq_true hlen, rfl⟩, ?_⟩
            exact q' σ F2 _ (Same.refl _) (r2.write hd hl ⟨_, upd_same, (rr.mono x12.f).put (w1.mono x2.f)⟩)
      | rows rs =>
        refine .inl ⟨ρ, F, r, out_of r q fun v xv F1 H1 _ q x1 s1 r1 w1 => ?_⟩
        exact ⟨_, hl, ρ, F1, r1, out_of r1 q fun z xz F2 H2 _ q x2 s2 r2 w2 => q.elim⟩
      | deep d =>
        refine .inl ⟨ρ, F, r, out_of r q fun v xv F1 H1 _ q x1 s1 r1 w1 => ?_⟩
        exact ⟨_, hl, ρ, F1, r1, out_of r1 q fun z xz F2 H2 _ q x2 s2 r2 w2 => q.elim⟩
      | _ => exact o.elim
    · exact q.elim
/-! ### calls of built-in types and functions -/
/-- a key as a value -/
def kyD : Key → D
  | .inl i => .int i
  | .inr z => .str z
theorem RepK.keys : ∀ {kds : List (Key × D)} {kvs : List (Key × V)}, RepK K F kds kvs → Reps K F (kds.map fun kv => kyD kv.1) (kvs.map fun kv => kV kv.1)
  | _, _, .nil => .nil
  | _, _, .cons (k := .inl i) _ t => .cons (.int i) (RepK.keys t)
  | _, _, .cons (k := .inr i) _ t => .cons (.str i) (RepK.keys t)
def dList : List D → R D
  | [.lst ds] => .ok (.lst ds)
  | [.tup ds] => .ok (.lst ds)
  | [.scr ns] => .ok (.lst (ns.map .int))
  | [.dK kvs] => .ok (.lst (kvs.map fun kv => kyD kv.1))
  | _ => .bad
theorem list_ok : OpL C (fun xs H Q => (∃ p ys, xs = [.ref p] ∧ (SqL C.K H p ys ∨ SqT C.K H p ys) ∧ ∀ l, H l = none → Q (.ref l) (upd H l (.lst ys))) ∨ ∃ (a : Addr) (kvs : List (Key × V)), xs = [.ref a] ∧ Rd H a (.dK kvs) ∧ ∀ p, H p = none → Q (.ref p) (upd H p (.lst (kvs.map fun kv => kV kv.1)))) dList := by
  intro σ F H Q ds vs o s w
  unfold dList at o
  split at o
  · obtain ⟨v, rfl, p, vs, rfl, h, r⟩ := w.one
    exact .inl ⟨p, vs, rfl, .inl (SqL.of h), fun l hl => fin_lst o s (Same.refl _) r hl⟩
  · obtain ⟨v, rfl, p, vs, rfl, h, r⟩ := w.one
    exact .inl ⟨p, vs, rfl, .inr (SqT.of h), fun l hl => fin_lst o s (Same.refl _) r hl⟩
  · obtain ⟨v, rfl, p, rfl, h⟩ := w.one
    exact .inl ⟨p, _, rfl, .inl h, fun l hl => fin_lst o s (Same.refl _) (Reps.of_ints _) hl⟩
  · obtain ⟨v, rfl, p, vs, rfl, h, r⟩ := w.one
    exact .inr ⟨p, vs, rfl, h, fun l hl => fin_lst o s (Same.refl _) (RepK.keys r) hl⟩
  · exact o.elim
def dTuple : List D → R D
  | [.lst ds] => .ok (.tup ds)
  | [.scr ns] => .ok (.tup (ns.map .int))
  | _ => .bad
theorem tuple_ok : OpL C (fun xs H Q => ∃ a ys, xs = [.ref a] ∧ ((SqL C.K H a ys ∧ ∀ l, H l = none → Q (.ref l) (upd H l (.tup ys))) ∨ (SqT C.K H a ys ∧ Q (.ref a) H))) dTuple := by
  intro σ F H Q ds vs o s w
  unfold dTuple at o
  split at o
  · obtain ⟨v, rfl, p, vs, rfl, h, r⟩ := w.one
    exact ⟨p, vs, rfl, .inl ⟨SqL.of h, fun l hl => fin_tup o s r hl⟩⟩
  · obtain ⟨v, rfl, p, rfl, h⟩ := w.one
    exact ⟨p, _, rfl, .inl ⟨h, fun l hl => fin_tup o s (Reps.of_ints _) hl⟩⟩
  · exact o.elim
def dStr : List D → R D
  | [.int i] => grd (decide (i.natAbs.log2 < 1920)) (.ok (.str (toString i)))
  | _ => .bad
theorem str_ok : OpL C (fun xs H Q => ∃ i, xs = [.int i] ∧ i.natAbs.log2 < 1920 ∧ Q (.str (toString i)) H) dStr := by
  intro σ F H Q ds vs o s w
  unfold dStr at o
  split at o
  · obtain ⟨z, o⟩ := grd_out o
    obtain ⟨v, rfl, h⟩ := w.one
    cases h
    exact ⟨_, rfl, of_decide_eq_true z, fin_flat o s rfl⟩
  · exact o.elim
def asInts : List D → Option (List Int)
  | [] => some []
  | .int i :: ds => (asInts ds).map (i :: ·)
  | _ :: _ => none
theorem asInts_map : ∀ ns : List Int, asInts (ns.map .int) = some ns
  | [] => rfl
  | n :: ns => by simp only [List.map_cons]; unfold asInts; rw [asInts_map ns]; rfl
theorem Reps.asInts : ∀ {ds : List D} {vs : List V} {ns : List Int}, Reps K F ds vs → DL.asInts ds = some ns → vs = ns.map V.int
  | _, _, _, .nil, h => by cases h; rfl
  | _, _, _, .cons (ds := ds) (.int i) t, h => by
    unfold DL.asInts at h
    cases h2 : DL.asInts ds with
    | none => rw [h2] at h; cases h
    | some ns => rw [h2] at h; cases h; rw [Reps.asInts t h2]; rfl
  | _, _, _, .cons .non t, h => by cases h
  | _, _, _, .cons (.bl _) t, h => by cases h
  | _, _, _, .cons (.str _) t, h => by cases h
  | _, _, _, .cons (.lst _ _) t, h => by cases h
  | _, _, _, .cons (.scr _) t, h => by cases h
  | _, _, _, .cons (.tup _ _) t, h => by cases h
  | _, _, _, .cons (.dK _ _) t, h => by cases h
  | _, _, _, .cons (.dT _ _) t, h => by cases h
  | _, _, _, .cons (.ref _) t, h => by cases h
/-- ints in order -/
def srt (ns : List Int) : List Int := ns.mergeSort (fun a b => decide (a ≤ b))
theorem srt_perm (ns : List Int) : (srt ns).Perm ns := List.mergeSort_perm _ _
theorem srt_sorted (ns : List Int) : (srt ns).Pairwise (· ≤ ·) := by
  have h := List.pairwise_mergeSort (le := fun a b : Int => decide (a ≤ b)) (fun a b c h1 h2 => by
    simp only [decide_eq_true_eq] at *
    omega) (fun a b => by
    simp only [Bool.or_eq_true, decide_eq_true_eq]
    omega) ns
  exact h.imp fun h => by simpa using h
theorem srt_of {ns ms : List Int} (p : ms.Perm ns) (s : ms.Pairwise (· ≤ ·)) : ms = srt ns := PySem.W.ksm_same (p.trans (srt_perm ns).symm) s (srt_sorted ns)
def asStrs : List D → Option (List Str)
  | [] => some []
  | .str i :: ds => (asStrs ds).map (i :: ·)
  | _ :: _ => none
theorem asStrs_map : ∀ ns : List Str, asStrs (ns.map .str) = some ns
  | [] => rfl
  | n :: ns => by simp only [List.map_cons]; unfold asStrs; rw [asStrs_map ns]; rfl
theorem Reps.asStrs : ∀ {ds : List D} {vs : List V} {ns : List Str}, Reps K F ds vs → DL.asStrs ds = some ns → vs = ns.map V.str
  | _, _, _, .nil, h => by cases h; rfl
  | _, _, _, .cons (ds := ds) (.str i) t, h => by
    unfold DL.asStrs at h
    cases h2 : DL.asStrs ds with
    | none => rw [h2] at h; cases h
    | some ns => rw [h2] at h; cases h; rw [Reps.asStrs t h2]; rfl
  | _, _, _, .cons .non t, h => by cases h
  | _, _, _, .cons (.bl _) t, h => by cases h
  | _, _, _, .cons (.int _) t, h => by cases h
  | _, _, _, .cons (.lst _ _) t, h => by cases h
  | _, _, _, .cons (.scr _) t, h => by cases h
  | _, _, _, .cons (.tup _ _) t, h => by cases h
  | _, _, _, .cons (.dK _ _) t, h => by cases h
  | _, _, _, .cons (.dT _ _) t, h => by cases h
  | _, _, _, .cons (.ref _) t, h => by cases h
/-- texts in order -/
def leT (a b : Str) : Bool := decide (a.cps.toList ≤ b.cps.toList)
def srtT (ns : List Str) : List Str := ns.mergeSort leT
theorem srtT_perm (ns : List Str) : (srtT ns).Perm ns := List.mergeSort_perm _ _
theorem leT_trans (a b c : Str) (h1 : leT a b = true) (h2 : leT b c = true) : leT a c = true := by
  unfold leT at *
  exact decide_eq_true (List.le_trans (of_decide_eq_true h1) (of_decide_eq_true h2))
theorem leT_total (a b : Str) : (leT a b || leT b a) = true := by
  unfold leT
  rcases List.le_total a.cps.toList b.cps.toList with h | h
  · rw [decide_eq_true h]; rfl
  · rw [decide_eq_true h, Bool.or_true]
theorem leT_anti (a b : Str) (h1 : leT a b = true) (h2 : leT b a = true) : a = b := by
  unfold leT at *
  have := List.le_antisymm (of_decide_eq_true h1) (of_decide_eq_true h2)
  obtain ⟨⟨a⟩⟩ := a
  obtain ⟨⟨b⟩⟩ := b
  cases this
  rfl
theorem srtT_sorted (ns : List Str) : (srtT ns).Pairwise fun a b => leT a b = true := List.pairwise_mergeSort leT_trans leT_total ns
theorem srtT_of {ns ms : List Str} (p : ms.Perm ns) (s : ms.Pairwise fun a b => leT a b = true) : ms = srtT ns :=
  (p.trans (srtT_perm ns).symm).eq_of_pairwise (fun a b _ _ h1 h2 => leT_anti a b h1 h2) s (srtT_sorted ns)
theorem leT_lt {a b : Str} (h : ltCps b.cps.toList a.cps.toList = false) : leT a b = true := by
  unfold leT
  rw [ltCps_eq] at h
  exact decide_eq_true (of_decide_eq_false h)
theorem risingS_pw : ∀ (p : Str) (l : List Str), risingS p l = true → (p :: l).Pairwise fun a b => leT a b = true
  | p, [], _ => List.pairwise_singleton _ _
  | p, x :: r, h => by
    unfold risingS at h
    rw [Bool.and_eq_true] at h
    have h1 := leT_lt (a := p) (b := x) (by simpa using h.1)
    have h2 := risingS_pw x r h.2
    refine List.pairwise_cons.mpr ⟨fun y hy => ?_, h2⟩
    rcases List.mem_cons.mp hy with rfl | hy
    · exact h1
    · exact leT_trans _ _ _ h1 ((List.pairwise_cons.mp h2).1 y hy)
theorem sortedS_pw : ∀ (l : List Str), sortedS l = true → l.Pairwise fun a b => leT a b = true
  | [], _ => .nil
  | x :: r, h => risingS_pw x r h
def dSorted : List D → R D
  | [.lst ds] => match asInts ds with | some ns => .ok (.lst ((srt ns).map .int)) | none => match asStrs ds with | some ss => grd (decide (ss.length < 64)) (.ok (.lst ((srtT ss).map .str))) | none => .bad
  | [.tup ds] => .bad
  | [.scr ns] => .ok (.lst ((srt ns).map .int))
  | [.dK kvs] => match asInts (kvs.map fun kv => kyD kv.1) with | some ns => grd (decide (ns.length < 64)) (.ok (.lst ((srt ns).map .int))) | none => .bad
  | _ => .bad
theorem keys_ints : ∀ {kds : List (Key × D)} {kvs : List (Key × V)} {ns : List Int}, RepK K F kds kvs → asInts (kds.map fun kv => kyD kv.1) = some ns → kvs.map (·.1) = ns.map Sum.inl
  | _, _, _, .nil, h => by cases h; rfl
  | _, _, ns, .cons (k := .inl i) (ds := kds) _ t, h => by
    have h : (asInts (kds.map fun kv => kyD kv.1)).map (i :: ·) = some ns := h
    cases hq : asInts (kds.map fun kv => kyD kv.1) with
    | none => rw [hq] at h; cases h
    | some ms =>
      rw [hq] at h
      cases h
      rw [List.map_cons, keys_ints t hq]; rfl
  | _, _, _, .cons (k := .inr i) _ t, h => by cases h
theorem sorted_ok : OpL C (fun vs H Q => (rSortedI C.K vs H Q ∨ rSortedS C.K vs H Q) ∨ ∃ (a : Addr) (kvs : List (Key × V)) (ks : List Int), vs = [.ref a] ∧ Rd H a (.dK kvs) ∧ kvs.map (·.1) = ks.map Sum.inl ∧ ks.length < 64 ∧
    ∀ (ys : List Int) (p : Addr), ys.Perm ks → ys.Pairwise (· ≤ ·) → H p = none → Q (.ref p) (upd H p (.lst (ys.map V.int)))) dSorted := by
  intro σ F H Q ds vs o s w
  unfold dSorted at o
  split at o
  · rename_i ds
    obtain ⟨v, rfl, p, vs, rfl, h, r⟩ := w.one
    split at o
    · rename_i ns hn
      refine .inl (.inl ⟨p, ns, rfl, by rw [← Reps.asInts r hn]; exact SqL.of h, fun ns' l hp hs hl => ?_⟩)
      rw [srt_of hp hs]
      exact fin_lst o s (Same.refl _) (Reps.of_ints _) hl
    · split at o
      · rename_i ss hn
        obtain ⟨z, o⟩ := grd_out o
        refine .inl (.inr ⟨p, ss, rfl, by rw [← Reps.asStrs r hn]; exact SqL.of h, of_decide_eq_true z, fun ns' l hp hs hl => ?_⟩)
        rw [srtT_of hp (sortedS_pw _ hs)]
        exact fin_lst o s (Same.refl _) (Reps.of_strs _) hl
      · exact o.elim
  · exact o.elim
  · obtain ⟨v, rfl, p, rfl, h⟩ := w.one
    refine .inl (.inl ⟨p, _, rfl, h, fun ns' l hp hs hl => ?_⟩)
    rw [srt_of hp hs]
    exact fin_lst o s (Same.refl _) (Reps.of_ints _) hl
  · obtain ⟨v, rfl, p, vs, rfl, h, r⟩ := w.one
    split at o
    · rename_i ns hn
      obtain ⟨z, o⟩ := grd_out o
      refine .inr ⟨p, vs, ns, rfl, h, keys_ints r hn, of_decide_eq_true z, fun ys l hp hs hl => ?_⟩
      rw [srt_of hp hs]
      exact fin_lst o s (Same.refl _) (Reps.of_ints _) hl
    · exact o.elim
  · exact o.elim
end
end DL
/-! the D layer: isinstance, defs and their calls -/
namespace DL
open PySem PySem.Spec PyProof.Rows L2
section
variable {X : Cx} {C : Cd} {e a b c tg : Expr} {f g k : En → R D} {pos p apos cpos : Pos} {st : Stmt} {rest : List Stmt} {s1 s2 : En → R Fl} {K : PySem.W.Frag} {F H : Hp}
/-! ### isinstance -/
def tyN : D → String
  | .non => "NoneType"
  | .bl _ => "bool"
  | .int _ => "int"
  | .str _ => "str"
  | .lst _ => "list"
  | .tup _ => "tuple"
  | .dK _ => "dict"
  | .rows _ => "list"
  | _ => ""
def isB (T : String) (d : D) : Bool := tyN d == T || (T == "int" && tyN d == "bool")
def isiD (T : String) : D → R D
  | .dT _ => .bad
  | .scr _ => .bad
  | .ref _ => .bad
  | .exn _ => .bad
  | .deep _ => .bad
  | .junk _ => .bad
  | d => .ok (.bl (isB T d))
def kitAll (T : String) : Bool := ["NoneType", "bool", "int", "str", "list", "tuple", "dict"].all fun n => kitB n T == some (n == T || (T == "int" && n == "bool"))
theorem kitAll_of {T : String} (h : kitAll T = true) {n : String} (hn : n ∈ ["NoneType", "bool", "int", "str", "list", "tuple", "dict"]) : PySem.W.kitOne K (.type n) (.type T) = some (n == T || (T == "int" && n == "bool")) := by
  have := List.all_eq_true.mp h n hn
  exact kit_ty (by simpa using this)
theorem View.ty {d : D} {x : V} (w : View K F H d x) (h : tyN d ≠ "") : TyX K H x (.type (tyN d)) := by
  cases d with
  | non => cases w; exact .base .non
  | bl b => cases w; exact .base (.bl _)
  | int b => cases w; exact .base (.int _)
  | str b => cases w; exact .base (.str _)
  | lst ds => obtain ⟨p, vs, rfl, h, _⟩ := w; exact .base (.lst h)
  | tup ds => obtain ⟨p, vs, rfl, h, _⟩ := w; exact .base (.tup h)
  | dK ds =>
    obtain ⟨p, vs, rfl, h, _⟩ := w
    rcases h with h | ⟨o, h⟩
    · exact .base (.dK h)
    · exact .fDict h
  | rows ds => obtain ⟨p, vs, rfl, h, _⟩ := w; exact .base (.lst h)
  | _ => exact absurd rfl h
theorem d_isi {n : String} (hC : X.K = C.K) (ha : PE X a (tR C f)) (hb : PE X b (tC (.ty n))) (hk : kitAll n = true) (hm : X.mg "isinstance" = none) (hg : Gl X "isinstance" := by rfl)
    (hs2 : starEach [b] X.env = (false, eval b X.env) :: starEach [] X.env := by rfl)
    (he : starEach [a, b] X.env = (false, eval a X.env) :: starEach [b] X.env := by rfl) (hpl : (backTo pos (starEach [b] X.env)).any (·.1) = false := by rfl) :
    PE X (.Call (.Name "isinstance" p) [a, b] [] pos) (tO C (uop f (isiD n))) :=
  (pe_callB call_isi hg hm (by decide +kernel) (pa_cons ha (pa_cons hb pa_nil hs2) he) (by decide) (by decide) he hpl).mono (by
    rintro σ H Q ⟨ρ, F, rl, q⟩
    refine ⟨ρ, F, rl, q.fst fun d v F1 H1 _ q x1 s1 w1 => ?_⟩
    have q := Out.later q x1
    rw [hC]
    have fin : isiD n d = .ok (.bl (isB n d)) → tyN d ∈ ["NoneType", "bool", "int", "str", "list", "tuple", "dict"] → rIsi C.K [v, .ty n] H1 Q := fun e hd => by
      rw [e] at q
      refine ⟨v, .ty n, _, _, _, rfl, .ty n, w1.ty (fun z => by rw [z] at hd; revert hd; decide), kitAll_of hk hd, fin_flat q s1 rfl⟩
    cases d with
    | non => exact fin rfl (by decide)
    | bl b => exact fin rfl (by show "bool" ∈ _; decide)
    | int b => exact fin rfl (by show "int" ∈ _; decide)
    | str b => exact fin rfl (by show "str" ∈ _; decide)
    | lst b => exact fin rfl (by show "list" ∈ _; decide)
    | tup b => exact fin rfl (by show "tuple" ∈ _; decide)
    | dK b => exact fin rfl (by show "dict" ∈ _; decide)
    | rows b => exact fin rfl (by show "list" ∈ _; decide)
    | _ => exact q.elim)
/-! ### defs -/
abbrev Den := List D → R (Bool × D)
/-- a def's promise: what den tells; cls: where an error's class stands -/
def spD (K : PySem.W.Frag) (cls : Str → Addr) (n : Nat) (den : Den) : Sp := fun vs H Q E => vs.length = n ∧ ∃ F ds, Same F H ∧ Reps K F ds vs ∧ match den ds with
  | .ok (o, d) => ∀ v F' H', Ext F H F' H' → Same F' H' → (if o = true then New K H F' H' d v else Rep K F' d v) → Q v H'
  | .err c => ∀ F' H', Ext F H F' H' → Same F' H' → E (.ref (cls c)) none H'
  | .bad => False
/-- the values of the parameters, then the other names -/
def args (N : Nat) (ds : List D) : En := ds.map (fun d => some (false, d)) ++ List.replicate (N - ds.length) none
def endD : R Fl → R (Bool × D)
  | .ok (.next _) => .ok (false, .non)
  | .ok (.ret o d) => .ok (o, d)
  | .ok _ => .bad
  | .err c => .err c
  | .bad => .bad
def bodyD (n N : Nat) (g : En → R Fl) : Den := fun ds => if ds.length = n then endD (g (args N ds)) else .bad
/-- .. where nothing is raised -/
def noE {α : Type} : R α → R α
  | .err _ => .bad
  | x => x
def bodyN (n N : Nat) (g : En → R Fl) : Den := fun ds => if ds.length = n then endD (noE (g (args N ds))) else .bad
theorem bodyD_len {n N : Nat} {g : En → R Fl} : ∀ ds, bodyD n N g ds ≠ .bad → ds.length = n := fun ds h => by
  unfold bodyD at h
  split at h
  · assumption
  · exact absurd rfl h
theorem bodyN_len {n N : Nat} {g : En → R Fl} : ∀ ds, bodyN n N g ds ≠ .bad → ds.length = n := fun ds h => by
  unfold bodyN at h
  split at h
  · assumption
  · exact absurd rfl h
theorem args_rel {K : PySem.W.Frag} {F H : Hp} {N : List Str} {ds : List D} {vs : List V} {XW : Str → L2.St → Hp → Prop} (s : Same F H) (r : Reps K F ds vs) : Rel ⟨K, F, H, XW, fun _ => none, []⟩ (args N.length ds) (L2.start N vs) F H where
  lend := fun _ _ _ h => nomatch h
  ext := Ext.refl _ _
  sub := s
  len := by
    unfold args L2.start
    simp only [List.length_append, List.length_map, List.length_replicate, r.length]
  slot := fun i d h => by
    unfold args at h
    unfold L2.start
    by_cases hi : i < ds.length
    · rw [List.getElem?_append_left (by rw [List.length_map]; exact hi), List.getElem?_map] at h
      cases hd : ds[i]? with
      | none => rw [hd] at h; cases h
      | some d' =>
        rw [hd] at h
        cases h
        obtain ⟨v, hv, w⟩ := r.get hd
        refine ⟨v, ?_, w⟩
        rw [List.getElem?_append_left (by rw [List.length_map, r.length]; exact hi), List.getElem?_map, hv]
        rfl
    · rw [List.getElem?_append_right (by rw [List.length_map]; omega), List.getElem?_replicate] at h
      split at h <;> cases h
  ownF := fun i d h => by
    unfold args at h
    by_cases hi : i < ds.length
    · rw [List.getElem?_append_left (by rw [List.length_map]; exact hi), List.getElem?_map] at h
      cases hd : ds[i]? with
      | none => rw [hd] at h; cases h
      | some d' => rw [hd] at h; cases h
    · rw [List.getElem?_append_right (by rw [List.length_map]; omega), List.getElem?_replicate] at h
      split at h <;> cases h
  apartF := fun i j d e a b c h => by
    unfold args at h
    by_cases hi : i < ds.length
    · rw [List.getElem?_append_left (by rw [List.length_map]; exact hi), List.getElem?_map] at h
      cases hd : ds[i]? with
      | none => rw [hd] at h; cases h
      | some d' => rw [hd] at h; cases h
    · rw [List.getElem?_append_right (by rw [List.length_map]; omega), List.getElem?_replicate] at h
      split at h <;> cases h
/-- a def of which no exception leaves -/
theorem ok_def {P : Program} {w : World} {mg : Str → Option Value} {base : Heap} {x qual : Str} {fs : Stmt} {fa : Addr} {fd : FuncData} {N ps : List Str} {k : Nat} {cls : Str → Addr} {g : En → R Fl} (Fn : Fun K x qual fs fa fd) (S : FnScope N ps (defScope fs))
    (hb : ∀ (cdv : Value) (A : Around) (outer : List Env) (s : Shared) (H : Hp) (E : XK) (F0 : Hp), Room k (A.deeper (envOfC qual (defScope fs) s.heap.objs.size fa cdv)) → PSs (cxOf CX0 P w K mg base N qual (defScope fs) fa cdv A outer s H E).nox (defBody fs) (tS ⟨K, F0, H, fun _ _ _ => False, fun _ => none, []⟩ g)) :
    FnOk P w K mg base CX0 (k + 1) fa fd ps (spD K cls ps.length (bodyN ps.length N.length g)) := by
  refine Fn.ok S (fun vs H Q E h => h.1) (fun cdv A outer s H vs Q E hr h => ?_)
  obtain ⟨hl, F, ds, sf, r, q⟩ := h
  refine ⟨_, hb cdv A outer s H E F hr, args N.length ds, F, args_rel sf r, ?_⟩
  unfold bodyN at q
  rw [if_pos (by rw [← r.length]; exact hl)] at q
  cases hgg : g (args N.length ds) with
  | bad => rw [hgg] at q; exact q.elim
  | err c => rw [hgg] at q; exact q.elim
  | ok fl =>
    rw [hgg] at q
    cases fl with
    | next ρ' => exact fun σ' F' H' s' r' => q .non F' H' r'.ext r'.sub .non
    | ret o d => exact fun v F' H' x s' w => q v F' H' x s' (RetV.of rfl w)
    | brk ρ' => exact q.elim
    | cont ρ' => exact q.elim
theorem ok_bad {P : Program} {w : World} {mg : Str → Option Value} {base : Heap} {fa : Addr} {fd : FuncData} {ps : List Str} {k n : Nat} {cls : Str → Addr} {CX : CXT} (h : ps.length = n) : FnOk P w K mg base CX k fa fd ps (spD K cls n (fun _ => .bad)) :=
  ⟨fun vs H Q E h' => h'.1.trans h.symm, fun A outer s H args us vs Q E _ _ _ _ h' => by
    obtain ⟨_, _, _, _, _, q⟩ := h'
    exact q.elim⟩
/-! ### calls of defs -/
def callE (den : Den) (ds : List D) : R D := bd (den ds) fun z => .ok z.2
def callO (den : Den) (ds : List D) : R D := bd (den ds) fun z => grd (z.1 || !isC z.2) (.ok z.2)
section
variable {kk : Nat} {fa : Addr} {fd : FuncData} {ps : List Str} {x : Str} {es : List Expr} {fs : En → R (List D)} {cls : Str → Addr} {n : Nat} {den : Den} {CX : CXT} {E : XK}
theorem callE_ok (hXW : ∀ c σ H, C.XW c σ H → E (.ref (cls c)) none H) (hn : ∀ ds, den ds ≠ .bad → ds.length = n) : ∀ σ H Q, tE C (fun ρ => bd (fs ρ) (callE den)) σ H Q → tCall (spD C.K cls n den) [] E (tA C fs) σ H Q := by
  rintro σ H Q ⟨ρ, F, r, q⟩
  refine out_args r q fun ds vs F' H' hd q x s rp => ?_
  unfold callE at q
  have hnb : den ds ≠ .bad := fun z => by rw [z] at q; exact q
  refine ⟨by rw [List.append_nil, rp.length]; exact hn ds hnb, F', ds, s, by rw [List.append_nil]; exact rp, ?_⟩
  cases hden : den ds with
  | bad => exact hnb hden
  | err c => rw [hden] at q; exact fun F2 H2 x2 s2 => hXW c σ H2 (q F2 H2 x2 s2)
  | ok z =>
    rw [hden] at q
    obtain ⟨o, d⟩ := z
    intro v F2 H2 x2 s2 w
    cases o with
    | false => exact q v F2 H2 x2 s2 (by simpa using w)
    | true =>
      have w' : New C.K H' F2 H2 d v := by simpa using w
      obtain ⟨F3, x3, _, s3, w3⟩ := w'.rep s2 x2
      exact q v F3 H2 x3 s3 w3
theorem callO_ok (hXW : ∀ c σ H, C.XW c σ H → E (.ref (cls c)) none H) (hn : ∀ ds, den ds ≠ .bad → ds.length = n) : ∀ σ H Q, tO C (fun ρ => bd (fs ρ) (callO den)) σ H Q → tCall (spD C.K cls n den) [] E (tA C fs) σ H Q := by
  rintro σ H Q ⟨ρ, F, r, q⟩
  refine out_args r q fun ds vs F' H' hd q x s rp => ?_
  unfold callO at q
  have hnb : den ds ≠ .bad := fun z => by rw [z] at q; exact q
  refine ⟨by rw [List.append_nil, rp.length]; exact hn ds hnb, F', ds, s, by rw [List.append_nil]; exact rp, ?_⟩
  cases hden : den ds with
  | bad => exact hnb hden
  | err c => rw [hden] at q; exact fun F2 H2 x2 s2 => hXW c σ H2 (q F2 H2 x2 s2)
  | ok z =>
    rw [hden] at q
    obtain ⟨o, d⟩ := z
    intro v F2 H2 x2 s2 w
    have q' : Out C σ F' H' (fun F' H' => New C.K H F' H') (grd (o || !isC d) (.ok d)) Q := q
    obtain ⟨ho, q2⟩ := grd_out q'
    cases o with
    | false => exact q2 v F2 H2 x2 s2 (New.of_rep (by simpa using ho) (by simpa using w))
    | true => exact q2 v F2 H2 x2 s2 (New.later x.h (by simpa using w))
theorem callL_ok (hXW : ∀ c σ H, C.XW c σ H → E (.ref (cls c)) none H) (hn : ∀ ds, den ds ≠ .bad → ds.length = n) : True := trivial
theorem d_callE (Fo : FnOk X.prog X.w X.K X.mg X.base CX kk fa fd ps (spD C.K cls n den)) (hn : ∀ ds, den ds ≠ .bad → ds.length = n) (hr : Room kk X.A) (hm : X.mg x = some (.ref fa)) (hk : PySem.W.keepIn X.K (.ref fa) = true) (hb : Binds X.K fd ps []) (hx : Passes CX X E) (hXW : ∀ c σ H, C.XW c σ H → E (.ref (cls c)) none H)
    (ha : PA X (e :: es) (tA C fs)) (hg : Gl X x := by rfl) (hdb : (x == ("__debug__" : Str)) = false := by decide) (he : starEach (e :: es) X.env = (false, eval e X.env) :: starEach es X.env := by rfl) (hpl : (backTo pos (starEach es X.env)).any (·.1) = false := by rfl) :
    PE X (.Call (.Name x p) (e :: es) [] pos) (tE C (nop fs (callE den))) := (pe_call Fo hr hg hm hk hb .nil hx ha hdb he hpl).mono (callE_ok hXW hn)
theorem d_callO (Fo : FnOk X.prog X.w X.K X.mg X.base CX kk fa fd ps (spD C.K cls n den)) (hn : ∀ ds, den ds ≠ .bad → ds.length = n) (hr : Room kk X.A) (hm : X.mg x = some (.ref fa)) (hk : PySem.W.keepIn X.K (.ref fa) = true) (hb : Binds X.K fd ps []) (hx : Passes CX X E) (hXW : ∀ c σ H, C.XW c σ H → E (.ref (cls c)) none H)
    (ha : PA X (e :: es) (tA C fs)) (hg : Gl X x := by rfl) (hdb : (x == ("__debug__" : Str)) = false := by decide) (he : starEach (e :: es) X.env = (false, eval e X.env) :: starEach es X.env := by rfl) (hpl : (backTo pos (starEach es X.env)).any (·.1) = false := by rfl) :
    PE X (.Call (.Name x p) (e :: es) [] pos) (tO C (nop fs (callO den))) := (pe_call Fo hr hg hm hk hb .nil hx ha hdb he hpl).mono (callO_ok hXW hn)
end
/-! ### the law's end -/
/-- a law's promise -/
def spLaw (K : PySem.W.Frag) : Sp := fun vs H Q _ => ∃ (a : Addr) (ns : List Int), vs = [.ref a] ∧ SqL K H a (ns.map V.int) ∧ ns.length ≤ 63 ∧ ∀ H', Q (.bl true) H'
theorem law_end {P : Program} {w : World} {mg : Str → Option Value} {base : Heap} {kk : Nat} {fa : Addr} {fd : FuncData} {cls : Str → Addr} {den : Den} (Fo : FnOk P w K mg base CX0 kk fa fd ["script"] (spD K cls 1 den))
    (h : ∀ ns : List Int, ns.length ≤ 63 → ∃ o, den [.scr ns] = .ok (o, .bl true)) : FnOk P w K mg base CX0 kk fa fd ["script"] (spLaw K) := Fo.imp fun vs H Q E hs => by
  obtain ⟨a, ns, rfl, hS, hl, q⟩ := hs
  obtain ⟨o, ho⟩ := h ns hl
  refine ⟨rfl, fun b => if b = a then H a else none, [.scr ns], fun b u e => ?_, .cons (.scr ?_) .nil, ?_⟩
  · dsimp only at e
    split at e
    · rename_i hb; rw [hb]; exact e
    · cases e
  · rcases hS with (h1 | ⟨ob, h1⟩) | h1
    · exact .inl (.inl (by simp only [if_true]; exact h1))
    · exact .inl (.inr ⟨ob, by simp only [if_true]; exact h1⟩)
    · exact .inr h1
  · rw [ho]
    intro v F' H' x s w
    have e : v = .bl true := by
      split at w
      · unfold New at w
        have w' : Rep K F' (.bl true) v := w
        cases w'; rfl
      · cases w; rfl
    rw [e]
    exact q H'
end
end DL
/-! the D layer: defs whose parameters are only read (lent) -/
namespace DL
open PySem PySem.Spec PyProof.Rows L2
def lnOf (n : Nat) (ds : List D) (vs : List V) (i : Nat) : Option (D × V) := if i < n then (match ds[i]? with | some d => some (d, vs.getD i .non) | none => none) else none
/-- .. and those that are changed: pinned -/
def addrAt (vs : List V) (i : Nat) : Addr := match vs[i]? with
  | some (.ref a) => a
  | _ => 0
def lnM (n : Nat) (io : List Nat) (ds : List D) (vs : List V) (i : Nat) : Option (D × V) := if i ∈ io then some (.ref (addrAt vs i), .ref (addrAt vs i)) else lnOf n ds vs i
def ioAs (io : List Nat) (vs : List V) : List Addr := io.map (addrAt vs)
/-- a lent name -/
def LnAt (C : Cd) (ds : List D) (i : Nat) : Prop := ∀ d, ds[i]? = some d → ∃ v, C.ln i = some (d, v)
theorem lnOf_at {n i : Nat} {ds : List D} {vs : List V} {d : D} (hi : i < n) (h : ds[i]? = some d) : lnOf n ds vs i = some (d, vs.getD i .non) := by
  unfold lnOf; rw [if_pos hi, h]
theorem lnAt_of {C : Cd} {n i : Nat} {ds : List D} {vs : List V} (hc : C.ln = lnOf n ds vs) (hi : i < n) : LnAt C ds i := fun d h => ⟨_, by rw [hc]; exact lnOf_at hi h⟩
theorem lnAt_M {C : Cd} {n i : Nat} {io : List Nat} {ds : List D} {vs : List V} (hc : C.ln = lnM n io ds vs) (hi : i < n) (hn : i ∉ io) : LnAt C ds i := fun d h => ⟨_, by rw [hc]; unfold lnM; rw [if_neg hn]; exact lnOf_at hi h⟩
/-- .. and those that are set anew: settled -/
def lnW (n : Nat) (ev : List Nat) (ds : List D) (vs : List V) (i : Nat) : Option (D × V) := if i ∈ ev then none else lnOf n ds vs i
theorem lnAt_W {C : Cd} {n i : Nat} {ev : List Nat} {ds : List D} {vs : List V} (hc : C.ln = lnW n ev ds vs) (hi : i < n) (hn : i ∉ ev) : LnAt C ds i := fun d h => ⟨_, by rw [hc]; unfold lnW; rw [if_neg hn]; exact lnOf_at hi h⟩
theorem Views.length {K : PySem.W.Frag} {F H : Hp} : ∀ {ds : List D} {vs : List V}, Views K F H ds vs → vs.length = ds.length
  | _, _, .nil => rfl
  | _, _, .cons _ t => congrArg (· + 1) (Views.length t)
theorem Views.get {K : PySem.W.Frag} {F H : Hp} : ∀ {ds : List D} {vs : List V} {i : Nat} {d : D}, Views K F H ds vs → ds[i]? = some d → ∃ v, vs[i]? = some v ∧ View K F H d v
  | _, _, 0, _, .cons r _, h => by cases h; exact ⟨_, rfl, r⟩
  | _, _, i + 1, _, .cons _ t, h => Views.get (i := i) t h
/-- the promise of a def that only reads what it is given -/
def spV (K : PySem.W.Frag) (cls : Str → Addr) (n : Nat) (den : Den) : Sp := fun vs H Q E => vs.length = n ∧ ∃ F ds, Same F H ∧ Views K F H ds vs ∧ match den ds with
  | .ok (o, d) => ∀ v F' H', Ext F H F' H' → Same F' H' → (if o = true then New K H F' H' d v else Rep K F' d v) → Q v H'
  | .err c => ∀ F' H', Ext F H F' H' → Same F' H' → E (.ref (cls c)) none H'
  | .bad => False
def bodyV (n N : Nat) (g : List D → En → R Fl) : Den := fun ds => if ds.length = n then endD (noE (g ds (List.replicate (n + (N - n)) none))) else .bad
theorem bodyV_len {n N : Nat} {g : List D → En → R Fl} : ∀ ds, bodyV n N g ds ≠ .bad → ds.length = n := fun ds h => by
  unfold bodyV at h
  split at h
  · assumption
  · exact absurd rfl h
theorem views_rel {K : PySem.W.Frag} {F H : Hp} {N : List Str} {n : Nat} {ds : List D} {vs : List V} {XW : Str → L2.St → Hp → Prop} (s : Same F H) (r : Views K F H ds vs) (hn : vs.length = n) : Rel ⟨K, F, H, XW, lnOf n ds vs, []⟩ (List.replicate (n + (N.length - n)) none) (L2.start N vs) F H where
  ext := Ext.refl _ _
  sub := s
  len := by
    unfold L2.start
    simp only [List.length_append, List.length_map, List.length_replicate, hn]
  slot := fun i d h => by
    rw [List.getElem?_replicate] at h
    split at h <;> cases h
  ownF := fun i d h => by
    rw [List.getElem?_replicate] at h
    split at h <;> cases h
  apartF := fun i j d e a b c h => by
    rw [List.getElem?_replicate] at h
    split at h <;> cases h
  lend := fun i d v h => by
    have h : lnOf n ds vs i = some (d, v) := h
    unfold lnOf at h
    split at h
    · cases hd : ds[i]? with
      | none => rw [hd] at h; cases h
      | some d' =>
        rw [hd] at h
        obtain ⟨v', hv, w⟩ := r.get hd
        have e : vs.getD i .non = v' := by rw [List.getD_eq_getElem?_getD, hv]; rfl
        have h2 : some (d', vs.getD i .non) = some (d, v) := h
        rw [e] at h2
        cases h2
        refine ⟨?_, w⟩
        unfold L2.start
        have hi : i < vs.length := (List.getElem?_eq_some_iff.mp hv).1
        rw [List.getElem?_append_left (by rw [List.length_map]; exact hi), List.getElem?_map, hv]
        rfl
    · cases h
theorem ok_defV {K : PySem.W.Frag} {P : Program} {w : World} {mg : Str → Option Value} {base : Heap} {x qual : Str} {fs : Stmt} {fa : Addr} {fd : FuncData} {N ps : List Str} {k : Nat} {cls : Str → Addr} {g : List D → En → R Fl} (Fn : Fun K x qual fs fa fd) (S : FnScope N ps (defScope fs))
    (hb : ∀ (ds : List D) (vs : List V) (cdv : Value) (A : Around) (outer : List Env) (s : Shared) (H : Hp) (E : XK) (F0 : Hp), Room k (A.deeper (envOfC qual (defScope fs) s.heap.objs.size fa cdv)) → PSs (cxOf CX0 P w K mg base N qual (defScope fs) fa cdv A outer s H E).nox (defBody fs) (tS ⟨K, F0, H, fun _ _ _ => False, lnOf ps.length ds vs, []⟩ (g ds))) :
    FnOk P w K mg base CX0 (k + 1) fa fd ps (spV K cls ps.length (bodyV ps.length N.length g)) := by
  refine Fn.ok S (fun vs H Q E h => h.1) (fun cdv A outer s H vs Q E hr h => ?_)
  obtain ⟨hl, F, ds, sf, r, q⟩ := h
  refine ⟨_, hb ds vs cdv A outer s H E F hr, List.replicate (ps.length + (N.length - ps.length)) none, F, views_rel sf r hl, ?_⟩
  unfold bodyV at q
  rw [if_pos (by rw [← r.length]; exact hl)] at q
  cases hgg : g ds (List.replicate (ps.length + (N.length - ps.length)) none) with
  | bad => rw [hgg] at q; exact q.elim
  | err c => rw [hgg] at q; exact q.elim
  | ok fl =>
    rw [hgg] at q
    cases fl with
    | next ρ' => exact fun σ' F' H' s' r' => q .non F' H' r'.ext r'.sub .non
    | ret o d => exact fun v F' H' x s' w => q v F' H' x s' (RetV.of rfl w)
    | brk ρ' => exact q.elim
    | cont ρ' => exact q.elim
/-! reading a lent name -/
section
variable {X : Cx} {C : Cd} {e : Expr} {es : List Expr} {fs : En → R (List D)} {pos p : Pos} {kk n : Nat} {fa : Addr} {fd : FuncData} {ps : List Str} {x : Str} {cls : Str → Addr} {den : Den} {CX : CXT} {E : XK}
def rdL (ds : List D) (i : Nat) : En → R D := fun _ => match ds[i]? with
  | some d => .ok d
  | none => .bad
def flatB (d : D) : Bool := (flatD d).isSome
def rdF (ds : List D) (i : Nat) : En → R D := fun _ => match ds[i]? with
  | some d => grd (flatB d) (.ok d)
  | none => .bad
theorem v_L {i : Nat} {ds : List D} (h : PE X e (tVar i)) (hc : LnAt C ds i := by first | exact lnAt_of rfl (by decide) | exact lnAt_M rfl (by decide) (by decide) | exact lnAt_W rfl (by decide) (by decide)) : PE X e (tR C (rdL ds i)) := h.mono fun σ H Q ⟨ρ, F, r, q⟩ => by
  unfold rdL at q
  cases hd : ds[i]? with
  | none => rw [hd] at q; exact q.elim
  | some d =>
    rw [hd] at q
    obtain ⟨v, hl⟩ := hc d hd
    obtain ⟨hv, w⟩ := r.lend i d v hl
    exact ⟨_, hv, q _ F H (Ext.refl _ _) r.sub (w.mono r.ext.f r.ext.h)⟩
theorem View.flat {K : PySem.W.Frag} {F H : Hp} {d : D} {v : V} (h : flatB d = true) (w : View K F H d v) : Rep K F d v := by
  cases d with
  | non => cases w; exact .non
  | bl b => cases w; exact .bl b
  | int b => cases w; exact .int b
  | str b => cases w; exact .str b
  | _ => cases h
theorem v_F {i : Nat} {ds : List D} (h : PE X e (tVar i)) (hc : LnAt C ds i := by first | exact lnAt_of rfl (by decide) | exact lnAt_M rfl (by decide) (by decide) | exact lnAt_W rfl (by decide) (by decide)) : PE X e (tE C (rdF ds i)) := h.mono fun σ H Q ⟨ρ, F, r, q⟩ => by
  unfold rdF at q
  cases hd : ds[i]? with
  | none => rw [hd] at q; exact q.elim
  | some d =>
    rw [hd] at q
    obtain ⟨hf, q⟩ := grd_out q
    obtain ⟨v, hl⟩ := hc d hd
    obtain ⟨hv, w⟩ := r.lend i d v hl
    exact ⟨_, hv, q _ F H (Ext.refl _ _) r.sub ((w.mono r.ext.f r.ext.h).flat hf)⟩
/-! calling such a def -/
theorem out_argsV {σ : L2.St} {ρ : En} {F H : Hp} {w : List D → R D} {W : Hp → Hp → D → V → Prop} {Q : VK} {Q' : List V → Hp → Prop} (r : Rel C ρ σ F H) (q : Out C σ F H W (bd (fs ρ) w) Q)
    (h : ∀ ds vs F' H', fs ρ = .ok ds → Out C σ F' H' W (w ds) Q → Ext F H F' H' → Same F' H' → Views C.K F' H' ds vs → Q' vs H') : tV C fs σ H Q' := by
  refine ⟨ρ, F, r, ?_⟩
  cases hf : fs ρ with
  | bad => rw [hf] at q; exact q
  | err c => rw [hf] at q; exact q
  | ok ds =>
    rw [hf] at q
    exact fun vs F1 H1 x1 s1 w1 => h ds vs F1 H1 hf (Out.later q x1) x1 s1 w1
theorem callEV_ok (hXW : ∀ c σ H, C.XW c σ H → E (.ref (cls c)) none H) (hn : ∀ ds, den ds ≠ .bad → ds.length = n) : ∀ σ H Q, tE C (fun ρ => bd (fs ρ) (callE den)) σ H Q → tCall (spV C.K cls n den) [] E (tV C fs) σ H Q := by
  rintro σ H Q ⟨ρ, F, r, q⟩
  refine out_argsV r q fun ds vs F' H' hd q x s rp => ?_
  unfold callE at q
  have hnb : den ds ≠ .bad := fun z => by rw [z] at q; exact q
  refine ⟨by rw [List.append_nil, rp.length]; exact hn ds hnb, F', ds, s, by rw [List.append_nil]; exact rp, ?_⟩
  cases hden : den ds with
  | bad => exact hnb hden
  | err c => rw [hden] at q; exact fun F2 H2 x2 s2 => hXW c σ H2 (q F2 H2 x2 s2)
  | ok z =>
    rw [hden] at q
    obtain ⟨o, d⟩ := z
    intro v F2 H2 x2 s2 w
    cases o with
    | false => exact q v F2 H2 x2 s2 (by simpa using w)
    | true =>
      have w' : New C.K H' F2 H2 d v := by simpa using w
      obtain ⟨F3, x3, _, s3, w3⟩ := w'.rep s2 x2
      exact q v F3 H2 x3 s3 w3
theorem callOV_ok (hXW : ∀ c σ H, C.XW c σ H → E (.ref (cls c)) none H) (hn : ∀ ds, den ds ≠ .bad → ds.length = n) : ∀ σ H Q, tO C (fun ρ => bd (fs ρ) (callO den)) σ H Q → tCall (spV C.K cls n den) [] E (tV C fs) σ H Q := by
  rintro σ H Q ⟨ρ, F, r, q⟩
  refine out_argsV r q fun ds vs F' H' hd q x s rp => ?_
  unfold callO at q
  have hnb : den ds ≠ .bad := fun z => by rw [z] at q; exact q
  refine ⟨by rw [List.append_nil, rp.length]; exact hn ds hnb, F', ds, s, by rw [List.append_nil]; exact rp, ?_⟩
  cases hden : den ds with
  | bad => exact hnb hden
  | err c => rw [hden] at q; exact fun F2 H2 x2 s2 => hXW c σ H2 (q F2 H2 x2 s2)
  | ok z =>
    rw [hden] at q
    obtain ⟨o, d⟩ := z
    intro v F2 H2 x2 s2 w
    have q' : Out C σ F' H' (fun F' H' => New C.K H F' H') (grd (o || !isC d) (.ok d)) Q := q
    obtain ⟨ho, q2⟩ := grd_out q'
    cases o with
    | false => exact q2 v F2 H2 x2 s2 (New.of_rep (by simpa using ho) (by simpa using w))
    | true => exact q2 v F2 H2 x2 s2 (New.later x.h (by simpa using w))
theorem d_callEV (Fo : FnOk X.prog X.w X.K X.mg X.base CX kk fa fd ps (spV C.K cls n den)) (hn : ∀ ds, den ds ≠ .bad → ds.length = n) (hr : Room kk X.A) (hm : X.mg x = some (.ref fa)) (hk : PySem.W.keepIn X.K (.ref fa) = true) (hb : Binds X.K fd ps []) (hx : Passes CX X E) (hXW : ∀ c σ H, C.XW c σ H → E (.ref (cls c)) none H)
    (ha : PA X (e :: es) (tV C fs)) (hg : Gl X x := by rfl) (hdb : (x == ("__debug__" : Str)) = false := by decide) (he : starEach (e :: es) X.env = (false, eval e X.env) :: starEach es X.env := by rfl) (hpl : (backTo pos (starEach es X.env)).any (·.1) = false := by rfl) :
    PE X (.Call (.Name x p) (e :: es) [] pos) (tE C (nop fs (callE den))) := (pe_call Fo hr hg hm hk hb .nil hx ha hdb he hpl).mono (callEV_ok hXW hn)
theorem d_callOV (Fo : FnOk X.prog X.w X.K X.mg X.base CX kk fa fd ps (spV C.K cls n den)) (hn : ∀ ds, den ds ≠ .bad → ds.length = n) (hr : Room kk X.A) (hm : X.mg x = some (.ref fa)) (hk : PySem.W.keepIn X.K (.ref fa) = true) (hb : Binds X.K fd ps []) (hx : Passes CX X E) (hXW : ∀ c σ H, C.XW c σ H → E (.ref (cls c)) none H)
    (ha : PA X (e :: es) (tV C fs)) (hg : Gl X x := by rfl) (hdb : (x == ("__debug__" : Str)) = false := by decide) (he : starEach (e :: es) X.env = (false, eval e X.env) :: starEach es X.env := by rfl) (hpl : (backTo pos (starEach es X.env)).any (·.1) = false := by rfl) :
    PE X (.Call (.Name x p) (e :: es) [] pos) (tO C (nop fs (callO den))) := (pe_call Fo hr hg hm hk hb .nil hx ha hdb he hpl).mono (callOV_ok hXW hn)
end
end DL
/-! the D layer: short forms -/
namespace DL
open PySem PySem.Spec PyProof.Rows L2
def tst (f : En → R D) : En → R Bool := fun ρ => bd (f ρ) asB
section
variable {X : Cx} {C : Cd} {e a b c tg : Expr} {f g k : En → R D} {pos p apos cpos : Pos} {st : Stmt} {rest : List Stmt} {s1 s2 : En → R Fl} {K : PySem.W.Frag} {F H : Hp} {kk : Nat}
/-- a value that is no container is at one's disposal -/
def flatO (d : D) : R D := grd (!isC d) (.ok d)
theorem o_of_e (h : PE X e (tE C f)) : PE X e (tO C (uop f flatO)) := h.mono fun σ H Q ⟨ρ, F, r, q⟩ => ⟨ρ, F, r, q.fst fun d v F' H' _ q x s w => by
  obtain ⟨z, q⟩ := grd_out q
  exact q v F' H' x s (New.of_rep (by simpa using z) w)⟩
theorem eu (hr : Room kk X.A) : X.A.units + 64 < cLine := hr.units
theorem eu65 (hr : Room kk X.A) : X.A.units + 65 < cLine := by have := hr.un; omega
theorem eu1 (hr : Room kk X.A) : X.A.units + 1 < cLine := by have := hr.un; omega
theorem d_eq (hC : X.K = C.K) (hr : Room kk X.A) (ha : PE X a (tR C f)) (hb : PE X b (tR C g)) : PE X (.Compare a [.Eq] [b] pos) (tO C (bop f g (dEq false))) := d_cmp (OpR.or op_eq (hC ▸ op_eqD (eu hr))) rEq_ok (nomark _) ha hb
theorem d_ne (hC : X.K = C.K) (hr : Room kk X.A) (ha : PE X a (tR C f)) (hb : PE X b (tR C g)) : PE X (.Compare a [.NotEq] [b] pos) (tO C (bop f g (dEq true))) := d_cmp (OpR.or op_ne (hC ▸ op_neD (eu hr))) rNe_ok (nomark _) ha hb
theorem d_lt (ha : PE X a (tR C f)) (hb : PE X b (tR C g)) : PE X (.Compare a [.Lt] [b] pos) (tO C (bop f g dLt)) := d_cmp (OpR.or op_lt op_lt_str) rLt_ok (nomark _) ha hb
theorem d_le (ha : PE X a (tR C f)) (hb : PE X b (tR C g)) : PE X (.Compare a [.LtE] [b] pos) (tO C (bop f g dLe)) := d_cmp (OpR.or op_le op_le_str) rLe_ok (nomark _) ha hb
theorem d_gt (ha : PE X a (tR C f)) (hb : PE X b (tR C g)) : PE X (.Compare a [.Gt] [b] pos) (tO C (bop f g dGt)) := d_cmp (OpR.or op_gt op_gt_str) rGt_ok (nomark _) ha hb
theorem d_ge (ha : PE X a (tR C f)) (hb : PE X b (tR C g)) : PE X (.Compare a [.GtE] [b] pos) (tO C (bop f g dGe)) := d_cmp (OpR.or op_ge op_ge_str) rGe_ok (nomark _) ha hb
theorem d_isN (ha : PE X a (tR C f)) (hb : PE X b (tR C g)) : PE X (.Compare a [.Is] [b] pos) (tO C (bop f g (dIsN false))) := d_cmp (OpR.or op_isN op_isBl) rIsN_ok (nomark _) ha hb
theorem d_notN (ha : PE X a (tR C f)) (hb : PE X b (tR C g)) : PE X (.Compare a [.IsNot] [b] pos) (tO C (bop f g (dIsN true))) := d_cmp (OpR.or op_notN op_notBl) rNotN_ok (nomark _) ha hb
theorem d_in (hC : X.K = C.K) (hr : Room kk X.A) (ha : PE X a (tR C f)) (hb : PE X b (tR C g)) (hm : behindInMarks .In b = false := by rfl) : PE X (.Compare a [.In] [b] pos) (tO C (bop f g (dIn false))) := d_cmp (hC ▸ op_inAll (eu65 hr)) (in_ok false) hm ha hb
theorem d_notin (hC : X.K = C.K) (hr : Room kk X.A) (ha : PE X a (tR C f)) (hb : PE X b (tR C g)) (hm : behindInMarks .NotIn b = false := by rfl) : PE X (.Compare a [.NotIn] [b] pos) (tO C (bop f g (dIn true))) := d_cmp (hC ▸ op_notInAll (eu65 hr)) (in_ok true) hm ha hb
theorem dt_eq (hC : X.K = C.K) (hr : Room kk X.A) (ha : PE X a (tR C f)) (hb : PE X b (tR C g)) : PT X (.Compare a [.Eq] [b] pos) (tT C (tst (bop f g (dEq false)))) := dt_cmp (OpR.or op_eq (hC ▸ op_eqD (eu hr))) rEq_ok (nomark _) ha hb
theorem dt_ne (hC : X.K = C.K) (hr : Room kk X.A) (ha : PE X a (tR C f)) (hb : PE X b (tR C g)) : PT X (.Compare a [.NotEq] [b] pos) (tT C (tst (bop f g (dEq true)))) := dt_cmp (OpR.or op_ne (hC ▸ op_neD (eu hr))) rNe_ok (nomark _) ha hb
theorem dt_lt (ha : PE X a (tR C f)) (hb : PE X b (tR C g)) : PT X (.Compare a [.Lt] [b] pos) (tT C (tst (bop f g dLt))) := dt_cmp (OpR.or op_lt op_lt_str) rLt_ok (nomark _) ha hb
theorem dt_le (ha : PE X a (tR C f)) (hb : PE X b (tR C g)) : PT X (.Compare a [.LtE] [b] pos) (tT C (tst (bop f g dLe))) := dt_cmp (OpR.or op_le op_le_str) rLe_ok (nomark _) ha hb
theorem dt_gt (ha : PE X a (tR C f)) (hb : PE X b (tR C g)) : PT X (.Compare a [.Gt] [b] pos) (tT C (tst (bop f g dGt))) := dt_cmp (OpR.or op_gt op_gt_str) rGt_ok (nomark _) ha hb
theorem dt_ge (ha : PE X a (tR C f)) (hb : PE X b (tR C g)) : PT X (.Compare a [.GtE] [b] pos) (tT C (tst (bop f g dGe))) := dt_cmp (OpR.or op_ge op_ge_str) rGe_ok (nomark _) ha hb
theorem dt_isN (ha : PE X a (tR C f)) (hb : PE X b (tR C g)) : PT X (.Compare a [.Is] [b] pos) (tT C (tst (bop f g (dIsN false)))) := dt_cmp (OpR.or op_isN op_isBl) rIsN_ok (nomark _) ha hb
theorem dt_notN (ha : PE X a (tR C f)) (hb : PE X b (tR C g)) : PT X (.Compare a [.IsNot] [b] pos) (tT C (tst (bop f g (dIsN true)))) := dt_cmp (OpR.or op_notN op_notBl) rNotN_ok (nomark _) ha hb
theorem dt_in (hC : X.K = C.K) (hr : Room kk X.A) (ha : PE X a (tR C f)) (hb : PE X b (tR C g)) (hm : behindInMarks .In b = false := by rfl) : PT X (.Compare a [.In] [b] pos) (tT C (tst (bop f g (dIn false)))) := dt_cmp (hC ▸ op_inAll (eu65 hr)) (in_ok false) hm ha hb
theorem dt_notin (hC : X.K = C.K) (hr : Room kk X.A) (ha : PE X a (tR C f)) (hb : PE X b (tR C g)) (hm : behindInMarks .NotIn b = false := by rfl) : PT X (.Compare a [.NotIn] [b] pos) (tT C (tst (bop f g (dIn true)))) := dt_cmp (hC ▸ op_notInAll (eu65 hr)) (in_ok true) hm ha hb
theorem dt_chain {op op' : CmpOp} {r r' : R2} {w w' : D → D → R D} (ho : OpR X (compareOp op) r) (ho' : OpR X (compareOp op') r') (hr : Op2 C r w) (hr' : Op2 C r' w') (ha : PE X a (tR C f)) (hb : PE X b (tR C g)) (hc : PE X c (tR C k))
    (hm : lastMarks [op, op'] [b, c] = false := by with_unfolding_all rfl) : PT X (.Compare a [op, op'] [b, c] pos) (tT C (tst (eChain w w' f g k))) :=
  (pt_chain ho ho' ha hb hc hm).mono fun σ H Q h => chain_ok hr hr' σ H _ (t_to_o h)
theorem dt_val (ha : PE X a (tO C f)) (he : ∀ whole, isTrue a X.env whole = (do let v ← whole; standAt a.pos; holding [v] (truthy v)) := by intro _; rfl) : PT X a (tT C (tst f)) := dt_truth ha he
/-! ### targets: a list or a tuple -/
theorem _root_.L2.PG.or {X : Cx} {e : Expr} {t t' : TG} (h : PG X e t) (h' : PG X e t') : PG X e (fun v σ H Q => t v σ H Q ∨ t' v σ H Q) := ⟨fun pins s σ H v u Q I r q => by
  rcases q with q | q
  · exact h.run pins s σ H v u Q I r q
  · exact h'.run pins s σ H v u Q I r q⟩
def gSeqD (n : Nat) (gs : List D → En → Option En) : D → En → Option En := fun d ρ => match d with
  | .tup ds => if ds.length = n then gs ds ρ else none
  | .lst ds => if ds.length = n then gs ds ρ else none
  | _ => none
theorem g_seq {own : List Nat} {es : List Expr} {k n : Nat} {gs : List D → En → Option En} (hc : X.calm = true) (h : PGs X es (tGs C own gs)) (hn : (assignEach es X.env).length = n := by rfl) (hst : (assignEach es X.env).findIdx? (·.1) = none := by rfl) :
    PG X (.Tuple es k pos) (tG C own (gSeqD n gs)) := (PG.or (g_tup hc h hn hst) (g_lst hc h hn hst)).mono fun v σ H Q ⟨ρ, F, d, r, w, q⟩ => by
  cases d with
  | tup ds => exact .inl ⟨ρ, F, _, r, w, q⟩
  | lst ds => exact .inr ⟨ρ, F, _, r, w, q⟩
  | _ => exact q.elim
/-! ### built-ins by name -/
theorem d_len {es : List Expr} {fs : En → R (List D)} (hC : X.K = C.K) (hm : X.mg "len" = none) (ha : PA X (e :: es) (tV C fs)) (hg : Gl X "len" := by rfl)
    (he : starEach (e :: es) X.env = (false, eval e X.env) :: starEach es X.env := by rfl) (hpl : (backTo pos (starEach es X.env)).any (·.1) = false := by rfl) : PE X (.Call (.Name "len" p) (e :: es) [] pos) (tO C (nop fs dLen)) :=
  d_callB (CallR.or (hC ▸ call_len) (by
    intro pins s σ H xs us Q I r h
    obtain ⟨a, kvs, rfl, h, q⟩ := h
    obtain ⟨u, rfl, ru⟩ := vals1 r
    cases ru
    exact L2.d_len I h fun t s' I' => ⟨.int kvs.length, H, I', ⟨t, rfl⟩, q⟩)) len_ok hm PySem.boot_len ha hg (by decide) (by decide) he hpl
theorem d_list {es : List Expr} {fs : En → R (List D)} (hC : X.K = C.K) (hm : X.mg "list" = none) (ha : PA X (e :: es) (tV C fs)) (hg : Gl X "list" := by rfl)
    (he : starEach (e :: es) X.env = (false, eval e X.env) :: starEach es X.env := by rfl) (hpl : (backTo pos (starEach es X.env)).any (·.1) = false := by rfl) (hc : X.calm = true := by rfl) : PE X (.Call (.Name "list" p) (e :: es) [] pos) (tO C (nop fs dList)) :=
  d_callTy (CallR.or (hC ▸ call_list_of) (call_listD hc)) list_ok hm (by decide +kernel) ha hg (by decide) (by decide) he hpl
theorem d_tuple {es : List Expr} {fs : En → R (List D)} (hC : X.K = C.K) (hm : X.mg "tuple" = none) (ha : PA X (e :: es) (tV C fs)) (hg : Gl X "tuple" := by rfl)
    (he : starEach (e :: es) X.env = (false, eval e X.env) :: starEach es X.env := by rfl) (hpl : (backTo pos (starEach es X.env)).any (·.1) = false := by rfl) : PE X (.Call (.Name "tuple" p) (e :: es) [] pos) (tO C (nop fs dTuple)) :=
  d_callTy (hC ▸ call_tuple_of) tuple_ok hm (by decide +kernel) ha hg (by decide) (by decide) he hpl
theorem d_str {es : List Expr} {fs : En → R (List D)} (hm : X.mg "str" = none) (ha : PA X (e :: es) (tV C fs)) (hg : Gl X "str" := by rfl)
    (he : starEach (e :: es) X.env = (false, eval e X.env) :: starEach es X.env := by rfl) (hpl : (backTo pos (starEach es X.env)).any (·.1) = false := by rfl) : PE X (.Call (.Name "str" p) (e :: es) [] pos) (tO C (nop fs dStr)) :=
  d_callTy call_str_int str_ok hm (by decide +kernel) ha hg (by decide) (by decide) he hpl
theorem d_sorted {es : List Expr} {fs : En → R (List D)} (hC : X.K = C.K) (hm : X.mg "sorted" = none) (ha : PA X (e :: es) (tV C fs)) (hg : Gl X "sorted" := by rfl)
    (he : starEach (e :: es) X.env = (false, eval e X.env) :: starEach es X.env := by rfl) (hpl : (backTo pos (starEach es X.env)).any (·.1) = false := by rfl) (hc : X.calm = true := by rfl) : PE X (.Call (.Name "sorted" p) (e :: es) [] pos) (tO C (nop fs dSorted)) :=
  d_callB (CallR.or (CallR.or (hC ▸ cr_sortedI) (hC ▸ cr_sortedS)) (call_sortedDI hc)) sorted_ok hm (by decide +kernel) ha hg (by decide) (by decide) he hpl
/-- a built-in class as a value -/
theorem ty_of {x : Str} {n : String} (hm : X.mg x = none) (hv : bootBuiltins x = some (.type n)) (hg : Gl X x := by rfl) (hn : x ≠ "__name__" := by decide) (hdb : (x == ("__debug__" : Str)) = false := by decide) : PE X (.Name x pos) (tC (.ty n)) := pe_bltn hg hm hv rfl hn hdb
theorem s_toC {i : Nat} (h : PS X st (tS C (sSetO i f))) : PS X st (tS C (sSet i f)) := h.mono fun T σ H ⟨ρ, F, r, q⟩ => by
  refine ⟨ρ, F, r, ?_⟩
  unfold sSetO
  unfold sSet at q
  cases hf : f ρ with
  | bad => rw [hf] at q; exact q
  | err c => rw [hf] at q; exact q
  | ok d =>
    rw [hf] at q
    intro σ' F' H' s r'
    cases hd : isC d with
    | false => rw [hd] at r'; exact q σ' F' H' s r'
    | true =>
      rw [hd] at r'
      by_cases hi : i < ρ.length
      · have e : (ρ.set i (some (true, d)))[i]? = some (some (true, d)) := by rw [List.getElem?_set_self hi]
        obtain ⟨F2, s2, r2⟩ := r'.settle1 e
        rw [List.set_set] at r2
        exact q σ' F2 H' (s.trans s2) r2
      · have e1 : ρ.set i (some (true, d)) = ρ := List.set_eq_of_length_le (by omega)
        have e2 : ρ.set i (some (false, d)) = ρ := List.set_eq_of_length_le (by omega)
        rw [e1] at r'
        exact q σ' F' H' s (by rw [e2]; exact r')
def get2 (f g k : En → R D) : En → R D := fun ρ => bd (f ρ) fun d => grd (isDD d) (bd (g ρ) fun q => bd (k ρ) fun x => dGet2 d q x)
/-- a module's number, a module's text -/
theorem c_globI {x : Str} {i : Int} {t : Tok} (hm : X.mg x = some (.int i t)) (hg : Gl X x := by rfl) (hdb : (x == ("__debug__" : Str)) = false := by decide) : PE X (.Name x pos) (tO C (cst (.int i))) := c_glob (v := .int i) hm ⟨t, rfl⟩ rfl hg hdb
theorem c_globS {x : Str} {i : Str} {t : Tok} (hm : X.mg x = some (.str i t)) (hg : Gl X x := by rfl) (hdb : (x == ("__debug__" : Str)) = false := by decide) : PE X (.Name x pos) (tO C (cst (.str i))) := c_glob (v := .str i) hm ⟨t, rfl⟩ rfl hg hdb
/-- how often a while may turn -/
def FU : Nat := 1000000
end
end DL
/-! the D layer: sets of numbers -/
namespace DL
open PySem PySem.Spec PyProof.Rows L2
/-- the empty set as it is made -/
abbrev set0 (w : World) : Obj := { cls := .type "set", dict := none, data := .set #[] 0 (.fresh 0 0 (!w.params.followText "set-order")) }
section
variable {P : Program} {w : World} {A : Around} {E : Value → Shared → Prop} {s : Shared}
set_option maxHeartbeats 3200000 in
/-- set(xs), xs a list of ints -/
theorem set_of_list {l : Addr} {its : Array Value} (ns : List Int) {Q : Value → Shared → Prop} (calm : A.handled = none) (isl : s.heap.IsList l its) (ari : IntsAre its.toList ns) (few : ns.length + 1 < scanBound)
    (wish : ∀ (h' : Heap) (tk c : Nat), SetR w h' s.heap.objs.size (fun j => decide (j ∈ ns)) c → c ≤ ns.length → (∀ b o, s.heap.get? b = some o → h'.get? b = some o) → Q (.ref s.heap.objs.size) { s with heap := h', toks := tk }) :
    wpAny (model P w) A (call (.type "set") [.ref l]) Q E s := by
  have sz : its.size = ns.length := by have q := IntsAre.length ari; rwa [Array.length_toList] at q
  obtain ⟨_, _, q1⟩ := F.called_set.mro
  have q2 := F.called_set.made
  have q3 := F.called_set.sub
  refine wpAny_call (codeAny_of_tree ?_)
  show wpAny _ _ (callAny (.type "set") _) _ _ _
  refine wpAny_pure ⟨Code.quiet_builtin _ (by decide +kernel), codeAny_builtin F.entry_type_call ?_⟩
  rw [Around.under_plain (weight_type_call_type "set" [.ref l] []) rfl]
  have q4 := F.called_set.notType
  have q5 := F.called_set.canCreate
  have q6 := F.typeCall_set_1 (.ref l)
  repeat (any_goals (first | assumption | wp_step))
  refine codeAny_mono (code_set_led1 (.ref l) (E := E) (Q₁ := fun x t => x = .ref s.heap.objs.size ∧ t = { s with heap := s.heap.push (set0 w) }) ⟨rfl, rfl⟩) fun r t hr => ?_
  cases r with
  | error e => exact hr
  | ok fl =>
    cases fl with
    | ret x =>
      obtain ⟨rfl, rfl⟩ := hr
      have g0 : (s.heap.push (set0 w)).get? s.heap.objs.size = some (set0 w) := Heap.get?_push_size _ rfl
      have ty : Shared.TypeIs { s with heap := s.heap.push (set0 w) } (.ref s.heap.objs.size) "set" := ⟨_, g0, rfl⟩
      have q7 := F.called_set.init.lookup
      have q8 := F.called_set.init.bind (.ref s.heap.objs.size)
      repeat (any_goals (first | assumption | wp_step))
      refine codeAny_mono (codeAny_call_builtin (R := wants (fun r t => r = .none ∧ ∃ h' tk c, t = { s with heap := h', toks := tk } ∧ SetR w h' s.heap.objs.size (fun j => decide (j ∈ ns)) c ∧ c ≤ ns.length ∧ (∀ b o, s.heap.get? b = some o → h'.get? b = some o)) E)
        F.called_set.init.plain F.entry_set_init (check_set_init_1 ty ?_)) fun r₂ t₂ hr₂ => ?_
      · obtain ⟨ol, e0, e1, nl, e2⟩ := isl
        obtain ⟨oc, od, oa, os⟩ := ol
        simp only at e1 e2
        subst e1; subst e2
        have e0' : (s.heap.push (set0 w)).get? l = some { cls := .type "list", dict := od, data := .seq its nl, slots := os } := Heap.get?_push_of_some _ e0
        have z1 := F.sub_list_set
        have z2 := F.sub_list_frozenset
        have z3 : (Value.type "list" == Value.type "dict") = false := by decide
        have lst : (s.heap.push (set0 w)).IsList l its := ⟨_, e0', rfl, nl, rfl⟩
        unfold Builtin.«set.__init__» noKeywords Builtin.Frozenset.updateFrom
        generalize hPI : pyIter = PI
        wp_walk
        subst hPI
        refine wpAny_pyIter_list lst ?_
        refine wpAny_bind (wpAny_runValue ?_)
        have lt : l < s.heap.objs.size := Heap.lt_size e0
        have cal3 : A.in1.in1.in1.handled = none := by simp [calm]
        have ne1 : l ≠ (s.heap.push (set0 w)).objs.size := by rw [Heap.size_push]; exact Nat.ne_of_lt (Nat.lt_succ_of_lt lt)
        have out : s.heap.objs.size ∉ [(s.heap.push (set0 w)).objs.size, l] := by
          rw [Heap.size_push]
          simp only [List.mem_cons, List.mem_singleton, List.not_mem_nil, or_false, not_or]
          exact ⟨Nat.ne_of_lt (Nat.lt_succ_self _), Nat.ne_of_gt lt⟩
        have val : ∀ (i : Nat) (v : Value), its[i]? = some v → ∃ k t, ns[i]? = some k ∧ v = .int k t := fun i v hv => by
          have hi : i < ns.length := by rw [← sz]; exact (Array.getElem?_eq_some_iff.mp hv).1
          obtain ⟨t, e⟩ := PyProof.Rows.IntsAre.int_at ari i v (by rw [Array.getElem?_toList]; exact hv)
          exact ⟨ns[i], t, List.getElem?_eq_getElem hi, by rw [e, List.getD_eq_getElem?_getD, List.getElem?_eq_getElem hi]; rfl⟩
        refine set_update_ints ((Walks.list cal3 _ l ne1 its).toS) s.heap.objs.size out ns sz few val (its.size - 0) 0 _ (by omega) (Nat.zero_le _) ⟨⟨_, Heap.get?_push_size _ rfl, rfl, rfl⟩, (lst.push _)⟩
          ⟨0, Nat.le_refl 0, setR_new_at (Heap.get?_push_of_some _ g0)⟩ ?_
        intro t' c' mv hc hS
        obtain ⟨h', g2, d', tk', os'⟩ := t'
        have u1 : g2 = s.gens := mv.gens
        have u2 : d' = s.drawn := mv.drawn
        have u3 : os' = s.os := mv.os
        subst u1; subst u2; subst u3
        show wpAny _ _ _ _ _ _
        refine wpAny_pure ?_
        show wpAny _ _ (ret Value.none) _ _ _
        rw [sz] at hc
        refine wpAny_pure ⟨rfl, h', tk', c', rfl, hS, hc, fun b o e => ?_⟩
        have b0 : b < s.heap.objs.size := Heap.lt_size e
        refine mv.heap b o ?_ (Heap.get?_push_of_some _ (Heap.get?_push_of_some _ e))
        simp only [List.mem_cons, List.mem_singleton, List.not_mem_nil, or_false, not_or]
        exact ⟨Nat.ne_of_lt b0, by rw [Heap.size_push]; exact Nat.ne_of_lt (Nat.lt_succ_of_lt b0)⟩
      · cases r₂ with
        | error e => exact hr₂
        | ok fl₂ =>
          cases fl₂ with
          | ret r =>
            obtain ⟨rfl, h', tk, c', rfl, hS, hc, hk⟩ := hr₂
            repeat (any_goals (first | assumption | wp_step))
            exact wish _ _ _ hS hc hk
          | _ => exact hr₂.elim
    | _ => exact hr.elim
end
section
variable {X : Cx} {C : Cd} {e a b c tg : Expr} {f g k : En → R D} {pos p p2 q apos cpos : Pos} {K : PySem.W.Frag} {F H : Hp} {kk : Nat}
/-- the members once each, in the order in which each first comes -/
def uniq (ns : List Int) : List Int := ns.foldl (fun l n => if n ∈ l then l else l ++ [n]) []
theorem uniq_go : ∀ (ns acc : List Int), acc.Nodup → (ns.foldl (fun l n => if n ∈ l then l else l ++ [n]) acc).Nodup ∧ ∀ k, k ∈ ns.foldl (fun l n => if n ∈ l then l else l ++ [n]) acc ↔ k ∈ acc ∨ k ∈ ns
  | [], acc, h => ⟨h, fun k => by simp⟩
  | n :: ns, acc, h => by
    rw [List.foldl_cons]
    by_cases hn : n ∈ acc
    · rw [if_pos hn]
      obtain ⟨h1, h2⟩ := uniq_go ns acc h
      refine ⟨h1, fun k => (h2 k).trans ?_⟩
      rw [List.mem_cons]
      constructor
      · rintro (z | z)
        · exact .inl z
        · exact .inr (.inr z)
      · rintro (z | z | z)
        · exact .inl z
        · exact .inl (z ▸ hn)
        · exact .inr z
    · rw [if_neg hn]
      obtain ⟨h1, h2⟩ := uniq_go ns (acc ++ [n]) (by
        rw [List.nodup_append]
        exact ⟨h, List.pairwise_singleton _ _, fun a ha b hb e => hn (by rw [List.mem_singleton] at hb; rw [← hb, ← e]; exact ha)⟩)
      refine ⟨h1, fun k => (h2 k).trans ?_⟩
      rw [List.mem_append, List.mem_singleton, List.mem_cons, or_assoc]
theorem uniq_nodup (ns : List Int) : (uniq ns).Nodup := (uniq_go ns [] .nil).1
theorem mem_uniq {ns : List Int} {k : Int} : k ∈ uniq ns ↔ k ∈ ns := by
  have := (uniq_go ns [] .nil).2 k
  unfold uniq
  simpa using this
theorem same_len {a b : List Int} (ha : a.Nodup) (hb : b.Nodup) (h : ∀ k, k ∈ a ↔ k ∈ b) : a.length = b.length :=
  ((List.perm_ext_iff_of_nodup ha hb).mpr h).length_eq
theorem setR_card {w : World} {h : Heap} {a : Addr} {ns : List Int} {n : Nat} (R : SetR w h a (fun j => decide (j ∈ ns)) n) : n = (uniq ns).length := by
  obtain ⟨o, es, ep, t, _, _, _, _, nd, hm, _, _, hn, _⟩ := R
  rw [← hn, ← Array.length_toList, ← List.length_map (f := keyOf)]
  refine same_len nd (uniq_nodup ns) fun k => ?_
  rw [mem_uniq, ← hm k, decide_eq_true_eq]
/-- set(xs), as a value on its way -/
def rSetI (K : PySem.W.Frag) (w : World) : List V → Hp → VK → Prop := fun xs H Q => ∃ (l : Addr) (ns : List Int), xs = [V.ref l] ∧ (SqL K H l (ns.map V.int)) ∧ ns.length ≤ 4000 ∧
  ∀ (p : Addr), H p = none → Q (.ref p) (upd H p (SetO w p (fun j => decide (j ∈ ns)) (uniq ns).length))
theorem cr_setI (hc : X.calm = true) : CallR X (.type "set") (rSetI X.K X.w) := by
  intro pins s σ H xs us Q I r h
  obtain ⟨l, ns, rfl, hq, hl, h⟩ := h
  obtain ⟨its, rv, pl, hz⟩ := I.list hq
  rw [Vals.ref1 r]
  refine set_of_list ns (I.ok.hd hc) pl.isList (by simpa using RZ.intsAre_vals rv) (by unfold scanBound; omega) fun h' tk n hS hn hk => ?_
  have nf : H s.heap.objs.size = none := I.hok.fresh (Nat.le_refl _)
  have e := setR_card hS
  subst e
  exact ⟨.ref _, _, I.laid (a := s.heap.objs.size) (o := SetO X.w s.heap.objs.size (fun j => decide (j ∈ ns)) (uniq ns).length) (t' := tk) hk (Nat.le_refl _) (setO_new hS), rfl, h _ nf⟩
/-- the numbers of a list, for a set -/
def setOf : List D → R (List Int)
  | [.lst ds] => match asInts ds with | some ns => grd (decide (ns.length ≤ 4000)) (.ok ns) | none => .bad
  | _ => .bad
theorem setOf_ok {ds : List D} {ns : List Int} (h : setOf ds = .ok ns) : ∃ es, ds = [.lst es] ∧ asInts es = some ns ∧ ns.length ≤ 4000 := by
  match ds, h with
  | [.lst es], h =>
    have h' : (match asInts es with | some ns => grd (decide (ns.length ≤ 4000)) (.ok ns) | none => .bad) = R.ok ns := h
    cases ha : asInts es with
    | none => rw [ha] at h'; cases h'
    | some ms =>
      rw [ha] at h'
      cases hl : decide (ms.length ≤ 4000) with
      | false => simp only [hl, grd_f] at h'; cases h'
      | true =>
        simp only [hl, grd_t] at h'
        cases h'
        exact ⟨es, rfl, ha, of_decide_eq_true hl⟩
theorem setOf_err {ds : List D} {c : Str} (h : setOf ds = .err c) : False := by
  match ds, h with
  | [.lst es], h =>
    have h' : (match asInts es with | some ns => grd (decide (ns.length ≤ 4000)) (.ok ns) | none => .bad) = R.err c := h
    cases ha : asInts es with
    | none => rw [ha] at h'; cases h'
    | some ms =>
      rw [ha] at h'
      cases hl : decide (ms.length ≤ 4000) with
      | false => simp only [hl, grd_f] at h'; cases h'
      | true => simp only [hl, grd_t] at h'; cases h'
/-- what follows upon a set -/
def tSt (C : Cd) (w : World) (fs : En → R (List D)) : TE := fun σ H Q => ∃ ρ F, Rel C ρ σ F H ∧ match bd (fs ρ) setOf with
  | .ok ns => ∀ p F' H', Ext F H F' H' → Same F' H' → H' p = some (SetO w p (fun j => decide (j ∈ ns)) (uniq ns).length) → Q (.ref p) H'
  | .err c => ∀ F' H', Ext F H F' H' → Same F' H' → C.XW c σ H'
  | .bad => False
theorem d_set {es : List Expr} {fs : En → R (List D)} (hc : X.calm = true) (hC : X.K = C.K) (hm : X.mg "set" = none) (ha : PA X (e :: es) (tV C fs)) (hg : Gl X "set" := by rfl)
    (he : starEach (e :: es) X.env = (false, eval e X.env) :: starEach es X.env := by rfl) (hpl : (backTo pos (starEach es X.env)).any (·.1) = false := by rfl) : PE X (.Call (.Name "set" p) (e :: es) [] pos) (tSt C X.w fs) :=
  (pe_callTy (cr_setI hc) hg hm boot_set ha (by decide) (by decide) he hpl).mono (by
    rintro σ H Q ⟨ρ, F, rl, q⟩
    refine ⟨ρ, F, rl, ?_⟩
    cases hf : fs ρ with
    | bad => simp only [hf, bd_bad] at q
    | err c => simp only [hf, bd_err] at q; exact q
    | ok ds =>
      simp only [hf, bd_ok] at q
      intro v F1 H1 x1 s1 w1
      rw [hC]
      cases hs : setOf ds with
      | bad => rw [hs] at q; exact q.elim
      | err c => exact (setOf_err hs).elim
      | ok ns =>
        rw [hs] at q
        obtain ⟨es, rfl, hns, hl⟩ := setOf_ok hs
        obtain ⟨v, rfl, l, vs, rfl, h1, r1⟩ := Views.one w1
        refine ⟨l, ns, rfl, by rw [← Reps.asInts r1 hns]; exact SqL.of h1, hl, fun p hp => ?_⟩
        exact q p F1 _ (x1.trans (Ext.newH hp _)) (same_upd2 s1 (s1.free hp)) upd_same)
/-- sorted(set(xs)) -/
def srtS (ns : List Int) : List Int := srt (uniq ns)
theorem srtS_of {ns ms : List Int} (h : ms.Pairwise (· < ·)) (hm : ∀ k, k ∈ ms ↔ k ∈ ns) : ms = srtS ns := by
  refine srt_of ?_ (h.imp fun h => Int.le_of_lt h)
  exact (List.perm_ext_iff_of_nodup (h.imp fun h => Int.ne_of_lt h) (uniq_nodup ns)).mpr fun k => (hm k).trans mem_uniq.symm
def sortS (ds : List D) : R D := bd (setOf ds) fun ns => grd (decide ((uniq ns).length < 64)) (.ok (.lst ((srtS ns).map .int)))
def lenS (ds : List D) : R D := bd (setOf ds) fun ns => .ok (.int (uniq ns).length)
theorem d_sortedSet {fs : En → R (List D)} {es : List Expr} (hc : X.calm = true) (hC : X.K = C.K) (hm : X.mg "sorted" = none) (hm2 : X.mg "set" = none) (ha : PA X (e :: es) (tV C fs)) (hg : Gl X "sorted" := by rfl) (hg2 : Gl X "set" := by rfl)
    (he2 : starEach (e :: es) X.env = (false, eval e X.env) :: starEach es X.env := by rfl) (hpl2 : (backTo q (starEach es X.env)).any (·.1) = false := by rfl)
    (he : starEach [.Call (.Name "set" p2) (e :: es) [] q] X.env = (false, eval (.Call (.Name "set" p2) (e :: es) [] q) X.env) :: starEach [] X.env := by rfl) (hpl : (backTo pos (starEach [] X.env)).any (·.1) = false := by rfl) :
    PE X (.Call (.Name "sorted" p) [.Call (.Name "set" p2) (e :: es) [] q] [] pos) (tO C (nop fs sortS)) :=
  (pe_callB (cr_sortedSet hc) hg hm (by decide +kernel) (pa_cons (d_set hc hC hm2 ha hg2 he2 hpl2) pa_nil he) (by decide) (by decide) he hpl).mono (by
    rintro σ H Q ⟨ρ, F, rl, o⟩
    refine ⟨ρ, F, rl, ?_⟩
    unfold nop at o
    cases hf : fs ρ with
    | bad => simp only [hf, bd_bad] at o; exact o.elim
    | err c => simp only [hf, bd_err] at o; exact o
    | ok ds =>
      simp only [hf, bd_ok] at o ⊢
      unfold sortS at o
      cases hs : setOf ds with
      | bad => rw [hs] at o; exact o
      | err c => exact (setOf_err hs).elim
      | ok ns =>
        rw [hs, bd_ok] at o
        intro pp F1 H1 x1 s1 hp
        obtain ⟨z, o⟩ := grd_out o
        refine ⟨pp, _, _, rfl, hp, of_decide_eq_true z, fun ms l h1 h2 h3 hl => ?_⟩
        have e : ms = srtS ns := srtS_of h1 fun k => by rw [h2 k, decide_eq_true_eq]
        subst e
        exact fin_lst (Out.later o x1) s1 x1.h (Reps.of_ints _) hl)
/-- the number of a set's members -/
def rLenSet (w : World) : List V → Hp → VK → Prop := fun vs H Q => ∃ (a : Addr) (S : Int → Bool) (n : Nat), vs = [V.ref a] ∧ H a = some (SetO w a S n) ∧ Q (.int n) H
theorem cr_lenSet : CallR X (.builtin "len") (rLenSet X.w) := by
  intro pins s σ H vs us Q I r h
  obtain ⟨a, S, n, rfl, ha, q⟩ := h
  have R := setO_get I ha
  rw [Vals.ref1 r]
  have hS : s.heap.SetOf (intKind X.prog X.w) a S n := R.setOf
  obtain ⟨o, es, ep, t, ho, hex, hd, _, _, hb, hf, hn⟩ := hS
  exact call_len_set ho hex hd hf (by rw [hn]; unfold scanBound at hb; omega) ⟨.int n, H, I.tok _, ⟨_, by rw [hn]⟩, q⟩
theorem d_lenSet {fs : En → R (List D)} {es : List Expr} (hc : X.calm = true) (hC : X.K = C.K) (hm : X.mg "len" = none) (hm2 : X.mg "set" = none) (ha : PA X (e :: es) (tV C fs)) (hg : Gl X "len" := by rfl) (hg2 : Gl X "set" := by rfl)
    (he2 : starEach (e :: es) X.env = (false, eval e X.env) :: starEach es X.env := by rfl) (hpl2 : (backTo q (starEach es X.env)).any (·.1) = false := by rfl)
    (he : starEach [.Call (.Name "set" p2) (e :: es) [] q] X.env = (false, eval (.Call (.Name "set" p2) (e :: es) [] q) X.env) :: starEach [] X.env := by rfl) (hpl : (backTo pos (starEach [] X.env)).any (·.1) = false := by rfl) :
    PE X (.Call (.Name "len" p) [.Call (.Name "set" p2) (e :: es) [] q] [] pos) (tO C (nop fs lenS)) :=
  (pe_callB cr_lenSet hg hm boot_len (pa_cons (d_set hc hC hm2 ha hg2 he2 hpl2) pa_nil he) (by decide) (by decide) he hpl).mono (by
    rintro σ H Q ⟨ρ, F, rl, o⟩
    refine ⟨ρ, F, rl, ?_⟩
    unfold nop at o
    cases hf : fs ρ with
    | bad => simp only [hf, bd_bad] at o; exact o.elim
    | err c => simp only [hf, bd_err] at o; exact o
    | ok ds =>
      simp only [hf, bd_ok] at o ⊢
      unfold lenS at o
      cases hs : setOf ds with
      | bad => rw [hs] at o; exact o
      | err c => exact (setOf_err hs).elim
      | ok ns =>
        rw [hs, bd_ok] at o
        intro pp F1 H1 x1 s1 hp
        exact ⟨pp, _, _, rfl, hp, fin_flat (Out.later o x1) s1 rfl⟩)
end
end DL
/-! the D layer: enumerate, zip, reversed; least and greatest, sums, places -/
namespace DL
open PySem PySem.Spec PyProof.Rows L2
section
variable {X : Cx} {C : Cd} {e a b c tg : Expr} {f g k : En → R D} {pos p p2 q apos cpos tpos : Pos} {K : PySem.W.Frag} {F H B : Hp} {kk : Nat} {es : List Expr} {fs : En → R (List D)}
/-! ### what is walked -/
theorem ext_tup {H : Hp} {T : Addr} {vs : List V} {F : Hp} (s : Same F H) (n : H T = none) : Ext F H (upd F T (.tup vs)) (upd H T (.tup vs)) ∧ Same (upd F T (.tup vs)) (upd H T (.tup vs)) :=
  ⟨Ext.new s n _, same_settle (same_upd2 s (s.free n)) upd_same⟩
def enumD (ds : List D) : List D := ds.mapIdx fun i d => D.tup [.int (i : Nat), d]
theorem iter_enum {l : Addr} {vs : List V} {ds : List D} (h : SqL K B l vs) (r : Reps K F ds vs) : IterOk K (Ite K l) B F (enumD ds) := fun i F2 H2 b f s => by
  have hq := b.seq h
  unfold enumD
  rw [List.length_mapIdx]
  refine ⟨fun hi => ?_, fun hi => ⟨vs, hq, by rw [r.length]; omega⟩⟩
  obtain ⟨v, hv, w⟩ := r.get (List.getElem?_eq_getElem hi)
  refine ⟨⟨vs, v, hq, hv⟩, fun x H3 y => ?_⟩
  obtain ⟨T, u, rfl, nT, rfl, y⟩ := y
  have e := (y vs hq).symm.trans hv
  cases e
  obtain ⟨x1, s1⟩ := ext_tup (vs := [V.int (i : Nat), v]) s nT
  refine ⟨_, _, by rw [List.getElem?_mapIdx, List.getElem?_eq_getElem hi]; rfl, x1, s1, ?_⟩
  exact .tup upd_same (.cons (.int _) (.cons ((w.mono f).mono (same_upd (s.free nT))) .nil))
def zipD (as bs : List D) : List D := List.zipWith (fun a b => D.tup [a, b]) as bs
theorem iter_zip {l m : Addr} {vs us : List V} {ds es : List D} (h : SqL K B l vs) (h' : SqL K B m us) (r : Reps K F ds vs) (r' : Reps K F es us) : IterOk K (Itz K l m) B F (zipD ds es) := fun i F2 H2 b f s => by
  have hq := b.seq h
  have hq' := b.seq h'
  unfold zipD
  rw [List.length_zipWith]
  refine ⟨fun hi => ?_, fun hi => ⟨vs, us, hq, hq', by rw [r.length, r'.length]; omega⟩⟩
  have hi1 : i < ds.length := by omega
  have hi2 : i < es.length := by omega
  obtain ⟨v, hv, w⟩ := r.get (List.getElem?_eq_getElem hi1)
  obtain ⟨u, hu, w'⟩ := r'.get (List.getElem?_eq_getElem hi2)
  refine ⟨⟨vs, us, v, u, hq, hq', hv, hu⟩, fun x H3 y => ?_⟩
  obtain ⟨T, v', u', rfl, nT, rfl, y, y'⟩ := y
  have e := (y vs hq).symm.trans hv
  have e' := (y' us hq').symm.trans hu
  cases e
  cases e'
  obtain ⟨x1, s1⟩ := ext_tup (vs := [v, u]) s nT
  refine ⟨_, _, by rw [List.getElem?_zipWith, List.getElem?_eq_getElem hi1, List.getElem?_eq_getElem hi2], x1, s1, ?_⟩
  have sm := same_upd (o := HO.tup [v, u]) (s.free nT)
  exact .tup upd_same (.cons ((w.mono f).mono sm) (.cons ((w'.mono f).mono sm) .nil))
theorem iter_rev {l : Addr} {vs : List V} {ds : List D} (h : SqL K B l vs) (r : Reps K F ds vs) : IterOk K (Itv K l vs.length) B F ds.reverse := fun i F2 H2 b f s => by
  have hq := b.seq h
  rw [List.length_reverse]
  have hl := r.length
  refine ⟨fun hi => ?_, fun hi => Nat.le_of_eq (by rw [hl, hi])⟩
  have hj : ds.length - 1 - i < ds.length := by omega
  obtain ⟨v, hv, w⟩ := r.get (List.getElem?_eq_getElem hj)
  refine ⟨⟨by omega, vs, v, hq, by rw [hl]; exact hv⟩, fun x H3 y => ?_⟩
  obtain ⟨rfl, y⟩ := y
  have e := y vs hq
  rw [hl] at e
  have e := e.symm.trans hv
  cases e
  refine ⟨F2, _, ?_, Ext.refl _ _, s, w.mono f⟩
  rw [List.getElem?_reverse hi, List.getElem?_eq_getElem hj]
theorem outA_it {st : Bool} {σ : L2.St} {F H : Hp} {x : R (List D)} {w : List D → R (List D)} {Q : It → Hp → Prop} {Q' : List V → Hp → Prop} (o : OutI C st σ F H (bd x w) Q)
    (h : ∀ ds vs F' H', OutI C st σ F' H' (w ds) Q → Ext F H F' H' → Same F' H' → Reps C.K F' ds vs → Q' vs H') : OutA C σ F H x Q' := by
  cases x with
  | bad => exact o
  | err c => exact o
  | ok ds => exact fun vs F' H' x s w => h ds vs F' H' (OutI.later o x) x s w
def itEnum : List D → R (List D)
  | [.lst ds] => .ok (enumD ds)
  | [.scr ns] => .ok (enumD (ns.map .int))
  | _ => .bad
def itZip : List D → R (List D)
  | [.lst ds, .lst es] => .ok (zipD ds es)
  | [.scr ns, .lst es] => .ok (zipD (ns.map .int) es)
  | [.lst ds, .scr ns] => .ok (zipD ds (ns.map .int))
  | _ => .bad
def itRev : List D → R (List D)
  | [.lst ds] => .ok ds.reverse
  | [.scr ns] => .ok (ns.map D.int).reverse
  | _ => .bad
theorem rep_seq {ds : List D} {v : V} (w : Rep K F (.lst ds) v) (s : Same F H) : ∃ l vs, v = .ref l ∧ SqL K H l vs ∧ SqL K F l vs ∧ Reps K F ds vs := by
  cases w with
  | lst ha r => exact ⟨_, _, rfl, SqL.of (s _ _ ha), SqL.of ha, r⟩
theorem rep_scr {ns : List Int} {v : V} (w : Rep K F (.scr ns) v) (s : Same F H) : ∃ l, v = .ref l ∧ SqL K H l (ns.map V.int) ∧ SqL K F l (ns.map V.int) := by
  cases w with
  | scr ha => exact ⟨_, rfl, s.seq ha, ha⟩
theorem Reps.one {d : D} {vs : List V} (w : Reps K F [d] vs) : ∃ v, vs = [v] ∧ Rep K F d v := by
  cases w with
  | cons r t => cases t; exact ⟨_, rfl, r⟩
theorem Reps.two {d e : D} {vs : List V} (w : Reps K F [d, e] vs) : ∃ v u, vs = [v, u] ∧ Rep K F d v ∧ Rep K F e u := by
  cases w with
  | cons r t =>
    obtain ⟨u, rfl, q⟩ := Reps.one t
    exact ⟨_, u, rfl, r, q⟩
theorem i_enumE {elts : List Expr} {k2 : Nat} (hC : X.K = C.K) (hm : X.mg "enumerate" = none) (ha : PA X [a] (tA C fs)) (hg : Gl X "enumerate" := by rfl) (hs : starEach [a] X.env = [(false, eval a X.env)] := by rfl) :
    PI X (.Tuple elts k2 tpos) (.Call (.Name "enumerate" p) [a] [] pos) (tI C true (irg fs itEnum)) := (pi_enum hg hm ha hs).mono fun σ H Q ⟨ρ, F, r, o⟩ => ⟨ρ, F, r, outA_it o fun ds vs F' H' o x s w => by
      rw [hC]
      unfold itEnum at o
      split at o
      · obtain ⟨v, rfl, w1⟩ := Reps.one w
        obtain ⟨l, ws, rfl, h1, h2, r⟩ := rep_seq w1 s
        exact ⟨l, ws, rfl, h1, o _ F' H' (Ext.refl _ _) s (iter_enum (by rw [if_pos rfl]; exact jn_l.seq h2) r)⟩
      · obtain ⟨v, rfl, w1⟩ := Reps.one w
        obtain ⟨l, rfl, h1, h2⟩ := rep_scr w1 s
        exact ⟨l, _, rfl, h1, o _ F' H' (Ext.refl _ _) s (iter_enum (by rw [if_pos rfl]; exact jn_l.seq h2) (Reps.of_ints _))⟩
      · exact o.elim⟩
theorem i_zipE {elts : List Expr} {k2 : Nat} (hC : X.K = C.K) (hm : X.mg "zip" = none) (ha : PA X [a, b] (tA C fs)) (hg : Gl X "zip" := by rfl)
    (hs : starEach [a, b] X.env = (false, eval a X.env) :: starEach [b] X.env := by rfl) (hpl : (backTo pos (starEach [b] X.env)).any (·.1) = false := by rfl) :
    PI X (.Tuple elts k2 tpos) (.Call (.Name "zip" p) [a, b] [] pos) (tI C true (irg fs itZip)) := (pi_zip hg hm ha hs hpl).mono fun σ H Q ⟨ρ, F, r, o⟩ => ⟨ρ, F, r, outA_it o fun ds vs F' H' o x s w => by
      rw [hC]
      unfold itZip at o
      split at o
      · obtain ⟨v, u, rfl, w1, w2⟩ := Reps.two w
        obtain ⟨l, ws, rfl, h1, h2, r⟩ := rep_seq w1 s
        obtain ⟨l', ws', rfl, h1', h2', r'⟩ := rep_seq w2 s
        exact ⟨l, l', ws, ws', rfl, h1, h1', o _ F' H' (Ext.refl _ _) s (iter_zip (by rw [if_pos rfl]; exact jn_l.seq h2) (by rw [if_pos rfl]; exact jn_l.seq h2') r r')⟩
      · obtain ⟨v, u, rfl, w1, w2⟩ := Reps.two w
        obtain ⟨l, rfl, h1, h2⟩ := rep_scr w1 s
        obtain ⟨l', ws', rfl, h1', h2', r'⟩ := rep_seq w2 s
        exact ⟨l, l', _, ws', rfl, h1, h1', o _ F' H' (Ext.refl _ _) s (iter_zip (by rw [if_pos rfl]; exact jn_l.seq h2) (by rw [if_pos rfl]; exact jn_l.seq h2') (Reps.of_ints _) r')⟩
      · obtain ⟨v, u, rfl, w1, w2⟩ := Reps.two w
        obtain ⟨l, ws, rfl, h1, h2, r⟩ := rep_seq w1 s
        obtain ⟨l', rfl, h1', h2'⟩ := rep_scr w2 s
        exact ⟨l, l', ws, _, rfl, h1, h1', o _ F' H' (Ext.refl _ _) s (iter_zip (by rw [if_pos rfl]; exact jn_l.seq h2) (by rw [if_pos rfl]; exact jn_l.seq h2') r (Reps.of_ints _))⟩
      · exact o.elim⟩
theorem i_revE (hC : X.K = C.K) (hm : X.mg "reversed" = none) (ha : PA X [a] (tA C fs)) (hg : Gl X "reversed" := by rfl) (hs : starEach [a] X.env = [(false, eval a X.env)] := by rfl) :
    PI X tg (.Call (.Name "reversed" p) [a] [] pos) (tI C true (irg fs itRev)) := (pi_reversed hg hm ha hs).mono fun σ H Q ⟨ρ, F, r, o⟩ => ⟨ρ, F, r, outA_it o fun ds vs F' H' o x s w => by
      rw [hC]
      unfold itRev at o
      split at o
      · obtain ⟨v, rfl, w1⟩ := Reps.one w
        obtain ⟨l, ws, rfl, h1, h2, r⟩ := rep_seq w1 s
        exact ⟨l, ws, rfl, h1, o _ F' H' (Ext.refl _ _) s (iter_rev (by rw [if_pos rfl]; exact jn_l.seq h2) r)⟩
      · obtain ⟨v, rfl, w1⟩ := Reps.one w
        obtain ⟨l, rfl, h1, h2⟩ := rep_scr w1 s
        exact ⟨l, _, rfl, h1, o _ F' H' (Ext.refl _ _) s (iter_rev (by rw [if_pos rfl]; exact jn_l.seq h2) (Reps.of_ints _))⟩
      · exact o.elim⟩
/-! ### least, greatest, sums -/
def dMax : List D → R D
  | [.int i, .int j] => .ok (.int (if j > i then j else i))
  | _ => .bad
def dMin : List D → R D
  | [.int i, .int j] => .ok (.int (if j < i then j else i))
  | _ => .bad
theorem max_ok : OpL C (fun xs H Q => ∃ i j, xs = [.int i, .int j] ∧ Q (.int (if j > i then j else i)) H) dMax := by
  intro σ F H Q ds vs o s w
  unfold dMax at o
  split at o
  · obtain ⟨v, u, rfl, w1, w2⟩ := w.two
    obtain rfl : v = V.int _ := w1
    obtain rfl : u = V.int _ := w2
    exact ⟨_, _, rfl, fin_flat o s rfl⟩
  · exact o.elim
theorem min_ok : OpL C (fun xs H Q => ∃ i j, xs = [.int i, .int j] ∧ Q (.int (if j < i then j else i)) H) dMin := by
  intro σ F H Q ds vs o s w
  unfold dMin at o
  split at o
  · obtain ⟨v, u, rfl, w1, w2⟩ := w.two
    obtain rfl : v = V.int _ := w1
    obtain rfl : u = V.int _ := w2
    exact ⟨_, _, rfl, fin_flat o s rfl⟩
  · exact o.elim
theorem d_max (hc : X.calm = true) (hm : X.mg "max" = none) (ha : PA X (e :: es) (tV C fs)) (hg : Gl X "max" := by rfl)
    (he : starEach (e :: es) X.env = (false, eval e X.env) :: starEach es X.env := by rfl) (hpl : (backTo pos (starEach es X.env)).any (·.1) = false := by rfl) : PE X (.Call (.Name "max" p) (e :: es) [] pos) (tO C (nop fs dMax)) :=
  d_callB (call_max2 hc) max_ok hm (by decide +kernel) ha hg (by decide) (by decide) he hpl
theorem d_min (hc : X.calm = true) (hm : X.mg "min" = none) (ha : PA X (e :: es) (tV C fs)) (hg : Gl X "min" := by rfl)
    (he : starEach (e :: es) X.env = (false, eval e X.env) :: starEach es X.env := by rfl) (hpl : (backTo pos (starEach es X.env)).any (·.1) = false := by rfl) : PE X (.Call (.Name "min" p) (e :: es) [] pos) (tO C (nop fs dMin)) :=
  d_callB (call_min2 hc) min_ok hm (by decide +kernel) ha hg (by decide) (by decide) he hpl
def dSum : List D → R D
  | [.lst ds] => match asInts ds with | some ns => .ok (.int ns.sum) | none => .bad
  | _ => .bad
theorem sum_ok : OpL C (rSum C.K) dSum := by
  intro σ F H Q ds vs o s w
  unfold dSum at o
  split at o
  · obtain ⟨v, rfl, p, vs, rfl, h, r⟩ := w.one
    split at o
    · rename_i ns hn
      exact ⟨p, ns, rfl, by rw [← Reps.asInts r hn]; exact SqL.of h, fin_flat o s rfl⟩
    · exact o.elim
  · exact o.elim
theorem d_sum (hc : X.calm = true) (hC : X.K = C.K) (hm : X.mg "sum" = none) (ha : PA X (e :: es) (tV C fs)) (hg : Gl X "sum" := by rfl)
    (he : starEach (e :: es) X.env = (false, eval e X.env) :: starEach es X.env := by rfl) (hpl : (backTo pos (starEach es X.env)).any (·.1) = false := by rfl) : PE X (.Call (.Name "sum" p) (e :: es) [] pos) (tO C (nop fs dSum)) :=
  d_callB (hC ▸ cr_sum hc) sum_ok hm (by decide +kernel) ha hg (by decide) (by decide) he hpl
/-! ### where a flat thing stands -/
def idxF (x : D) : List D → Nat → Option Nat
  | [], _ => none
  | y :: ys, n => if eqF y x = true then some n else idxF x ys (n + 1)
theorem idxF_ok {x : D} : ∀ {ys : List D} {n j : Nat}, idxF x ys n = some j → ∃ m z, j = n + m ∧ ys[m]? = some z ∧ eqF z x = true ∧ ∀ i z, i < m → ys[i]? = some z → eqF z x = false
  | [], _, _, h => by cases h
  | y :: ys, n, j, h => by
    unfold idxF at h
    split at h
    · rename_i hy
      cases h
      exact ⟨0, y, rfl, rfl, hy, fun i z hi => absurd hi (Nat.not_lt_zero _)⟩
    · rename_i hy
      obtain ⟨m, z, rfl, h2, h3, h4⟩ := idxF_ok h
      refine ⟨m + 1, z, by omega, by simpa using h2, h3, fun i u hi hu => ?_⟩
      cases i with
      | zero => cases hu; simpa using hy
      | succ i => exact h4 i u (by omega) (by simpa using hu)
def dIndex : D → D → R D
  | .lst ds, x => grd (isFlat x && ds.all isFlat) (match idxF x ds 0 with | some j => .ok (.int (j : Nat)) | none => .bad)
  | _, _ => .bad
def idx (f g : En → R D) : En → R D := fun ρ => bd (f ρ) fun d => match d with | .lst ds => bd (g ρ) fun e => dIndex (.lst ds) e | _ => .bad
theorem d_index (hC : X.K = C.K) (ha : PE X a (tR C f)) (hb : PE X b (tR C g)) (hbase : attributeBase a "index" X.env (eval a X.env) = eval a X.env := by rfl)
    (hfew : ((backTo cpos (starEach [b] X.env)).all (fun x => !x.1) && (backToKw cpos (keywordEach [] X.env)).all (fun x => x.1.isSome)
      && decide (([b] : List Expr).length + ([] : List Keyword).length + (if ([] : List Keyword).isEmpty then 0 else 1) < 30)) = true := by rfl)
    (hline : (apos.endLine == cpos.line) = true := by rfl) (hs : starEach [b] X.env = (false, eval b X.env) :: starEach [] X.env := by rfl) (hplain : (backTo cpos (starEach [] X.env)).any (·.1) = false := by rfl) :
    PE X (.Call (.Attribute a "index" apos) [b] [] cpos) (tO C (idx f g)) :=
  (pe_bm PySem.F.plainAttrs_list PySem.F.slot_list_index PySem.F.type_list_index mt_index ha (pa_cons hb pa_nil hs) hbase hfew hline hs hplain).mono (by
    rintro σ H Q ⟨ρ, F, rl, o⟩
    rw [hC]
    refine ⟨ρ, F, rl, o.fst fun d v F1 H1 _ o x1 s1 w1 => ?_⟩
    cases d with
    | lst ds =>
      have o := Out.later o x1
      obtain ⟨l, vs, rfl, h1, r1⟩ := w1
      refine ⟨.inl ⟨rfl, _, SqL.of h1⟩, ρ, F1, rl.grow x1 s1, o.fst fun z y F2 H2 _ o x2 s2 w2 => ?_⟩
      have o := Out.later o x2
      obtain ⟨hf, o⟩ := grd_out o
      rw [Bool.and_eq_true] at hf
      have o' : Out C σ F2 H2 (fun F' H' => New C.K H F' H') (match idxF z ds 0 with | some j => .ok (.int (j : Nat)) | none => .bad) Q := o
      have r2 := r1.mono x2.f
      cases hj : idxF z ds 0 with
      | none => rw [hj] at o'; exact o'.elim
      | some j =>
        rw [hj] at o'
        obtain ⟨m, zz, e, e1, e2, e3⟩ := idxF_ok hj
        rw [Nat.zero_add] at e
        subst e
        obtain ⟨u, hu, wu⟩ := r2.get e1
        have wz := w2.rep hf.1
        have fl : ∀ d ∈ ds, isFlat d = true := fun d hd => List.all_eq_true.mp hf.2 d hd
        refine ⟨l, vs, y, j, u, rfl, rfl, SqL.of (x2.h _ _ h1), wz.flatV hf.1, r2.flats hf.2, hu, ?_, fun i u' hi hu' => ?_, fin_flat o' s2 rfl⟩
        · rw [← wu.eqF wz (fl _ (List.mem_of_getElem? e1)) hf.1]; exact e2
        · obtain ⟨d', hd', wd'⟩ := r2.get' hu'
          rw [← wd'.eqF wz (fl _ (List.mem_of_getElem? hd')) hf.1]
          exact e3 i d' hi hd'
    | _ => exact o.elim)
end
end DL
/-! the D layer: turned about, greatest of a list, counted -/
namespace DL
open PySem PySem.Spec PyProof.Rows L2
section
variable {prog : Program} {w : World} {A : Around} {E : Value → Shared → Prop} {s : Shared}
theorem max_default_raw {l : Addr} {its : List Value} {ns : List Int} {d : Value} {Q : Value → Shared → Prop} (hh : A.handled = none) (hl : s.heap.IsList l its.toArray) (hi : IntsAre its ns)
    (h0 : ns = [] → ∀ h' tk, (∀ b o, s.heap.get? b = some o → h'.get? b = some o) → Q d { s with heap := h', toks := tk })
    (h : ∀ h' tk M t', (∀ b o, s.heap.get? b = some o → h'.get? b = some o) → M ∈ ns → (∀ a, a ∈ ns → a ≤ M) → Q (.int M t') { s with heap := h', toks := tk }) :
    wpAny (model prog w) A (call (.builtin "max") [.ref l] [(Str.ofString "default", d)]) Q E s := by
  obtain ⟨xs, e⟩ := hi.allInts.items
  have hn : numsOf (intItems xs).toList = ns := by rw [← e]; exact hi.numsOf
  rw [nums_intItems] at hn
  subst hn
  rw [e] at hl
  have hsz : (intItems xs).size = xs.size := by simp [intItems]
  refine call_max_walkD (PySem.W.iter_listW (A := A.in1) hh hl fun s₂ e W st hfp hw hk => ?_)
  refine ⟨_, _, _, _, _, _, _, s.heap, (fun i j => decide (numAt xs i > numAt xs j)), rfl, W, st, hfp, hw, hk, fun hz s' m => ?_, fun hp => ⟨fun i j vi vj s' Q' E' _ hi hj hq => CmpOf.ints_gt (numAt xs) (fun _ _ => intItems_at) i j vi vj s' Q' E' hi hj hq, fun v s' hP m => ?_⟩⟩
  · obtain ⟨h', tk, rfl, hk'⟩ := PySem.W.moved_old e rfl m
    refine h0 (List.eq_nil_of_length_eq_zero ?_) h' tk hk'
    rw [List.length_map, Array.length_toList]
    omega
  · obtain ⟨h', tk, rfl, hk'⟩ := PySem.W.moved_old e rfl m
    rw [hsz] at hP hp
    obtain ⟨t, rfl⟩ := intItems_at hP
    obtain ⟨h1, h2⟩ := argBest_gt (numAt xs) (xs.size - 1)
    refine h h' tk _ t hk' ?_ fun a ha => ?_
    · rw [numAt_eq]; exact PySem.getD_mem (by rw [List.length_map, Array.length_toList]; omega)
    · obtain ⟨j, hj, rfl⟩ := mem_getD ha
      rw [List.length_map, Array.length_toList] at hj
      rw [← numAt_eq]; exact h2 j (by omega)
end
/-- the greatest of a list -/
def maxI : List Int → Int → Int
  | [], d => d
  | n :: ns, _ => ns.foldl max n
theorem foldl_max (ns : List Int) : ∀ n : Int, (ns.foldl max n = n ∨ ns.foldl max n ∈ ns) ∧ n ≤ ns.foldl max n ∧ ∀ a ∈ ns, a ≤ ns.foldl max n := by
  induction ns with
  | nil => intro n; exact ⟨.inl rfl, Int.le_refl _, fun _ h => nomatch h⟩
  | cons m ns ih =>
    intro n
    rw [List.foldl_cons]
    obtain ⟨h1, h2, h3⟩ := ih (max n m)
    refine ⟨?_, by omega, fun a ha => ?_⟩
    · rcases h1 with h1 | h1
      · by_cases hc : n ≤ m
        · right; rw [h1, Int.max_eq_right hc]; exact List.mem_cons_self
        · left; rw [h1, Int.max_eq_left (by omega)]
      · exact .inr (List.mem_cons_of_mem _ h1)
    · rcases List.mem_cons.mp ha with rfl | ha
      · omega
      · exact h3 a ha
theorem maxI_of {ns : List Int} {M d : Int} (hm : M ∈ ns) (h : ∀ a, a ∈ ns → a ≤ M) : M = maxI ns d := by
  cases ns with
  | nil => cases hm
  | cons n ns =>
    obtain ⟨h1, h2, h3⟩ := foldl_max ns n
    show M = ns.foldl max n
    have u1 : M ≤ ns.foldl max n := by
      rcases List.mem_cons.mp hm with rfl | hm
      · exact h2
      · exact h3 _ hm
    have u2 : ns.foldl max n ≤ M := by
      rcases h1 with h1 | h1
      · rw [h1]; exact h _ List.mem_cons_self
      · exact h _ (List.mem_cons_of_mem _ h1)
    omega
section
variable {X : Cx} {C : Cd} {e a b c tg : Expr} {f g k : En → R D} {pos p p1 p2 p3 q apos cpos kpos : Pos} {K : PySem.W.Frag} {F H B : Hp} {kk : Nat} {es : List Expr} {fs : En → R (List D)}
/-! ### turned about -/
def dRevS : D → R D
  | .lst ds => .ok (.lst ds.reverse)
  | .scr ns => .ok (.lst (ns.map D.int).reverse)
  | _ => .bad
theorem d_rev (hC : X.K = C.K) (ha : PE X a (tR C f)) : PE X (.Subscript a (.Slice none none (some (.UnaryOp .USub (.Constant (.int 1) kk p1) p2)) p3) pos) (tO C (uop f dRevS)) :=
  (pe_revL ha).mono (one (r := fun x H1 Q => ∃ a xs, x = .ref a ∧ SqL X.K H1 a xs ∧ ∀ p, H1 p = none → Q (.ref p) (upd H1 p (.lst xs.reverse))) (by
    intro σ F H Q d x o s w
    rw [hC]
    unfold dRevS at o
    split at o
    · obtain ⟨a, vs, rfl, h1, r1⟩ := w
      exact ⟨a, vs, rfl, SqL.of h1, fun p hp => fin_lst o s (Same.refl _) r1.reverse hp⟩
    · obtain ⟨a, rfl, h1⟩ := w
      exact ⟨a, _, rfl, h1, fun p hp => fin_lst o s (Same.refl _) (Reps.of_ints _).reverse hp⟩
    · exact o.elim))
/-! ### greatest of a list -/
def rMaxDef (K : PySem.W.Frag) : List V → List V → Hp → VK → Prop := fun vs zs H Q => ∃ (a : Addr) (ns : List Int) (d : Int), vs = [V.ref a] ∧ zs = [.int d] ∧ SqL K H a (ns.map V.int) ∧ Q (.int (maxI ns d)) H
theorem cr_maxDef (hc : X.calm = true) : CallRK X (.builtin "max") [Str.ofString "default"] (rMaxDef X.K) := by
  intro pins s σ H vs zs us ws Q I r rz h
  obtain ⟨a, ns, d, rfl, rfl, hs, q⟩ := h
  obtain rfl := Vals.ref1 r
  obtain ⟨w1, rfl, e1⟩ := vals1 rz
  obtain ⟨t, rfl⟩ := e1
  obtain ⟨its, rv, hl, _⟩ := I.list hs
  refine max_default_raw (I.ok.hd hc) hl.isList rv.ints (fun hn h' tk hk => ?_) fun h' tk m t' hk h1 h2 => ?_
  · subst hn
    exact ⟨.int d, H, I.kept hk, ⟨_, rfl⟩, q⟩
  · rw [maxI_of (d := d) h1 h2]
    exact ⟨.int _, H, I.kept hk, ⟨_, rfl⟩, q⟩
def dMaxDef : D → D → R D
  | .lst ds, .int d => match asInts ds with | some ns => .ok (.int (maxI ns d)) | none => .bad
  | _, _ => .bad
theorem d_maxDef (hc : X.calm = true) (hC : X.K = C.K) (hm : X.mg "max" = none) (ha : PE X a (tR C f)) (hb : PE X b (tR C g)) (hg : Gl X "max" := by rfl)
    (hs : starEach [a] X.env = (false, eval a X.env) :: starEach [] X.env := by rfl)
    (he : backTo pos (starEach [a] X.env) = (false, eval a X.env) :: backTo pos (starEach [] X.env) := by rfl) (hpl : (backTo pos (starEach [a] X.env)).any (·.1) = false := by rfl)
    (hall : (backToKw pos (keywordEach [⟨some "default", b, kpos⟩] X.env)).all (·.1.isSome) = true := by rfl) (hnone : (backToKw pos (keywordEach [⟨some "default", b, kpos⟩] X.env)).any (·.1.isNone) = false := by rfl) (hks : (backToKw pos (keywordEach [⟨some "default", b, kpos⟩] X.env)).filterMap (·.1) = [Str.ofString "default"] := by rfl) :
    PE X (.Call (.Name "max" p) [a] [⟨some "default", b, kpos⟩] pos) (tO C (bop f g dMaxDef)) :=
  (pe_callBK (hC ▸ cr_maxDef hc) hg hm (by decide +kernel) (pa_cons ha pa_nil hs) (pk_cons hb pk_nil) (by decide) (by decide) he hpl hall hnone hks).mono (two (r := fun x y H Q => rMaxDef C.K [x] [y] H Q) (by
    intro σ F H Q d e x y o s w1 w2
    unfold dMaxDef at o
    split at o
    · obtain ⟨p, vs, rfl, h, r⟩ := w1
      cases w2
      split at o
      · rename_i ns hn
        exact ⟨p, ns, _, rfl, rfl, by rw [← Reps.asInts r hn]; exact SqL.of h, fin_flat o s rfl⟩
      · exact o.elim
    · exact o.elim))
/-! ### counted -/
def rCntD (K : PySem.W.Frag) : V → List V → Hp → VK → Prop := fun x xs H Q => ∃ (a : Addr) (y : V) (d : PyData) (ds : List PyData), x = V.ref a ∧ xs = [y] ∧ Dp K H (V.ref a) (.list ds) ∧ Dp K H y d ∧
  SeqAt.shaped (.list ds) = true ∧ SeqAt.shaped d = true ∧ Q (.int (ds.countP fun z => PyData.eqv z d : Nat)) H
theorem mt_lcountD (hu : X.A.units + 65 < cLine) : MtR X "list.count" (rCntD X.K) := by
  intro pins s σ H x xs v us Q I rx rxs h
  obtain ⟨a, y, d, ds, rfl, rfl, hl, hy, sl, sd, q⟩ := h
  cases rx
  cases rxs with
  | cons ry rt =>
    rename_i uy ut
    cases rt
    obtain ⟨bs, r1⟩ := Dp.reads I d y uy hy ry
    have hxs : PyData.canLayAll0 ds = true := SeqAt.canLay_of_shaped sl
    have hroom : X.A.units + 1 + min (PyData.depthAll ds) d.depth < cLine := room_in_shaped sd hu
    cases hl with
    | lst hs ha =>
      obtain ⟨its, rv, ⟨⟨cls, dd, data, sls⟩, n, ho, hc, hdn, hdt⟩, hlen⟩ := I.list hs
      simp only at hc hdt
      subst hc hdt
      obtain ⟨as, h4⟩ := Dp.readsAll I ds _ its ha rv
      have hmap : its.map (SeqAt.readOf s.heap) = ds := SeqAt.readsAll_map ds its as hxs h4
      refine call_meets PySem.F.slot_list_count ⟨_, ho, rfl⟩ PySem.F.entry_list_count (PySem.F.args_list_count_2 _ _)
        (SeqAt.list_countAt a its.toArray n dd sls uy (fun u => PyData.eqv (SeqAt.readOf s.heap u) d)) ⟨ho, SeqAt.items_eqAt (vs := its.toArray) (show ReadsAll s.heap its.toArray.toList ds as from h4) r1 hxs (SeqAt.canLay_of_shaped sd) hroom, ?_⟩
      have ec : its.toArray.toList.countP (fun u => PyData.eqv (SeqAt.readOf s.heap u) d) = ds.countP fun z => PyData.eqv z d := by
        rw [← hmap, List.countP_map]
        rfl
      refine ⟨.int (ds.countP fun z => PyData.eqv z d : Nat), H, I.tok _, ⟨s.toks, ?_⟩, q⟩
      show Value.int ((its.toArray.toList.countP (fun u => PyData.eqv (SeqAt.readOf s.heap u) d) : Nat) : Int) s.toks = _
      rw [ec]
/-- how often a thing stands in a list -/
def dCount : D → D → R D
  | .lst ds, x => match pys ds, py x with
    | some ps, some q => grd (SeqAt.shaped (.list ps) && SeqAt.shaped q) (.ok (.int (ps.countP fun z => PyData.eqv z q : Nat)))
    | _, _ => .bad
  | _, _ => .bad
def cnt (f g : En → R D) : En → R D := fun ρ => bd (f ρ) fun d => match d with | .lst ds => bd (g ρ) fun e => dCount (.lst ds) e | _ => .bad
theorem d_count (hC : X.K = C.K) (hu : X.A.units + 65 < cLine) (ha : PE X a (tR C f)) (hb : PE X b (tR C g)) (hbase : attributeBase a "count" X.env (eval a X.env) = eval a X.env := by rfl)
    (hfew : ((backTo cpos (starEach [b] X.env)).all (fun x => !x.1) && (backToKw cpos (keywordEach [] X.env)).all (fun x => x.1.isSome)
      && decide (([b] : List Expr).length + ([] : List Keyword).length + (if ([] : List Keyword).isEmpty then 0 else 1) < 30)) = true := by rfl)
    (hline : (apos.endLine == cpos.line) = true := by rfl) (hs : starEach [b] X.env = (false, eval b X.env) :: starEach [] X.env := by rfl) (hplain : (backTo cpos (starEach [] X.env)).any (·.1) = false := by rfl) :
    PE X (.Call (.Attribute a "count" apos) [b] [] cpos) (tO C (cnt f g)) :=
  (pe_bm PySem.F.plainAttrs_list PySem.F.slot_list_count PySem.F.type_list_count (mt_lcountD hu) ha (pa_cons hb pa_nil hs) hbase hfew hline hs hplain).mono (by
    rintro σ H Q ⟨ρ, F, rl, o⟩
    rw [hC]
    refine ⟨ρ, F, rl, o.fst fun d v F1 H1 _ o x1 s1 w1 => ?_⟩
    cases d with
    | lst ds =>
      have o := Out.later o x1
      have w1' := w1
      obtain ⟨l, vs, rfl, h1, r1⟩ := w1
      refine ⟨.inl ⟨rfl, _, SqL.of h1⟩, ρ, F1, rl.grow x1 s1, o.fst fun z y F2 H2 _ o x2 s2 w2 => ?_⟩
      have o := Out.later o x2
      have o : Out C σ F2 H2 (fun F' H' => New C.K H F' H') (match pys ds, py z with | some ps, some q => grd (SeqAt.shaped (.list ps) && SeqAt.shaped q) (.ok (.int (ps.countP fun z => PyData.eqv z q : Nat))) | _, _ => .bad) Q := o
      cases hp : pys ds with
      | none => rw [hp] at o; exact o.elim
      | some ps =>
        cases hq : py z with
        | none => rw [hp, hq] at o; exact o.elim
        | some q =>
          rw [hp, hq] at o
          obtain ⟨z1, o⟩ := grd_out o
          rw [Bool.and_eq_true] at z1
          refine ⟨l, y, q, ps, rfl, rfl, ?_, w2.dp s2 hq, z1.1, z1.2, fin_flat o s2 rfl⟩
          exact (w1'.mono x2.f x2.h).dp s2 (by show (pys ds).map PyData.list = _; rw [hp]; rfl)
    | _ => exact o.elim)
end
end DL
/-! the D layer: lists of one's own in a list of one's own (rows); lent names walked -/
namespace DL
open PySem PySem.Spec PyProof.Rows L2
section
variable {X : Cx} {C : Cd} {e a b c tg : Expr} {f g k : En → R D} {pos p p1 apos cpos : Pos} {st : Stmt} {s1 : En → R Fl} {K : PySem.W.Frag} {F H H' : Hp} {kk : Nat} {es : List Expr} {fs : En → R (List D)}
/-! ### lent names walked -/
theorem i_seqL {i : Nat} {ds : List D} (hC : X.K = C.K) (h : PE X e (tVar i)) (hc : LnAt C ds i := by first | exact lnAt_of rfl (by decide) | exact lnAt_M rfl (by decide) (by decide) | exact lnAt_W rfl (by decide) (by decide)) : PI X tg e (tI C true (itr (rdL ds i))) :=
  (PI.or (pi_list h) (PI.or (pi_tup h) (pi_str h))).mono fun σ H Q ⟨ρ, F, r, q⟩ => by
    unfold itr rdL at q
    rw [hC]
    cases hd : ds[i]? with
    | none => simp only [hd, bd_bad] at q; exact q.elim
    | some d =>
      simp only [hd, bd_ok] at q
      obtain ⟨v, hl⟩ := hc d hd
      obtain ⟨hv, w⟩ := r.lend i d v hl
      have jr : Same C.H0 (jn F C.H0) := jn_r r.sub r.ext.h
      cases d with
      | lst es =>
        obtain ⟨a, us, e1, h1, r1⟩ := w
        exact .inl ⟨_, hv, a, e1, ⟨_, SqL.of (r.ext.h _ _ h1)⟩, q _ F H (Ext.refl _ _) r.sub (iter_list (SqL.of (by rw [if_pos rfl]; exact jr _ _ h1)) (r1.mono r.ext.f))⟩
      | scr ns =>
        obtain ⟨a, e1, h1⟩ := w
        exact .inl ⟨_, hv, a, e1, ⟨_, r.ext.h.seq h1⟩, q _ F H (Ext.refl _ _) r.sub (iter_list (by rw [if_pos rfl]; exact jr.seq h1) (Reps.of_ints _))⟩
      | tup es =>
        obtain ⟨a, us, e1, h1, r1⟩ := w
        exact .inr (.inl ⟨_, hv, a, e1, ⟨_, SqT.of (r.ext.h _ _ h1)⟩, q _ F H (Ext.refl _ _) r.sub (iter_tup (SqT.of (by rw [if_pos rfl]; exact jr _ _ h1)) (r1.mono r.ext.f))⟩)
      | str z => exact .inr (.inr ⟨_, hv, z, w, q _ F H (Ext.refl _ _) r.sub iter_str⟩)
      | _ => exact q.elim
/-- a lent list -/
theorem Rel.lentL {ρ : En} {σ : L2.St} {i n : Nat} {ds es : List D} {vs : List V} (r : Rel C ρ σ F H) (hc : C.ln = lnOf n ds vs) (hi : i < n) (hd : ds[i]? = some (.lst es)) : ∃ l ws, σ[i]? = some (some (.ref l)) ∧ SqL C.K H l ws ∧ SqL C.K (jn F C.H0) l ws ∧ Reps C.K F es ws := by
  obtain ⟨hv, w⟩ := r.lend i _ (vs.getD i .non) (by rw [hc]; unfold lnOf; rw [if_pos hi, hd])
  obtain ⟨a, us, e1, h1, r1⟩ := w
  rw [e1] at hv
  exact ⟨a, us, hv, SqL.of (r.ext.h _ _ h1), SqL.of ((jn_r r.sub r.ext.h) _ _ h1), r1.mono r.ext.f⟩
def itZipL : List D → R (List D)
  | [.lst ds, .lst es] => .ok (zipD ds es)
  | _ => .bad
theorem i_zipL {elts : List Expr} {k2 i j n : Nat} {tpos : Pos} {ds : List D} {vs : List V} (hC : X.K = C.K) (hm : X.mg "zip" = none) (ha : PE X a (tVar i)) (hb : PE X b (tVar j)) (hc : C.ln = lnOf n ds vs := by rfl) (hi : i < n := by decide) (hj : j < n := by decide) (hg : Gl X "zip" := by rfl)
    (hs : starEach [a, b] X.env = (false, eval a X.env) :: starEach [b] X.env := by rfl) (hs2 : starEach [b] X.env = (false, eval b X.env) :: starEach [] X.env := by rfl) (hpl : (backTo pos (starEach [b] X.env)).any (·.1) = false := by rfl) :
    PI X (.Tuple elts k2 tpos) (.Call (.Name "zip" p) [a, b] [] pos) (tI C true (irg (aCons (rdL ds i) (aCons (rdL ds j) aNil)) itZipL)) := (pi_zip hg hm (pa_cons ha (pa_cons hb pa_nil hs2) hs) hs hpl).mono fun σ H Q ⟨ρ, F, r, o⟩ => by
      rw [hC]
      unfold irg aCons rdL at o
      cases h1 : ds[i]? with
      | none => simp only [h1, bd_bad] at o; exact o.elim
      | some d =>
        cases h2 : ds[j]? with
        | none => simp only [h1, h2, bd_ok, bd_bad] at o; exact o.elim
        | some e =>
          simp only [h1, h2, bd_ok, aNil] at o
          unfold itZipL at o
          split at o
          · rename_i es fs he
            injection he with he1 he2
            injection he2 with he2 _
            subst he1 he2
            obtain ⟨l, ws, a1, a2, a3, a4⟩ := r.lentL hc hi h1
            obtain ⟨m, us, b1, b2, b3, b4⟩ := r.lentL hc hj h2
            exact ⟨_, a1, _, b1, l, m, ws, us, rfl, a2, b2, o _ F H (Ext.refl _ _) r.sub (iter_zip (by rw [if_pos rfl]; exact a3) (by rw [if_pos rfl]; exact b3) a4 b4)⟩
          · exact o.elim
/-! ### rows read -/
def dIxR : D → D → R D
  | .rows rs, .int i => match atI rs i with | some d => .ok d | none => .bad
  | .lst rs, .int i => match atI rs i with | some d => .ok d | none => .bad
  | _, _ => .bad
theorem ixR_ok {σ : L2.St} {Q : VK} {d e : D} {x y : V} (o : Out C σ F H (fun F' H' => View C.K F' H') (dIxR d e) Q) (s : Same F H) (w1 : View C.K F H d x) (w2 : View C.K F H e y) : rIx C.K x y H Q := by
  unfold dIxR at o
  split at o
  · rename_i rs i
    obtain ⟨l, vs, rfl, h, r⟩ := w1
    obtain rfl : y = V.int i := w2
    split at o
    · rename_i z hz
      rcases r with r | r
      · obtain ⟨v, h1, h2⟩ := r.atI hz
        exact .inl ⟨l, vs, i, v, rfl, rfl, SqL.of h, h1, o v F H (Ext.refl _ _) s (h2.view s)⟩
      · have hz' := hz
        unfold atI at hz'
        cases hx : ixN rs.length i with
        | none => rw [hx] at hz'; cases hz'
        | some m =>
          rw [hx] at hz'
          obtain ⟨b, us, xs, h1, rfl, h3, h4⟩ := r.get hz'
          refine .inl ⟨l, vs, i, .ref b, rfl, rfl, SqL.of h, ?_, o _ F H (Ext.refl _ _) s ⟨b, us, rfl, h3, h4⟩⟩
          unfold atI
          rw [r.length, hx]
          exact h1
    · exact o.elim
  · rename_i rs i
    obtain ⟨l, vs, rfl, h, r⟩ := w1
    obtain rfl : y = V.int i := w2
    split at o
    · rename_i z hz
      obtain ⟨v, h1, h2⟩ := r.atI hz
      exact .inl ⟨l, vs, i, v, rfl, rfl, SqL.of h, h1, o v F H (Ext.refl _ _) s (h2.view s)⟩
    · exact o.elim
  · exact o.elim
theorem d_ixR (hC : X.K = C.K) (ha : PE X a (tR C f)) (hb : PE X b (tR C g)) (hs : PlainIx b := by exact fun _ _ => rfl) : PE X (.Subscript a b pos) (tR C (bop f g dIxR)) :=
  (pe_ix (hC ▸ ix_seq) ha hb hs).mono (by
    rintro σ H Q ⟨ρ, F, rl, q⟩
    refine ⟨ρ, F, rl, q.fst fun d v F1 H1 _ q x1 s1 p1 => ?_⟩
    refine ⟨ρ, F1, rl.grow x1 s1, ?_⟩
    refine (q.later x1).fst fun e y F2 H2 _ q x2 s2 p2 => ?_
    exact ixR_ok (q.later x2) s2 (p1.mono x2.f x2.h) p2)
/-! ### a row changed -/
theorem RowsAt.write {b : Addr} {us' : List V} {xs' : List D} (rr : Reps K F xs' us') : ∀ {rs : List D} {vs : List V} {m : Nat}, RowsAt K F H rs vs → vs[m]? = some (.ref b) → (vs.filterMap refOf).Nodup → RowsAt K F (upd H b (.lst us')) (rs.set m (.lst xs')) vs
  | _, _, _, .nil, h, _ => by simp at h
  | _, _, 0, .cons (b := b0) q r t, h, nd => by
    have e : b0 = b := by simpa using h
    rw [kid_head] at nd
    have nd := List.nodup_cons.mp nd
    refine .cons (by rw [e]; exact upd_same) rr (t.mono (Same.refl _) fun c hc u hu => ?_)
    rw [upd_ne (fun (z : c = b) => nd.1 (by rw [e, ← z]; exact hc))]
    exact hu
  | _, _, m + 1, .cons (b := b0) (vs := vs) q r t, h, nd => by
    rw [kid_head] at nd
    have nd := List.nodup_cons.mp nd
    have h : vs[m]? = some (.ref b) := by simpa using h
    refine .cons ?_ r (RowsAt.write rr t h nd.2)
    rw [upd_ne (fun (z : b0 = b) => nd.1 (by rw [z]; exact filterMap_mem h))]
    exact q
/-- the list at a place of rows -/
def rowAt (rs : List D) (j : Int) : Option (Nat × List D) := match ixN rs.length j with
  | some m => match rs[m]? with
    | some (.lst xs) => some (m, xs)
    | _ => none
  | none => none
theorem rowAt_ok {rs : List D} {j : Int} {m : Nat} {xs : List D} (h : rowAt rs j = some (m, xs)) : ixN rs.length j = some m ∧ rs[m]? = some (.lst xs) := by
  unfold rowAt at h
  split at h
  · rename_i m' hm
    split at h
    · rename_i ys hy
      cases h
      exact ⟨hm, hy⟩
    · cases h
  · cases h
theorem ixN_lt {n : Nat} {j : Int} {m : Nat} (h : ixN n j = some m) : m < n := by
  unfold ixN at h
  split at h
  · split at h
    · cases h; omega
    · cases h
  · split at h
    · cases h; omega
    · cases h
/-- a row of one's own is changed -/
theorem Rel.writeRow {ρ : En} {σ : L2.St} {i m : Nat} {rs xs' : List D} {us' : List V} {b l : Addr} {vs : List V} (r : Rel C ρ σ F H) (hd : ρ[i]? = some (some (true, .rows rs))) (q : σ[i]? = some (some (.ref l))) (hl : H l = some (.lst vs)) (hb : vs[m]? = some (.ref b)) (rr : Reps C.K F xs' us') :
    Rel C (ρ.set i (some (true, .rows (rs.set m (.lst xs'))))) σ F (upd H b (.lst us')) := by
  obtain ⟨a', q', n, nd, o⟩ := r.ownF i _ hd
  rw [q] at q'
  cases q'
  obtain ⟨vs', h1, rw1⟩ := o
  rw [hl] at h1
  cases h1
  have ef : foot H l (.rows rs) = l :: vs.filterMap refOf := by rw [foot_rows, kids_at hl]
  rw [ef] at n nd
  have nd2 := List.nodup_cons.mp nd
  have hbk : b ∈ vs.filterMap refOf := filterMap_mem hb
  have hne : l ≠ b := fun z => nd2.1 (z ▸ hbk)
  have hl' : upd H b (.lst us') l = some (.lst vs) := by rw [upd_ne hne]; exact hl
  have ef' : foot (upd H b (.lst us')) l (.rows (rs.set m (.lst xs'))) = l :: vs.filterMap refOf := by rw [foot_rows, kids_at hl']
  refine r.writeF hd q (fun c hc => ?_) ⟨vs, hl', rw1.write rr hb nd2.2⟩ (by rw [ef']; exact n) (by rw [ef']; exact nd) fun c hc => .inl (by rw [ef'] at hc; rw [ef]; exact hc)
  have : c = b := by
    by_cases z : c = b
    · exact z
    · exact absurd (upd_ne z) hc
  subst this
  exact ⟨.inl (by rw [ef]; exact List.mem_cons_of_mem _ hbk), n c (List.mem_cons_of_mem _ hbk)⟩
/-- X[g].m(f), X rows -/
def sRowM (i : Nat) (g f : En → R D) (w : List D → D → R (List D)) : En → R Fl := fun ρ => match ρ[i]? with
  | some (some (true, .rows rs)) => bd (g ρ) fun q => match q with
    | .int j => match rowAt rs j with
      | some (m, xs) => bd (f ρ) fun z => bd (w xs z) fun xs' => .ok (.next (ρ.set i (some (true, .rows (rs.set m (.lst xs'))))))
      | none => .bad
    | _ => .bad
  | _ => .bad
/-- X[g].clear(), X rows -/
def sRow0 (i : Nat) (g : En → R D) (w : List D → List D) : En → R Fl := fun ρ => match ρ[i]? with
  | some (some (true, .rows rs)) => bd (g ρ) fun q => match q with
    | .int j => match rowAt rs j with
      | some (m, xs) => .ok (.next (ρ.set i (some (true, .rows (rs.set m (.lst (w xs)))))))
      | none => .bad
    | _ => .bad
  | _ => .bad
def wAppend (xs : List D) (z : D) : R (List D) := grd (decide (xs.length < sizeLine)) (.ok (xs ++ [z]))
def wRemove (xs : List D) (z : D) : R (List D) := match asInts xs, z with
  | some ns, .int k => grd (decide (k ∈ ns)) (.ok ((ns.erase k).map .int))
  | _, _ => .bad
/-- the row that a subscript tells -/
theorem row_ix {T : Ends} {σ : L2.St} {ρ : En} {i : Nat} {rs : List D} {Qv : VK} {k2 : Nat → List D → R Fl} (r : Rel C ρ σ F H) (hd : ρ[i]? = some (some (true, .rows rs)))
    (q : Post C T F (bd (g ρ) fun q => match q with
    | .int j => match rowAt rs j with
      | some (m, xs) => k2 m xs
      | none => .bad
    | _ => .bad))
    (h : ∀ (l : Addr) (vs : List V) (m : Nat) (xs : List D) (b : Addr) (us : List V) (F' H' : Hp), Ext F H F' H' → Same F' H' → Rel C ρ σ F' H' → σ[i]? = some (some (.ref l)) → H' l = some (.lst vs) → vs[m]? = some (.ref b) → H' b = some (.lst us) → Reps C.K F' xs us → rs[m]? = some (.lst xs) → Post C T F' (k2 m xs) → Qv (.ref b) H') :
    tOp (rIx C.K) (tVar i) (tR C g) σ H Qv := by
  obtain ⟨l, hl, n, nd, o⟩ := r.ownF i _ hd
  refine ⟨_, hl, ρ, F, r, out_of r q fun z v F' H' _ q x s r' w => ?_⟩
  cases z with
  | int j =>
    obtain rfl : v = V.int j := w
    obtain ⟨vs, h3, ro⟩ := o
    have q' : Post C T F' (match rowAt rs j with | some (m, xs) => k2 m xs | none => .bad) := q
    cases hr : rowAt rs j with
    | none => rw [hr] at q'; exact q'.elim
    | some mx =>
      obtain ⟨m, xs⟩ := mx
      rw [hr] at q'
      obtain ⟨h1, h2⟩ := rowAt_ok hr
      have ro' := (RowsAt.mono (H' := H') x.f ro fun b hb u hu => x.h _ _ hu)
      obtain ⟨b, us, xs', g1, g2, g3, g4⟩ := ro'.get h2
      cases g2
      refine .inl ⟨l, vs, j, .ref b, rfl, rfl, SqL.of (x.h _ _ h3), ?_, h l vs m xs b us F' H' x s r' hl (x.h _ _ h3) g1 g3 g4 h2 q'⟩
      unfold atI
      rw [ro.length, h1]
      exact g1
  | _ => exact q.elim
theorem s_rowApp {i : Nat} (hC : X.K = C.K) (ho : PE X a (tVar i)) (hb : PE X b (tR C g)) (he : PE X e (tE C f)) (hix : PlainIx b := by exact fun _ _ => rfl)
    (hbase : attributeBase (.Subscript a b p1) "append" X.env (eval (.Subscript a b p1) X.env) = eval (.Subscript a b p1) X.env := by rfl)
    (hfew : ((backTo cpos (starEach [e] X.env)).all (fun x => !x.1) && (backToKw cpos (keywordEach [] X.env)).all (fun x => x.1.isSome)
      && decide (([e] : List Expr).length + ([] : List Keyword).length + (if ([] : List Keyword).isEmpty then 0 else 1) < 30)) = true := by rfl)
    (hline : (apos.endLine == cpos.line) = true := by rfl) (hs : starEach [e] X.env = (false, eval e X.env) :: starEach [] X.env := by rfl) (hplain : (backTo cpos (starEach [] X.env)).any (·.1) = false := by rfl)
    (hsw : swapsWith (.Call (.Attribute (.Subscript a b p1) "append" apos) [e] [] cpos) none pos.line X.env = pure false := by rfl) : PS X (.Expr (.Call (.Attribute (.Subscript a b p1) "append" apos) [e] [] cpos) pos) (tS C (sRowM i g f wAppend)) :=
  (ps_expr (pe_bm PySem.F.plainAttrs_list PySem.F.slot_list_append PySem.F.type_list_append mt_append (pe_ix (hC ▸ ix_seq) ho hb hix) (pa_cons he pa_nil hs) hbase hfew hline hs hplain) hsw).mono fun T σ H ⟨ρ, F, r, q⟩ => by
    unfold sRowM at q
    split at q
    · rename_i rs hd
      refine row_ix r hd q fun l vs m xs b us F1 H1 x1 s1 r1 hl h1 hb1 hb2 rx hm q => ?_
      refine ⟨.inl ⟨rfl, _, SqL.of hb2⟩, ρ, F1, r1, out_of r1 q fun z v F' H' _ q x s r' w => ?_⟩
      unfold wAppend at q
      cases hlen : decide (xs.length < sizeLine) with
      | false => rw [hlen] at q; exact q.elim
      | true =>
        rw [hlen] at q
        refine ⟨b, us, v, rfl, rfl, x.h _ _ hb2, by rw [rx.length]; exact of_decide_eq_true hlen, ?_⟩
        exact q σ F' _ (Same.refl _) (r'.writeRow hd hl (x.h _ _ h1) hb1 ((rx.mono x.f).append (.cons w .nil)))
    · exact q.elim
theorem erase_at (k : Int) : ∀ ns : List Int, k ∈ ns → ∃ j, ns[j]? = some k ∧ (∀ m, m < j → ns[m]? ≠ some k) ∧ ns.eraseIdx j = ns.erase k
  | [], h => nomatch h
  | n :: ns, h => by
    by_cases e : n = k
    · subst e
      exact ⟨0, rfl, fun m hm => absurd hm (Nat.not_lt_zero _), by rw [List.erase_cons_head]; rfl⟩
    · have h : k ∈ ns := by
        rcases List.mem_cons.mp h with h | h
        · exact absurd h.symm e
        · exact h
      obtain ⟨j, h1, h2, h3⟩ := erase_at k ns h
      refine ⟨j + 1, by simpa using h1, fun m hm => ?_, ?_⟩
      · cases m with
        | zero => simpa using e
        | succ m => simpa using h2 m (by omega)
      · rw [List.erase_cons_tail (by simpa using e), List.eraseIdx_cons_succ, h3]
theorem s_rowRem {i : Nat} (hC : X.K = C.K) (ho : PE X a (tVar i)) (hb : PE X b (tR C g)) (he : PE X e (tR C f)) (hix : PlainIx b := by exact fun _ _ => rfl)
    (hbase : attributeBase (.Subscript a b p1) "remove" X.env (eval (.Subscript a b p1) X.env) = eval (.Subscript a b p1) X.env := by rfl)
    (hfew : ((backTo cpos (starEach [e] X.env)).all (fun x => !x.1) && (backToKw cpos (keywordEach [] X.env)).all (fun x => x.1.isSome)
      && decide (([e] : List Expr).length + ([] : List Keyword).length + (if ([] : List Keyword).isEmpty then 0 else 1) < 30)) = true := by rfl)
    (hline : (apos.endLine == cpos.line) = true := by rfl) (hs : starEach [e] X.env = (false, eval e X.env) :: starEach [] X.env := by rfl) (hplain : (backTo cpos (starEach [] X.env)).any (·.1) = false := by rfl)
    (hsw : swapsWith (.Call (.Attribute (.Subscript a b p1) "remove" apos) [e] [] cpos) none pos.line X.env = pure false := by rfl) : PS X (.Expr (.Call (.Attribute (.Subscript a b p1) "remove" apos) [e] [] cpos) pos) (tS C (sRowM i g f wRemove)) :=
  (ps_expr (pe_bm PySem.F.plainAttrs_list PySem.F.slot_list_remove PySem.F.type_list_remove mt_remove (pe_ix (hC ▸ ix_seq) ho hb hix) (pa_cons he pa_nil hs) hbase hfew hline hs hplain) hsw).mono fun T σ H ⟨ρ, F, r, q⟩ => by
    unfold sRowM at q
    split at q
    · rename_i rs hd
      refine row_ix r hd q fun l vs m xs b us F1 H1 x1 s1 r1 hl h1 hb1 hb2 rx hm q => ?_
      refine ⟨.inl ⟨rfl, _, SqL.of hb2⟩, ρ, F1, r1, out_of r1 q fun z v F' H' _ q x s r' w => ?_⟩
      have q : Post C T F' (bd (match asInts xs, z with | some ns, .int k => grd (decide (k ∈ ns)) (.ok ((ns.erase k).map .int)) | _, _ => .bad) fun xs' => .ok (.next (ρ.set i (some (true, .rows (rs.set m (.lst xs'))))))) := q
      cases hn : asInts xs with
      | none => rw [hn] at q; exact q.elim
      | some ns =>
        rw [hn] at q
        cases z with
        | int kk =>
          obtain rfl : v = V.int kk := w
          have q : Post C T F' (bd (grd (decide (kk ∈ ns)) (.ok ((ns.erase kk).map D.int))) fun xs' => .ok (.next (ρ.set i (some (true, .rows (rs.set m (.lst xs'))))))) := q
          cases hk : decide (kk ∈ ns) with
          | false => rw [hk] at q; exact q.elim
          | true =>
            rw [hk] at q
            obtain ⟨j, j1, j2, j3⟩ := erase_at kk ns (of_decide_eq_true hk)
            have eu := Reps.asInts rx hn
            refine ⟨b, ns, kk, j, rfl, rfl, by rw [← eu]; exact x.h _ _ hb2, j1, j2, ?_⟩
            rw [j3]
            exact q σ F' _ (Same.refl _) (r'.writeRow hd hl (x.h _ _ h1) hb1 (Reps.of_ints _))
        | _ => exact q.elim
    · exact q.elim
theorem s_rowClr {i : Nat} (hC : X.K = C.K) (ho : PE X a (tVar i)) (hb : PE X b (tR C g)) (hix : PlainIx b := by exact fun _ _ => rfl)
    (hbase : attributeBase (.Subscript a b p1) "clear" X.env (eval (.Subscript a b p1) X.env) = eval (.Subscript a b p1) X.env := by rfl) (hline : (apos.endLine == cpos.line) = true := by rfl)
    (hsw : swapsWith (.Call (.Attribute (.Subscript a b p1) "clear" apos) [] [] cpos) none pos.line X.env = pure false := by rfl) : PS X (.Expr (.Call (.Attribute (.Subscript a b p1) "clear" apos) [] [] cpos) pos) (tS C (sRow0 i g fun _ => [])) :=
  (ps_expr (pe_bm0 PySem.F.plainAttrs_list PySem.F.slot_list_clear PySem.F.type_list_clear mt_clear (pe_ix (hC ▸ ix_seq) ho hb hix) hbase hline) hsw).mono fun T σ H ⟨ρ, F, r, q⟩ => by
    unfold sRow0 at q
    split at q
    · rename_i rs hd
      refine row_ix (k2 := fun m xs => .ok (.next (ρ.set i (some (true, .rows (rs.set m (.lst []))))))) r hd q fun l vs m xs b us F1 H1 x1 s1 r1 hl h1 hb1 hb2 rx hm q => ?_
      exact ⟨.inl ⟨rfl, _, SqL.of hb2⟩, b, us, rfl, rfl, hb2, q σ F1 _ (Same.refl _) (r1.writeRow hd hl h1 hb1 .nil)⟩
    · exact q.elim
/-! ### rows made, grown -/
/-- X.append(e), X rows, e a new list -/
def sRowsApp (i : Nat) (f : En → R D) : En → R Fl := fun ρ => match ρ[i]? with
  | some (some (true, .rows rs)) => bd (f ρ) fun z => match z with
    | .lst xs => grd (decide (rs.length < sizeLine)) (.ok (.next (ρ.set i (some (true, .rows (rs ++ [.lst xs]))))))
    | _ => .bad
  | _ => .bad
theorem new_lst {H0 : Hp} {xs : List D} {v : V} (w : New K H0 F H (.lst xs) v) : ∃ b us, v = .ref b ∧ H0 b = none ∧ F b = none ∧ H b = some (.lst us) ∧ Reps K F xs us := by
  obtain ⟨b, rfl, n, _, us, h, r⟩ := w.own rfl
  exact ⟨b, us, rfl, (n b foot_head).1, (n b foot_head).2, h, r⟩
theorem kids_app {vs ws : List V} : (vs ++ ws).filterMap refOf = vs.filterMap refOf ++ ws.filterMap refOf := List.filterMap_append
/-- the outer list of rows is written: some old kids, some that are new since Hn -/
theorem Rel.writeTop {ρ : En} {σ : L2.St} {i : Nat} {rs rs' : List D} {l : Addr} {vs vs' : List V} {Hn : Hp} (r : Rel C ρ σ F H) (hd : ρ[i]? = some (some (true, .rows rs))) (q : σ[i]? = some (some (.ref l))) (hl : H l = some (.lst vs))
    (hs : Same Hn H) (rn : ∀ (k : Nat) (e1 : D) (b' c : Addr), ρ[k]? = some (some (true, e1)) → σ[k]? = some (some (.ref b')) → c ∈ foot H b' e1 → ∃ u, Hn c = some u) (h0 : ∀ c, Hn c = none → C.H0 c = none)
    (hk : ∀ c ∈ vs'.filterMap refOf, c ∈ vs.filterMap refOf ∨ (Hn c = none ∧ F c = none)) (nd' : (vs'.filterMap refOf).Nodup) (ro : RowsAt C.K F H rs' vs') :
    Rel C (ρ.set i (some (true, .rows rs'))) σ F (upd H l (.lst vs')) := by
  obtain ⟨a', q', n, nd, o⟩ := r.ownF i _ hd
  rw [q] at q'
  cases q'
  have ef : foot H l (.rows rs) = l :: vs.filterMap refOf := by rw [foot_rows, kids_at hl]
  rw [ef] at n nd
  have nd2 := List.nodup_cons.mp nd
  have hln : ∃ u, Hn l = some u := rn i _ l l hd q foot_head
  have hlk : l ∉ vs'.filterMap refOf := fun z => by
    rcases hk l z with y | ⟨y, _⟩
    · exact nd2.1 y
    · obtain ⟨u, hu⟩ := hln
      rw [y] at hu; cases hu
  have ef' : foot (upd H l (.lst vs')) l (.rows rs') = l :: vs'.filterMap refOf := by rw [foot_rows, kids_at upd_same]
  refine r.writeF hd q (fun c hc => ?_) ⟨vs', upd_same, ro.mono (Same.refl _) fun c hc u hu => ?_⟩ (fun c hc => ?_) (by rw [ef']; exact List.nodup_cons.mpr ⟨hlk, nd'⟩) fun c hc => ?_
  · have : c = l := by
      by_cases z : c = l
      · exact z
      · exact absurd (upd_ne z) hc
    subst this
    exact ⟨.inl foot_head, n c List.mem_cons_self⟩
  · rw [upd_ne (fun (z : c = l) => hlk (z ▸ hc))]; exact hu
  · rw [ef'] at hc
    rcases List.mem_cons.mp hc with rfl | hc
    · exact n _ List.mem_cons_self
    · rcases hk c hc with y | ⟨y1, y2⟩
      · exact n c (List.mem_cons_of_mem _ y)
      · exact ⟨y2, h0 c y1⟩
  · rw [ef'] at hc
    rw [ef]
    rcases List.mem_cons.mp hc with rfl | hc
    · exact .inl List.mem_cons_self
    · rcases hk c hc with y | ⟨y1, y2⟩
      · exact .inl (List.mem_cons_of_mem _ y)
      · refine .inr fun k e1 b' hk1 hq1 hc1 => ?_
        obtain ⟨u, hu⟩ := rn k e1 b' c hk1 hq1 hc1
        rw [y1] at hu; cases hu
theorem s_rowsApp {i : Nat} (ho : PE X a (tVar i)) (he : PE X e (tO C f))
    (hbase : attributeBase a "append" X.env (eval a X.env) = eval a X.env := by rfl)
    (hfew : ((backTo cpos (starEach [e] X.env)).all (fun x => !x.1) && (backToKw cpos (keywordEach [] X.env)).all (fun x => x.1.isSome)
      && decide (([e] : List Expr).length + ([] : List Keyword).length + (if ([] : List Keyword).isEmpty then 0 else 1) < 30)) = true := by rfl)
    (hline : (apos.endLine == cpos.line) = true := by rfl) (hs : starEach [e] X.env = (false, eval e X.env) :: starEach [] X.env := by rfl) (hplain : (backTo cpos (starEach [] X.env)).any (·.1) = false := by rfl)
    (hsw : swapsWith (.Call (.Attribute a "append" apos) [e] [] cpos) none pos.line X.env = pure false := by rfl) : PS X (.Expr (.Call (.Attribute a "append" apos) [e] [] cpos) pos) (tS C (sRowsApp i f)) :=
  (ps_expr (pe_bm PySem.F.plainAttrs_list PySem.F.slot_list_append PySem.F.type_list_append mt_append ho (pa_cons he pa_nil hs) hbase hfew hline hs hplain) hsw).mono fun T σ H ⟨ρ, F, r, q⟩ => by
    unfold sRowsApp at q
    split at q
    · rename_i rs hd
      obtain ⟨l, hl, n, nd, vs, h1, ro⟩ := r.ownF i _ hd
      refine ⟨_, hl, .inl ⟨rfl, _, SqL.of h1⟩, ρ, F, r, out_of r q fun z v F' H' _ q x s r' w => ?_⟩
      cases z with
      | lst xs =>
        obtain ⟨hlen, q⟩ := grd_post q
        obtain ⟨b, us, rfl, nb, fb, hb, rx⟩ := new_lst w
        refine ⟨l, vs, .ref b, rfl, rfl, x.h _ _ h1, by rw [ro.length]; exact of_decide_eq_true hlen, ?_⟩
        have ro' := ro.mono (H' := H') x.f fun c _ u hu => x.h _ _ hu
        have ek : (vs ++ [V.ref b]).filterMap refOf = vs.filterMap refOf ++ [b] := by rw [kids_app]; rfl
        have hold := ro.there
        have ef : foot H l (.rows rs) = l :: vs.filterMap refOf := by rw [foot_rows, kids_at h1]
        rw [ef] at nd
        refine q σ F' _ (Same.refl _) (r'.writeTop (Hn := H) hd hl (x.h _ _ h1) x.h (r.old x.h) (fun c hc => r.ext.h.free hc) (fun c hc => ?_) ?_ (ro'.append (.cons hb rx .nil)))
        · rw [ek] at hc
          rcases List.mem_append.mp hc with y | y
          · exact .inl y
          · rw [List.mem_singleton.mp y]; exact .inr ⟨nb, fb⟩
        · rw [ek]
          refine List.nodup_append.mpr ⟨(List.nodup_cons.mp nd).2, by simp, fun y hy z hz e => ?_⟩
          rw [List.mem_singleton.mp hz] at e
          subst e
          obtain ⟨u, hu⟩ := hold _ hy
          rw [nb] at hu; cases hu
      | _ => exact q.elim
    · exact q.elim
theorem RowsAt.set {b : Addr} {us : List V} {xs : List D} (hb : H b = some (.lst us)) (rx : Reps K F xs us) : ∀ {rs : List D} {vs : List V} (m : Nat), RowsAt K F H rs vs → RowsAt K F H (rs.set m (.lst xs)) (vs.set m (.ref b))
  | _, _, _, .nil => .nil
  | _, _, 0, .cons _ _ t => .cons hb rx t
  | _, _, m + 1, .cons q r t => .cons q r (RowsAt.set hb rx m t)
theorem kids_set {b : Addr} : ∀ {rs : List D} {vs : List V} (m : Nat), RowsAt K F H rs vs → (vs.filterMap refOf).Nodup → b ∉ vs.filterMap refOf → (∀ c ∈ (vs.set m (.ref b)).filterMap refOf, c ∈ vs.filterMap refOf ∨ c = b) ∧ ((vs.set m (.ref b)).filterMap refOf).Nodup
  | _, _, _, .nil, _, _ => ⟨fun c h => (nomatch h), List.nodup_nil⟩
  | _, _, 0, .cons (vs := vs) _ _ t, nd, hb => by
    rw [List.set_cons_zero, kid_head, kid_head] at *
    have nd := List.nodup_cons.mp nd
    refine ⟨fun c h => ?_, List.nodup_cons.mpr ⟨fun z => hb (List.mem_cons_of_mem _ z), nd.2⟩⟩
    rcases List.mem_cons.mp h with h | h
    · exact .inr h
    · exact .inl (List.mem_cons_of_mem _ h)
  | _, _, m + 1, .cons (b := b0) (vs := vs) _ _ t, nd, hb => by
    rw [kid_head] at nd hb
    have nd := List.nodup_cons.mp nd
    obtain ⟨h1, h2⟩ := kids_set (b := b) m t nd.2 fun z => hb (List.mem_cons_of_mem _ z)
    rw [List.set_cons_succ, kid_head, kid_head]
    refine ⟨fun c h => ?_, List.nodup_cons.mpr ⟨fun z => ?_, h2⟩⟩
    · rcases List.mem_cons.mp h with h | h
      · exact .inl (h ▸ List.mem_cons_self)
      · rcases h1 c h with y | y
        · exact .inl (List.mem_cons_of_mem _ y)
        · exact .inr y
    · rcases h1 _ z with y | y
      · exact nd.1 y
      · exact hb (y ▸ List.mem_cons_self)
/-- X[g] = f, X rows, f a new list -/
def sRowPut (i : Nat) (f g : En → R D) : En → R Fl := fun ρ => match ρ[i]? with
  | some (some (true, .rows rs)) => bd (f ρ) fun z => bd (g ρ) fun q => match z, q with
    | .lst xs, .int j => match ixN rs.length j with
      | some m => .ok (.next (ρ.set i (some (true, .rows (rs.set m (.lst xs))))))
      | none => .bad
    | _, _ => .bad
  | _ => .bad
theorem s_rowPut {i : Nat} {pos' : Pos} (ho : PE X a (tVar i)) (hv : PE X e (tO C f)) (hi : PE X b (tR C g))
    (ha : ∀ v, assign (.Subscript a b pos') X.env v = (do
      let ov ← holding [v] (eval a X.env)
      let iv ← holding [v, ov] (eval b X.env)
      standAt pos'
      holding [v, ov, iv] (setItem ov iv v)
      release [v, ov, iv] []) := by intro _; rfl)
    (hs' : swapsWithSole [.Subscript a b pos'] e pos.line X.env = pure false := by rfl) (hw : swappedStores [.Subscript a b pos'] e X.env = pure none := by rfl)
    (h1 : (assignEach [.Subscript a b pos'] X.env).map (·.2) = [assign (.Subscript a b pos') X.env] := by rfl) : PS X (.Assign [.Subscript a b pos'] e pos) (tS C (sRowPut i f g)) :=
  (ps_asg hv (pg_sub ho hi set_list ha) hs' hw h1).mono fun T σ H ⟨ρ, F, r, q⟩ => by
    unfold sRowPut at q
    split at q
    · rename_i rs hd
      obtain ⟨l, hl, n, nd, vs, h1, ro⟩ := r.ownF i _ hd
      have ef : foot H l (.rows rs) = l :: vs.filterMap refOf := by rw [foot_rows, kids_at h1]
      rw [ef] at nd
      refine ⟨ρ, F, r, out_of r q fun z v F1 H1 _ q x1 s1 r1 w1 => ?_⟩
      refine ⟨_, hl, ρ, F1, r1, out_of r1 q fun y u F2 H2 _ q x2 s2 r2 w2 => ?_⟩
      cases z with
      | lst xs =>
        cases y with
        | int j =>
          obtain rfl : u = V.int j := w2
          have q' : Post C T F2 (match ixN rs.length j with | some m => .ok (.next (ρ.set i (some (true, .rows (rs.set m (.lst xs)))))) | none => .bad) := q
          cases hx : ixN rs.length j with
          | none => rw [hx] at q'; exact q'.elim
          | some m =>
            rw [hx] at q'
            obtain ⟨b, us, rfl, nb, fb, hb, rx⟩ := new_lst w1
            have x12 := x1.trans x2
            have hb2 := x2.h _ _ hb
            have fb2 : F2 b = none := x2.keepN hb fb
            have ro' := ro.mono (H' := H2) x12.f fun c _ u hu => x12.h _ _ hu
            have hbk : b ∉ vs.filterMap refOf := fun z => by
              obtain ⟨u, hu⟩ := ro.there b z
              rw [nb] at hu; cases hu
            obtain ⟨k1, k2⟩ := kids_set (b := b) m ro (List.nodup_cons.mp nd).2 hbk
            refine ⟨l, vs, j, m, rfl, rfl, x12.h _ _ h1, by rw [ro.length]; exact hx, ?_⟩
            refine q' σ F2 _ (Same.refl _) (r2.writeTop (Hn := H) hd hl (x12.h _ _ h1) x12.h (r.old x12.h) (fun c hc => r.ext.h.free hc) (fun c hc => ?_) k2 (RowsAt.set hb2 (rx.mono x2.f) m ro'))
            rcases k1 c hc with y | y
            · exact .inl y
            · exact .inr ⟨y ▸ nb, y ▸ fb2⟩
        | _ => exact q.elim
      | _ => cases y <;> exact q.elim
    · exact q.elim
/-! ### rows are settled, their outer list stays -/
def nrm (ρ : En) : List Nat → En
  | [] => ρ
  | i :: is => match ρ[i]? with
    | some (some (true, .rows rs)) => nrm (ρ.set i (some (true, .lst rs))) is
    | some (some (false, .rows rs)) => nrm (ρ.set i (some (false, .lst rs))) is
    | _ => nrm ρ is
theorem Rel.half {ρ : En} {σ : L2.St} (r : Rel C ρ σ F H) {i : Nat} {rs : List D} (e : ρ[i]? = some (some (true, .rows rs))) : ∃ F', Same F F' ∧ Rel C (ρ.set i (some (true, .lst rs))) σ F' H := by
  obtain ⟨a, q, n, nd, vs, h1, ro⟩ := r.ownF i _ e
  have ef : foot H a (.rows rs) = a :: vs.filterMap refOf := by rw [foot_rows, kids_at h1]
  rw [ef] at n nd
  have nd := List.nodup_cons.mp nd
  obtain ⟨F2, s1, s2, rr, hk⟩ := ro.settle r.sub (fun b hb => (n b (List.mem_cons_of_mem _ hb)).1) nd.2
  have r2 := r.settleP e q (fun b hb => by rw [ef]; exact List.mem_cons_of_mem _ hb) s1 s2 hk
  have fa : F2 a = none := by
    cases hF : F2 a with
    | none => rfl
    | some o =>
      rcases hk a o hF with y | y
      · rw [(n a List.mem_cons_self).1] at y; cases y
      · exact absurd y nd.1
  refine ⟨F2, s1, ⟨r2.ext, r2.sub, by rw [List.length_set]; exact r.len, fun j e' h => ?_, fun j e' h => ?_, fun j k d' e' b b' c g1 g2 g3 g4 g5 g6 => ?_, r.lend⟩⟩
  · rcases get_set h with ⟨rfl, z⟩ | ⟨nn, z⟩
    · cases z
    · exact r2.slot j e' (by rw [List.getElem?_set_ne nn]; exact z)
  · rcases get_set h with ⟨rfl, z⟩ | ⟨nn, z⟩
    · cases z
      refine ⟨a, q, fun b hb => ?_, by rw [foot_one rfl]; simp, vs, h1, rr⟩
      rw [foot_one rfl] at hb
      rw [List.mem_singleton.mp hb]
      exact ⟨fa, (n a List.mem_cons_self).2⟩
    · exact r2.ownF j e' (by rw [List.getElem?_set_ne nn]; exact z)
  · have cross : ∀ (k : Nat) (e1 : D) (b' : Addr), i ≠ k → ρ[k]? = some (some (true, e1)) → σ[k]? = some (some (.ref b')) → a ∉ foot H b' e1 := fun k e1 b' hik hk1 hq1 hc => hik (r.apartF i k _ _ a b' a e hk1 q hq1 foot_head hc)
    rcases get_set g1 with ⟨rfl, z⟩ | ⟨n1, z⟩
    · rcases get_set g2 with ⟨rfl, z'⟩ | ⟨n2, z'⟩
      · rfl
      · cases z
        rw [q] at g3
        cases g3
        rw [foot_one rfl] at g5
        rw [List.mem_singleton.mp g5] at g6
        exact absurd g6 (cross k _ _ n2 z' g4)
    · rcases get_set g2 with ⟨rfl, z'⟩ | ⟨n2, z'⟩
      · cases z'
        rw [q] at g4
        cases g4
        rw [foot_one rfl] at g6
        rw [List.mem_singleton.mp g6] at g5
        exact absurd g5 (cross j _ _ n1 z g3)
      · exact r.apartF j k _ _ b b' c z z' g3 g4 g5 g6
theorem Rel.plain {ρ : En} {σ : L2.St} (r : Rel C ρ σ F H) {i : Nat} {rs : List D} (e : ρ[i]? = some (some (false, .rows rs))) : Rel C (ρ.set i (some (false, .lst rs))) σ F H where
  ext := r.ext
  sub := r.sub
  len := by rw [List.length_set]; exact r.len
  slot := fun j e' h => by
    rcases get_set h with ⟨rfl, z⟩ | ⟨nn, z⟩
    · cases z
      obtain ⟨v, q, w⟩ := r.slot i _ e
      cases w with
      | rows h1 rr => exact ⟨_, q, .lst h1 rr⟩
    · exact r.slot j e' z
  ownF := fun j e' h => by
    rcases get_set h with ⟨rfl, z⟩ | ⟨nn, z⟩
    · cases z
    · exact r.ownF j e' z
  apartF := fun j k d' e' b b' c h1 h2 h3 h4 h5 h6 => by
    rcases get_set h1 with ⟨rfl, z⟩ | ⟨n, z⟩
    · cases z
    · rcases get_set h2 with ⟨rfl, z'⟩ | ⟨n', z'⟩
      · cases z'
      · exact r.apartF j k _ _ b b' c z z' h3 h4 h5 h6
  lend := r.lend
theorem Rel.nrm {σ : L2.St} : ∀ (is : List Nat) {ρ : En} {F : Hp}, Rel C ρ σ F H → ∃ F', Same F F' ∧ Rel C (nrm ρ is) σ F' H
  | [], _, F, r => ⟨F, Same.refl _, r⟩
  | i :: is, ρ, F, r => by
    unfold DL.nrm
    split
    · rename_i rs e
      obtain ⟨F', sf, r'⟩ := r.half e
      obtain ⟨F2, sf2, r2⟩ := Rel.nrm is r'
      exact ⟨F2, sf.trans sf2, r2⟩
    · rename_i rs e
      exact Rel.nrm is (r.plain e)
    · exact Rel.nrm is r
def sNrm (is : List Nat) (s : En → R Fl) : En → R Fl := fun ρ => s (nrm ρ is)
theorem s_nrm (is : List Nat) (h : PS X st (tS C s1)) : PS X st (tS C (sNrm is s1)) := h.mono fun T σ H ⟨ρ, F, r, q⟩ => by
  obtain ⟨F', sf, r'⟩ := r.nrm is
  exact ⟨_, F', r', Post.up q sf⟩
/-- rows as a list -/
def unR : D → R D
  | .rows rs => .ok (.lst rs)
  | d => .ok d
theorem e_unR (ha : PE X a (tE C f)) : PE X a (tE C (uop f unR)) := ha.mono fun σ H Q ⟨ρ, F, r, q⟩ => by
  refine ⟨ρ, F, r, q.fst fun d v F' H' _ q x s w => ?_⟩
  have q := q.later x
  unfold unR at q
  split at q
  · cases w with
    | rows h rr => exact q _ F' H' (Ext.refl _ _) s (.lst h rr)
  · exact q _ F' H' (Ext.refl _ _) s w
/-! ### a display of new lists -/
def OutAO (C : Cd) (σ : L2.St) (F H : Hp) (x : R (List D)) (Q : List V → Hp → Prop) : Prop := match x with
  | .ok ds => ∀ vs F' H', Ext F H F' H' → Same F' H' → RowsAt C.K F' H' ds vs → (∀ b ∈ vs.filterMap refOf, H b = none ∧ F' b = none) → (vs.filterMap refOf).Nodup → Q vs H'
  | .err c => ∀ F' H', Ext F H F' H' → Same F' H' → C.XW c σ H'
  | .bad => False
def tAO (C : Cd) (f : En → R (List D)) : TA := fun σ H Q => ∃ ρ F, Rel C ρ σ F H ∧ OutAO C σ F H (f ρ) Q
def aConsL (f : En → R D) (g : En → R (List D)) : En → R (List D) := fun ρ => bd (f ρ) fun d => match d with
  | .lst xs => bd (g ρ) fun ds => .ok (.lst xs :: ds)
  | _ => .bad
theorem o_nil : PA X [] (tAO C aNil) := pa_nil.mono fun σ H Q ⟨ρ, F, r, q⟩ => q [] F H (Ext.refl _ _) r.sub .nil (fun _ h => nomatch h) List.nodup_nil
theorem o_cons (ha : PE X e (tO C f)) (hr : PA X es (tAO C fs)) (hs : starEach (e :: es) X.env = (false, eval e X.env) :: starEach es X.env := by rfl) : PA X (e :: es) (tAO C (aConsL f fs)) :=
  (pa_cons ha hr hs).mono fun σ H Q ⟨ρ, F, r, q⟩ => by
    refine ⟨ρ, F, r, ?_⟩
    unfold aConsL at q
    cases hf : f ρ with
    | bad => rw [hf] at q; exact q
    | err c => rw [hf] at q; exact q
    | ok d =>
      rw [hf] at q
      intro v F1 H1 x1 s1 w1
      cases d with
      | lst xs =>
        obtain ⟨b, us, rfl, nb, fb, hb, rx⟩ := new_lst w1
        refine ⟨ρ, F1, r.grow x1 s1, ?_⟩
        have q : OutAO C σ F H (bd (fs ρ) fun ds => .ok (.lst xs :: ds)) Q := q
        cases hg : fs ρ with
        | bad => rw [hg] at q; exact q
        | err c => rw [hg] at q; exact fun F2 H2 x2 s2 => q F2 H2 (x1.trans x2) s2
        | ok ds =>
          rw [hg] at q
          intro vs F2 H2 x2 s2 ro hk nd
          refine q (.ref b :: vs) F2 H2 (x1.trans x2) s2 (.cons (x2.h _ _ hb) (rx.mono x2.f) ro) (fun c hc => ?_) ?_
          · rw [kid_head] at hc
            rcases List.mem_cons.mp hc with rfl | hc
            · exact ⟨nb, x2.keepN hb fb⟩
            · exact ⟨x1.h.free (hk c hc).1, (hk c hc).2⟩
          · rw [kid_head]
            refine List.nodup_cons.mpr ⟨fun z => ?_, nd⟩
            rw [(hk b z).1] at hb; cases hb
      | _ => exact q.elim
theorem fin_rows {σ : L2.St} {H0 : Hp} {rs : List D} {vs : List V} {Q : VK} {p : Addr} (q : Out C σ F H (fun F' H' => New C.K H0 F' H') (.ok (.rows rs)) Q) (s : Same F H) (k : Same H0 H) (ro : RowsAt C.K F H rs vs) (hk : ∀ b ∈ vs.filterMap refOf, H0 b = none ∧ F b = none) (nd : (vs.filterMap refOf).Nodup) (n : H p = none) : Q (.ref p) (upd H p (.lst vs)) := by
  have hp : p ∉ vs.filterMap refOf := fun z => by
    obtain ⟨u, hu⟩ := ro.there p z
    rw [n] at hu; cases hu
  have ef : foot (upd H p (.lst vs)) p (.rows rs) = p :: vs.filterMap refOf := by rw [foot_rows, kids_at upd_same]
  refine q (.ref p) F _ (Ext.newH n _) (same_upd2 s (s.free n)) (.mk (fun b hb => ?_) (by rw [ef]; exact List.nodup_cons.mpr ⟨hp, nd⟩) ⟨vs, upd_same, ro.mono (Same.refl _) fun b hb u hu => ?_⟩)
  · rw [ef] at hb
    rcases List.mem_cons.mp hb with rfl | hb
    · exact ⟨k.free n, s.free n⟩
    · exact hk b hb
  · rw [upd_ne (fun (z : b = p) => hp (z ▸ hb))]; exact hu
def mkRows (ds : List D) : R D := grd (small ds.length) (.ok (.rows ds))
theorem d_rows (ha : PA X es (tAO C fs)) : PE X (.List es pos) (tO C (nop fs mkRows)) :=
  (pe_lst ha).mono fun σ H Q ⟨ρ, F, r, q⟩ => by
    refine ⟨ρ, F, r, ?_⟩
    unfold nop at q
    cases hf : fs ρ with
    | bad => rw [hf] at q; exact q
    | err c => rw [hf] at q; exact q
    | ok ds =>
      rw [hf] at q
      intro vs F' H' x s ro hk nd
      obtain ⟨z, q⟩ := grd_out (Out.later q x)
      exact ⟨by rw [ro.length]; exact of_decide_eq_true z, fun p hp => fin_rows q s x.h ro hk nd hp⟩
/-! ### comprehensions of new lists -/
def isL : D → Bool
  | .lst _ => true
  | _ => false
def lcGoR (g : D → En → Option En) (t : En → R Bool) (f : En → R D) (ρ : En) (ds : List D) : R (List D) := bd (lcGo g t f ρ ds) fun zs => grd (zs.all isL) (.ok zs)
def lcR (own : List Nat) (fi : En → R (List D)) (g : D → En → Option En) (t : En → R Bool) (f : En → R D) : En → R D := fun ρ => bd (fi ρ) fun ds =>
  grd (decide (ds.length < sizeLine)) (bd (lcGoR g t f (wipeR ρ own) ds) fun zs => .ok (.rows zs))
theorem lcR_ok {st : Bool} {fi : En → R (List D)} {gg : D → En → Option En} {t : En → R Bool} {own : List Nat} (hln : (own.all fun v => (C.ln v).isNone) = true) : ∀ σ H Q, tO C (lcR own fi gg t f) σ H Q → tLc (tI C st fi) (tG C.nox own gg) (tT C.nox t) (tO C.nox f) own σ H Q := by
  rintro σ H Q ⟨ρ, F, r, q⟩
  refine ⟨ρ, F, r, ?_⟩
  unfold lcR at q
  cases hfi : fi ρ with
  | bad => rw [hfi] at q; exact q
  | err c => rw [hfi] at q; exact q
  | ok ds =>
    rw [hfi, bd_ok] at q
    intro J F1 H1 x1 s1 it
    replace it : IterOk C.K J H1 F1 ds := by
      cases st with
      | true => rw [if_pos rfl] at it; exact it.base (jn_in s1 (r.ext.h.trans x1.h))
      | false => rw [if_neg Bool.false_ne_true] at it; exact it
    obtain ⟨z, q⟩ := grd_out q
    have z := of_decide_eq_true z
    intro D hD
    unfold lcGoR at q
    cases hgo : lcGo gg t f (wipeR ρ own) ds with
    | bad => rw [hgo] at q; exact q.elim
    | err c => exact absurd hgo lcGo_err
    | ok all =>
      rw [hgo, bd_ok] at q
      cases hal : all.all isL with
      | false => rw [hal] at q; exact q.elim
      | true =>
      rw [hal, grd_t, bd_ok] at q
      have q := Out.later q x1
      have r1 := r.grow x1 s1
      have d0 : C.H0 D = none := r1.ext.h.free hD
      have fd : F1 D = none := s1.free hD
      have ap : ∀ H', Same H1 H' → ∀ (j : Nat) (e : DL.D) (b : Addr), ρ[j]? = some (some (true, e)) → σ[j]? = some (some (.ref b)) → D ∉ foot H' b e := fun H' s' j e b h1 h2 h3 => by
        obtain ⟨a, q1, _, _, o⟩ := r1.ownF j e h1
        rw [h2] at q1
        cases q1
        rw [foot_grow s' o] at h3
        obtain ⟨u, hu⟩ := o.foot D h3
        rw [hD] at hu
        cases hu
      refine ⟨fun i m H => m = ds.length - i ∧ i ≤ ds.length ∧ ∃ F2 acc zs ws, Rel C ρ σ F2 H ∧ Ext F1 H1 F2 H ∧ F2 D = none ∧ H D = some (.lst acc) ∧ RowsAt C.K F2 H zs acc ∧ (∀ b ∈ acc.filterMap refOf, H1 b = none ∧ F2 b = none) ∧ (D :: acc.filterMap refOf).Nodup ∧ zs.length ≤ i ∧ lcGo gg t f (wipeR ρ own) (ds.drop i) = .ok ws ∧ all = zs ++ ws,
        ⟨_, rfl, Nat.zero_le _, F1, [], [], all, r1.other fd d0 (ap H1 (Same.refl _)), Ext.heap (same_upd hD), fd, upd_same, .nil, (fun _ h => nomatch h), by simp, Nat.zero_le _, hgo, rfl⟩, ?_⟩
      rintro i m H2 ⟨rfl, hi, F2, acc, zs, ws, r2, x2, f2, h2, rz, kz, nz, lz, hw, ha⟩
      obtain ⟨it1, it2⟩ := it i F2 H2 x2.h x2.f r2.sub
      by_cases hlt : i < ds.length
      · obtain ⟨go, y⟩ := it1 hlt
        have e : ds.drop i = ds[i] :: ds.drop (i + 1) := List.drop_eq_getElem_cons hlt
        rw [e] at hw
        obtain ⟨o, ws', hs, hw', hz⟩ := lcGo_cons hw
        refine .inr ⟨go, fun H => ∃ F2 acc zs ws, Rel C ρ σ F2 H ∧ Ext F1 H1 F2 H ∧ F2 D = none ∧ H D = some (.lst acc) ∧ RowsAt C.K F2 H zs acc ∧ (∀ b ∈ acc.filterMap refOf, H1 b = none ∧ F2 b = none) ∧ (D :: acc.filterMap refOf).Nodup ∧ zs.length ≤ i + 1 ∧ lcGo gg t f (wipeR ρ own) (ds.drop (i + 1)) = .ok ws ∧ all = zs ++ ws,
          fun H' p => ⟨_, by omega, rfl, hlt, p⟩, fun v H3 yy => ?_⟩
        obtain ⟨F3, d, hd, x3, s3, w3⟩ := y v H3 yy
        rw [List.getElem?_eq_getElem hlt] at hd
        cases hd
        have r3 := r2.grow x3 s3
        refine ⟨wipeR ρ own, F3, ds[i], (r3.nox).wipe own hln, w3, ?_⟩
        unfold lcStep at hs
        cases hgg : gg ds[i] (wipeR ρ own) with
        | none => rw [hgg] at hs; cases hs
        | some ρ1 =>
          rw [hgg] at hs
          intro σ4 e4 r4
          refine ⟨e4.trans (wipe_wipe own own σ fun _ h => h), ρ1, F3, r4, ?_⟩
          dsimp only at hs
          cases ht : t ρ1 with
          | bad => rw [ht] at hs; cases hs
          | err c => rw [ht] at hs; cases hs
          | ok b =>
            rw [ht] at hs
            intro F5 H5 x5 s5
            have x35 := x3.trans x5
            have hD5 : H5 D = some (.lst acc) := x35.h _ _ h2
            have fD5 : F5 D = none := x35.keepN h2 f2
            have kk5 : ∀ (F' H' : Hp), Ext F2 H2 F' H' → ∀ b ∈ acc.filterMap refOf, H1 b = none ∧ F' b = none := fun F' H' xx b hb => by
              obtain ⟨u, hu⟩ := rz.there b hb
              exact ⟨(kz b hb).1, xx.keepN hu (kz b hb).2⟩
            cases b with
            | false =>
              rw [if_neg Bool.false_ne_true]
              cases hs
              exact ⟨F5, acc, zs, ws', (r3.grow x5 s5), x2.trans x35, fD5, hD5, rz.mono x35.f (fun c _ u hu => x35.h _ _ hu), kk5 F5 H5 x35, nz, by omega, hw', by rw [ha, hz]⟩
            | true =>
              rw [if_pos rfl]
              refine ⟨ρ1, F5, r4.grow x5 s5, ?_⟩
              dsimp only at hs
              cases hf : f ρ1 with
              | bad => rw [hf] at hs; cases hs
              | err c => rw [hf] at hs; cases hs
              | ok zz =>
                rw [hf] at hs
                cases hs
                intro yv F6 H6 x6 s6 w6
                have hzz : ∃ xs, zz = .lst xs := by
                  have hm : zz ∈ all := by rw [ha, hz]; exact List.mem_append_right _ List.mem_cons_self
                  have := List.all_eq_true.mp hal zz hm
                  cases zz with
                  | lst xs => exact ⟨xs, rfl⟩
                  | _ => cases this
                obtain ⟨xs, rfl⟩ := hzz
                obtain ⟨nb, us, rfl, n5, f6, h6, rx⟩ := new_lst w6
                have x26 := x35.trans x6
                have x16 := x2.trans x26
                have hD6 : H6 D = some (.lst acc) := x26.h _ _ h2
                have fD6 : F6 D = none := x26.keepN h2 f2
                have hnD : nb ≠ D := fun e => by rw [e, hD5] at n5; cases n5
                have rz6 := rz.mono (H' := H6) x26.f fun c _ u hu => x26.h _ _ hu
                have ek : (acc ++ [V.ref nb]).filterMap refOf = acc.filterMap refOf ++ [nb] := by rw [kids_app]; rfl
                have nz2 := List.nodup_cons.mp nz
                have hnk : nb ∉ acc.filterMap refOf := fun e => by
                  obtain ⟨u, hu⟩ := rz.there nb e
                  rw [x35.h _ _ hu] at n5; cases n5
                refine ⟨acc, hD6, by rw [rz.length]; omega, F6, acc ++ [.ref nb], zs ++ [.lst xs], ws', ((r3.grow x5 s5).grow x6 s6).other fD6 d0 (ap H6 x16.h), ?_, fD6, upd_same, ?_, ?_, ?_, by rw [List.length_append]; exact Nat.succ_le_succ lz, hw', ?_⟩
                · exact ⟨x16.f, fun b u h => by rw [upd_ne (ne_of_none h hD)]; exact x16.h b u h, x16.n⟩
                · refine (rz6.append (.cons h6 rx .nil)).mono (Same.refl _) fun c hc u hu => ?_
                  rw [upd_ne]
                  · exact hu
                  · rintro rfl
                    rw [ek] at hc
                    rcases List.mem_append.mp hc with y | y
                    · exact nz2.1 y
                    · exact hnD (List.mem_singleton.mp y).symm
                · intro b hb
                  rw [ek] at hb
                  rcases List.mem_append.mp hb with y | y
                  · exact kk5 F6 H6 x26 b y
                  · rw [List.mem_singleton.mp y]
                    exact ⟨(x2.trans x35).h.free n5, f6⟩
                · rw [ek]
                  refine List.nodup_cons.mpr ⟨fun e => ?_, List.nodup_append.mpr ⟨nz2.2, by simp, fun y hy w hw2 e => ?_⟩⟩
                  · rcases List.mem_append.mp e with y | y
                    · exact nz2.1 y
                    · exact hnD (List.mem_singleton.mp y).symm
                  · rw [List.mem_singleton.mp hw2] at e
                    exact hnk (e ▸ hy)
                · rw [ha, hz, List.append_assoc]; rfl
      · have e : i = ds.length := by omega
        subst e
        rw [List.drop_length] at hw
        cases hw
        rw [List.append_nil] at ha
        subst ha
        have ef : foot H2 D (.rows all) = D :: acc.filterMap refOf := by rw [foot_rows, kids_at h2]
        have kz0 : ∀ b ∈ D :: acc.filterMap refOf, H b = none ∧ F2 b = none := fun b hb => by
          rcases List.mem_cons.mp hb with rfl | hb
          · exact ⟨x1.h.free hD, f2⟩
          · exact ⟨x1.h.free (kz b hb).1, (kz b hb).2⟩
        exact .inl ⟨it2 rfl, q (.ref D) F2 H2 x2 r2.sub (.mk (by rw [ef]; exact kz0) (by rw [ef]; exact nz) ⟨acc, h2, rz⟩)⟩
theorem d_lcR {st : Bool} {elt iter : Expr} {ifs : List Expr} {scope : Scope} {own : List (Str × Nat)} {fi : En → R (List D)} {gg : D → En → Option En} {t : En → R Bool} (hc : X.calm = true) (hN : X.N.Nodup) (hi : PI X tg iter (tI C st fi)) (ok : BlkOk X.N X.env.scope scope own)
    (hg : ∀ (s : Shared) (H : Hp) (A : Addr) (cl : List (Str × Addr)) (fp : List Addr), PG (X.blk s H scope (compEnvC scope cl A X.env) fp) tg (tG C.nox (own.map (·.2)) gg)) (ht : ∀ (s : Shared) (H : Hp) (A : Addr) (cl : List (Str × Addr)) (fp : List Addr), PTs (X.blk s H scope (compEnvC scope cl A X.env) fp) ifs (tT C.nox t))
    (he : ∀ (s : Shared) (H : Hp) (A : Addr) (cl : List (Str × Addr)) (fp : List Addr), PE (X.blk s H scope (compEnvC scope cl A X.env) fp) elt (tO C.nox f)) (hs : ∀ x, foldedSetIterable iter X.env x = pure x := by intro _; rfl) (hw : ((own.map (·.2)).all fun v => (C.ln v).isNone) = true := by rfl) :
    PE X (.ListComp elt [⟨tg, iter, ifs, 0⟩] scope pos) (tO C (lcR (own.map (·.2)) fi gg t f)) := (pe_lc hc hN hi ok hg ht he hs).mono (lcR_ok hw)
theorem s_setLcR {i : Nat} {y : Str} {py : Pos} {spos : Pos} {st : Bool} {elt iter : Expr} {ifs : List Expr} {scope : Scope} {own : List (Str × Nat)} {fi : En → R (List D)} {gg : D → En → Option En} {t : En → R Bool} (hc : X.calm = true) (hN : X.N.Nodup) (hi : PI X tg iter (tI C st fi)) (ok : BlkOk X.N X.env.scope scope own)
    (hg : ∀ (s : Shared) (H : Hp) (A : Addr) (cl : List (Str × Addr)) (fp : List Addr), PG (X.blk s H scope (compEnvC scope cl A X.env) fp) tg (tG C.nox (own.map (·.2)) gg)) (ht : ∀ (s : Shared) (H : Hp) (A : Addr) (cl : List (Str × Addr)) (fp : List Addr), PTs (X.blk s H scope (compEnvC scope cl A X.env) fp) ifs (tT C.nox t))
    (he : ∀ (s : Shared) (H : Hp) (A : Addr) (cl : List (Str × Addr)) (fp : List Addr), PE (X.blk s H scope (compEnvC scope cl A X.env) fp) elt (tO C.nox f))
    (hsw : swapsWith (.ListComp elt [⟨tg, iter, ifs, 0⟩] scope pos) (some (.Name y py)) spos.line X.env = pure true) (hy : X.N[i]? = some y := by rfl) (hyl : X.env.scope.names.lookup y = some .local := by rfl) (hs : ∀ x, foldedSetIterable iter X.env x = pure x := by intro _; rfl) (hw : ((own.map (·.2)).all fun v => (C.ln v).isNone) = true := by rfl) (hl : C.ln i = none := by rfl) :
    PS X (.Assign [.Name y py] (.ListComp elt [⟨tg, iter, ifs, 0⟩] scope pos) spos) (tS C (sSetO i (lcR (own.map (·.2)) fi gg t f))) :=
  (ps_setLc hc hN hy hyl hsw hi ok hg ht he hs).mono fun T σ H ⟨ρ, F, r, q⟩ => lcR_ok hw σ H _ ⟨ρ, F, r, out_of r q fun d v F' H' _ q x s r' w => q _ F' H' (Same.refl _) (r'.setN (r.old x.h) (fun a h => r.ext.h.free h) w hl)⟩
end
end DL
/-! the D layer: insert, raise, int of a truth, dict of pairs, ranges with a step -/
namespace DL
open PySem PySem.Spec PyProof.Rows L2
section
variable {X : Cx} {C : Cd} {e a b c tg : Expr} {f g k : En → R D} {pos p p1 apos cpos : Pos} {st : Stmt} {s1 : En → R Fl} {K : PySem.W.Frag} {F H H' : Hp} {kk : Nat} {es : List Expr} {fs : En → R (List D)}
/-- what is never reached -/
def sNever : En → R Fl := fun _ => .bad
theorem s_never : PS X st (tS C sNever) := ⟨fun pins s σ H D I ⟨ρ, F, r, q⟩ => q.elim⟩
/-- X.insert(g, f) -/
def sInsert (i : Nat) (g f : En → R D) : En → R Fl := fun ρ => match ρ[i]? with
  | some (some (true, .lst ds)) => bd (g ρ) fun q => bd (f ρ) fun z => match q with
    | .int j => grd (decide (ds.length < sizeLine) && decide (0 ≤ j) && decide (j < 2 ^ 63)) (.ok (.next (ρ.set i (some (true, .lst (ds.take j.toNat ++ [z] ++ ds.drop j.toNat))))))
    | _ => .bad
  | _ => .bad
theorem s_insert {i : Nat} (ho : PE X a (tVar i)) (hb : PE X b (tR C g)) (he : PE X e (tE C f))
    (hbase : attributeBase a "insert" X.env (eval a X.env) = eval a X.env := by rfl)
    (hfew : ((backTo cpos (starEach [b, e] X.env)).all (fun x => !x.1) && (backToKw cpos (keywordEach [] X.env)).all (fun x => x.1.isSome)
      && decide (([b, e] : List Expr).length + ([] : List Keyword).length + (if ([] : List Keyword).isEmpty then 0 else 1) < 30)) = true := by rfl)
    (hline : (apos.endLine == cpos.line) = true := by rfl) (hs : starEach [b, e] X.env = (false, eval b X.env) :: starEach [e] X.env := by rfl) (hs2 : starEach [e] X.env = (false, eval e X.env) :: starEach [] X.env := by rfl) (hplain : (backTo cpos (starEach [e] X.env)).any (·.1) = false := by rfl)
    (hsw : swapsWith (.Call (.Attribute a "insert" apos) [b, e] [] cpos) none pos.line X.env = pure false := by rfl) : PS X (.Expr (.Call (.Attribute a "insert" apos) [b, e] [] cpos) pos) (tS C (sInsert i g f)) :=
  (ps_expr (pe_bm PySem.F.plainAttrs_list PySem.F.slot_list_insert PySem.F.type_list_insert mt_insert ho (pa_cons hb (pa_cons he pa_nil hs2) hs) hbase hfew hline hs hplain) hsw).mono fun T σ H ⟨ρ, F, r, q⟩ => by
    unfold sInsert at q
    split at q
    · rename_i ds hd
      obtain ⟨l, hl, n, n0, vs, h1, r1⟩ := r.own i _ hd
      refine ⟨_, hl, .inl ⟨rfl, _, SqL.of h1⟩, ρ, F, r, out_of r q fun y u F1 H1 _ q x1 s1 r1' w1 => ?_⟩
      refine ⟨ρ, F1, r1', out_of r1' q fun z v F2 H2 _ q x2 s2 r2 w2 => ?_⟩
      cases y with
      | int j =>
        obtain rfl : u = V.int j := w1
        obtain ⟨hlen, q⟩ := grd_post q
        rw [Bool.and_eq_true, Bool.and_eq_true] at hlen
        have x12 := x1.trans x2
        refine ⟨l, vs, j, v, rfl, rfl, x12.h _ _ h1, by rw [r1.length]; exact of_decide_eq_true hlen.1.1, of_decide_eq_true hlen.1.2, of_decide_eq_true hlen.2, ?_⟩
        have rr := r1.mono x12.f
        exact q σ F2 _ (Same.refl _) (r2.write hd hl ⟨_, upd_same, ((rr.take j.toNat).append (.cons w2 .nil)).append (rr.drop j.toNat)⟩)
      | _ => exact q.elim
    · exact q.elim
/-- int of a truth or a number -/
def dIntB : List D → R D
  | [.bl b] => .ok (.int (if b then 1 else 0))
  | [.int i] => .ok (.int i)
  | _ => .bad
theorem intB_ok : OpL C (fun xs H Q => (∃ i, xs = [.int i] ∧ Q (.int i) H) ∨ ∃ k, xs = [.bl k] ∧ Q (.int (if k then 1 else 0)) H) dIntB := by
  intro σ F H Q ds vs o s w
  unfold dIntB at o
  split at o
  · obtain ⟨v, rfl, h⟩ := w.one
    cases h
    exact .inr ⟨_, rfl, fin_flat o s rfl⟩
  · obtain ⟨v, rfl, h⟩ := w.one
    cases h
    exact .inl ⟨_, rfl, fin_flat o s rfl⟩
  · exact o.elim
theorem d_intB (hm : X.mg "int" = none) (ha : PA X (e :: es) (tV C fs)) (hg : Gl X "int" := by rfl)
    (he : starEach (e :: es) X.env = (false, eval e X.env) :: starEach es X.env := by rfl) (hpl : (backTo pos (starEach es X.env)).any (·.1) = false := by rfl) : PE X (.Call (.Name "int" p) (e :: es) [] pos) (tO C (nop fs dIntB)) :=
  d_callTy call_int1 intB_ok hm (by decide +kernel) ha hg (by decide) (by decide) he hpl
/-- range with a step up -/
def rng3 : List D → R (List D)
  | [.int i, .int j, .int c] => grd (inR i && inR j && decide (0 < c) && decide (c < 1000000)) (.ok ((List.range ((j - i + c - 1) / c).toNat).map fun k : Nat => D.int (i + (k : Int) * c)))
  | _ => .bad
/-- dict of pairs -/
def pairsD : List D → Option (List (Key × D))
  | [] => some []
  | .tup [q, v] :: ds => match keyD q, pairsD ds with
    | some kq, some kds => some ((kq, v) :: kds)
    | _, _ => none
  | _ => none
def mergeD (kds more : List (Key × D)) : List (Key × D) := more.foldl (fun acc kv => putD acc kv.1 kv.2) kds
theorem RepK.merge : ∀ {more : List (Key × D)} {rs : List (Key × V)} {kds : List (Key × D)} {kvs : List (Key × V)}, RepK K F more rs → RepK K F kds kvs → RepK K F (mergeD kds more) (mergeK kvs rs)
  | _, _, _, _, .nil, q => q
  | _, _, _, _, .cons (k := k) w t, q => by
    unfold mergeD mergeK
    rw [List.foldl_cons, List.foldl_cons]
    exact RepK.merge t (RepK.put w q)
theorem pairs_ok (s : Same F H) : ∀ {ds : List D} {vs : List V} {kds : List (Key × D)}, Reps K F ds vs → pairsD ds = some kds → ∃ (ps : List Addr) (kvs : List (Key × V)), vs = ps.map V.ref ∧ Paired (fun p kv => SqT K H p [kV kv.1, kv.2]) ps kvs ∧ RepK K F kds kvs
  | _, _, _, .nil, h => by
    cases h
    exact ⟨[], [], rfl, .nil, .nil⟩
  | .tup [q, v] :: ds, _, kds, .cons w t, h => by
    unfold pairsD at h
    cases hq : keyD q with
    | none => rw [hq] at h; cases h
    | some kq =>
      cases hp : pairsD ds with
      | none => rw [hq, hp] at h; cases h
      | some k2 =>
        rw [hq, hp] at h
        cases h
        obtain ⟨ps, kvs, rfl, g1, g2⟩ := pairs_ok s t hp
        cases w with
        | tup ha r =>
          obtain ⟨x, y, rfl, wx, wy⟩ := r.two
          have hx := View.key (wx.view s) hq
          subst hx
          exact ⟨_ :: ps, (kq, y) :: kvs, rfl, .cons (SqT.of (s _ _ ha)) g1, .cons wy g2⟩
  | .non :: _, _, _, _, h => by unfold pairsD at h; cases h
  | .bl _ :: _, _, _, _, h => by unfold pairsD at h; cases h
  | .int _ :: _, _, _, _, h => by unfold pairsD at h; cases h
  | .str _ :: _, _, _, _, h => by unfold pairsD at h; cases h
  | .lst _ :: _, _, _, _, h => by unfold pairsD at h; cases h
  | .scr _ :: _, _, _, _, h => by unfold pairsD at h; cases h
  | .dK _ :: _, _, _, _, h => by unfold pairsD at h; cases h
  | .dT _ :: _, _, _, _, h => by unfold pairsD at h; cases h
  | .ref _ :: _, _, _, _, h => by unfold pairsD at h; cases h
  | .exn _ :: _, _, _, _, h => by unfold pairsD at h; cases h
  | .rows _ :: _, _, _, _, h => by unfold pairsD at h; cases h
  | .tup [] :: _, _, _, _, h => by unfold pairsD at h; cases h
  | .tup [_] :: _, _, _, _, h => by unfold pairsD at h; cases h
  | .tup (_ :: _ :: _ :: _) :: _, _, _, _, h => by unfold pairsD at h; cases h
def dDictP : List D → R D
  | [.lst ds] => match pairsD ds with
    | some kds => .ok (.dK (mergeD [] kds))
    | none => .bad
  | _ => .bad
theorem dictP_ok : OpL C (fun xs H Q => ∃ (a : Addr) (ps : List Addr) (kvs : List (Key × V)), xs = [.ref a] ∧ SqL C.K H a (ps.map V.ref) ∧ Paired (fun p kv => SqT C.K H p [kV kv.1, kv.2]) ps kvs ∧ ∀ p, H p = none → Q (.ref p) (upd H p (.dK (mergeK [] kvs)))) dDictP := by
  intro σ F H Q ds vs o s w
  unfold dDictP at o
  split at o
  · obtain ⟨v, rfl, p, vs, rfl, h, r⟩ := w.one
    split at o
    · rename_i kds hk
      obtain ⟨ps, kvs, rfl, g1, g2⟩ := pairs_ok s r hk
      exact ⟨p, ps, kvs, rfl, SqL.of h, g1, fun q hq => fin_dK o s (Same.refl _) (RepK.merge g2 .nil) hq⟩
    · exact o.elim
  · exact o.elim
theorem d_dictP (hc : X.calm = true) (hC : X.K = C.K) (hm : X.mg "dict" = none) (ha : PA X (e :: es) (tV C fs)) (hg : Gl X "dict" := by rfl)
    (he : starEach (e :: es) X.env = (false, eval e X.env) :: starEach es X.env := by rfl) (hpl : (backTo pos (starEach es X.env)).any (·.1) = false := by rfl) : PE X (.Call (.Name "dict" p) (e :: es) [] pos) (tO C (nop fs dDictP)) :=
  d_callTy (hC ▸ call_dictP hc) dictP_ok hm (by decide +kernel) ha hg (by decide) (by decide) he hpl
end
end DL
/-! the D layer: list(reversed(x)) -/
namespace DL
open PySem PySem.Spec PyProof.Rows L2
section
variable {prog : Program} {w : World} {A : Around} {E : Value → Shared → Prop} {s : Shared}
theorem extend_rev {it l : Addr} {items : Array Value} {R : Result → Shared → Prop} (hh : A.handled = none) (hit : s.heap.IsRevIter it l ((items.size : Int) - 1)) (hl : s.heap.IsList l items) (hne : l ≠ it) (hn : items.size ≤ sizeLine)
    (S : Addr) (res : Value) (hSi : S ≠ it) (hSl : S ≠ l) (hS : s.heap.get? S = some { cls := .type "list", dict := none, data := .seq #[] k0, slots := #[] })
    (hR : ∀ h' tk acc' c', (∀ b o, b ≠ S → b ≠ it → s.heap.get? b = some o → h'.get? b = some o) → h'.get? S = some { cls := .type "list", dict := none, data := .seq acc' c', slots := #[] } →
      ItemsOf (fun i v => items[items.size - 1 - i]? = some v) acc' items.size → R (.ok (.ret res)) { s with heap := h', toks := tk }) :
    wpAny (model prog w) A.in1 (Builtin.List.listExtendWith (.ref S) (.ref it) res)
      (fun fin s' => match fin with | .done f => R (.ok f) s' | .again c' => c'.quiet = true ∧ codeAny (model prog w) A c' R s') (fun e s' => R (.error e) s') s := by
  have W := (Walks.listRev (prog := prog) (w := w) (A := A.in1) hh it l hne items).toS
  have hSf : S ∉ [it, l] := by simp only [List.mem_cons, List.not_mem_nil, or_false, not_or]; exact ⟨hSi, hSl⟩
  have hT : s.TypeIs (.ref it) "list_reverseiterator" := Heap.IsRevIter.typeIs hit
  have h1 : Builtin.List.listSameRef (.ref S) (.ref it) = false := by simp [Builtin.List.listSameRef, hSi]
  unfold Builtin.List.listExtendWith
  refine wpAny_bind (wpAny_typeOf hT ?_)
  rw [if_neg (by rw [h1]; decide)]
  refine wpAny_bind (wpAny_pyIter_revIter hit ?_)
  refine wpAny_bind (wpAny_holding ?_)
  unfold Builtin.List.listLengthHint
  refine wpAny_bind (wpAny_specialOf hT RT.nolen_lri ?_)
  show wpAny _ A.in1 (specialOf (Value.ref it) (Str.ofString "__length_hint__") >>= _) _ _ _
  refine wpAny_bind (wpAny_specialOf hT RT.hint_lri ?_)
  generalize hid : ("list_reverseiterator.__length_hint__" : String) = id0
  wp_delta
  rw [show splitId id0 = some ("list_reverseiterator", "__length_hint__") from by subst hid; decide +kernel]
  subst hid
  refine wpAny_bind (wpAny_isInstance (b := true) hT (by rw [isSubtype_type]; kernel_rfl) ?_)
  refine wpAny_pure ?_
  rw [if_neg (by decide)]
  have e0 : ((items.size : Nat) : Int) - 1 - ((0 : Nat) : Int) = (items.size : Int) - 1 := by omega
  refine wpAny_pure ⟨plainId_quiet PySem.F.plain_extend_loop _, codeAny_extend_loopS W hn _ hSf _ items.size 0 _ _ _ rfl (Nat.zero_le _) ⟨Nat.zero_le _, by rw [e0]; exact hit, hl⟩ hS (ItemsOf.nil _) fun s' acc' c' hm hS' hacc => ?_⟩
  rw [Moved.eq_with hm]
  refine hR s'.heap s'.toks acc' c' (fun b o hb hb2 e => hm.heap b o (fun hmem => ?_) e) hS' hacc
  rcases List.mem_cons.mp hmem with e' | hmem
  · exact hb e'
  · exact hb2 (List.mem_singleton.mp hmem)
theorem call_list_rev {it l : Addr} {items : Array Value} {Q : Value → Shared → Prop} (hh : A.handled = none) (hit : s.heap.IsRevIter it l ((items.size : Int) - 1)) (hl : s.heap.IsList l items) (hne : l ≠ it) (hn : items.size ≤ sizeLine)
    (hQ : ∀ (h' : Heap) (tk : Nat) (acc : Array Value) (c' : Nat), (∀ b o, b ≠ it → s.heap.get? b = some o → h'.get? b = some o) → h'.get? s.heap.objs.size = some { cls := .type "list", dict := none, data := .seq acc c', slots := #[] } → ItemsOf (fun i v => items[items.size - 1 - i]? = some v) acc items.size →
      Q (.ref s.heap.objs.size) { s with heap := h', toks := tk }) :
    wpAny (model prog w) A (call (.type "list") [.ref it]) Q E s := by
  obtain ⟨oi, hoi, _⟩ := id hit
  obtain ⟨ol, hol, _⟩ := id hl
  have hSi : s.heap.objs.size ≠ it := Nat.ne_of_gt (Heap.lt_size hoi)
  have hSl : s.heap.objs.size ≠ l := Nat.ne_of_gt (Heap.lt_size hol)
  refine callType_codes (Q₁ := fun obj s₁ => obj = .ref s.heap.objs.size ∧ s₁ = { s with heap := s.heap.push { cls := .type "list", data := .seq #[] } }) PySem.F.called_list (PySem.F.typeCall_list_1 _) PySem.F.entry_list_init
    (code_list_new _ ⟨rfl, rfl⟩) fun obj s₁ h₁ => ?_
  obtain ⟨rfl, rfl⟩ := h₁
  have hS : (s.heap.push { cls := .type "list", data := .seq #[] }).get? s.heap.objs.size = some { cls := .type "list", data := .seq #[] } := Heap.get?_push_size _ rfl
  refine ⟨⟨_, hS, rfl⟩, PySem.F.args_list_init_2 _ _, ?_⟩
  show wpAny _ _ (do let old ← Builtin.List.listItems (.ref s.heap.objs.size); Builtin.List.listUpdate (.ref s.heap.objs.size) (fun _ => #[]); letGo old.toList.reverse; Builtin.List.listExtendWith (.ref s.heap.objs.size) (.ref it) .none) _ _ _
  refine wpAny_bind ?_
  unfold Builtin.List.listItems
  refine wpAny_bind (wpAny_seqItems hS rfl (wpAny_pure ?_))
  show wpAny _ _ (updateSeq s.heap.objs.size (fun _ => #[]) >>= fun _ => letGo (#[] : Array Value).toList.reverse >>= fun _ => Builtin.List.listExtendWith (.ref s.heap.objs.size) (.ref it) .none) _ _ _
  refine wpAny_bind (wpAny_updateSeq hS rfl ?_)
  have hS₂ := Heap.get?_update_self (Obj.mapSeq (fun _ => (#[] : Array Value))) hS rfl
  have oth : ∀ b o, s.heap.get? b = some o → ((s.heap.push { cls := .type "list", data := .seq #[] }).update s.heap.objs.size (Obj.mapSeq (fun _ => (#[] : Array Value)))).get? b = some o :=
    fun b o e => (Heap.get?_update_other _ _ (Ne.symm (Nat.ne_of_lt (Heap.lt_size e)))).trans (Heap.get?_push_of_some _ e)
  refine wpAny_bind (wpAny_letGo ?_)
  refine extend_rev (A := A.in1) hh (hit.at fun o e => oth _ o e) ⟨ol, oth _ _ hol, ‹_›⟩ hne hn _ .none hSi hSl hS₂ fun h' tk acc' c' hk hS' hacc => ?_
  exact ⟨rfl, hQ h' tk acc' c' (fun b o hb e => hk b o (Nat.ne_of_lt (Heap.lt_size e)) hb (oth b o e)) hS' hacc⟩
end
section
variable {X : Cx}
def tLstRev (K : PySem.W.Frag) (te : TE) : TE := fun σ H Q => te σ H fun v H1 => ∃ (a : Addr) (xs : List V), v = .ref a ∧ SqL K H1 a xs ∧ ∀ q, H1 q = none → Q (.ref q) (upd H1 q (.lst xs.reverse))
theorem pe_lstRev {e : Expr} {te : TE} {p p2 pos pos2 : Pos} (hc : X.calm = true) (hg : Gl X "list") (hm : X.mg "list" = none) (hg2 : Gl X "reversed") (hm2 : X.mg "reversed" = none) (he : PE X e te)
    (hs : starEach [e] X.env = (false, eval e X.env) :: starEach [] X.env := by rfl)
    (hs2 : starEach [.Call (.Name "reversed" p2) [e] [] pos2] X.env = (false, eval (.Call (.Name "reversed" p2) [e] [] pos2) X.env) :: starEach [] X.env := by rfl) :
    PE X (.Call (.Name "list" p) [.Call (.Name "reversed" p2) [e] [] pos2] [] pos) (tLstRev X.K te) := by
  refine ⟨fun pins s σ H Q I h => ?_⟩
  refine Call_ (ld_blt I hg hm (show bootBuiltins (Str.ofString "list") = some (.type "list") by decide +kernel) (PyProof.Rows.callWith_type1 (args_cons (Call_ (ld_blt I hg2 hm2 PyProof.Rows.boot_reversed (PyProof.Rows.callWith_type1 (args_cons (thn (he.run pins s σ H _ I h) fun u s1 ⟨v, H1, I1, r1, q1⟩ => args_nil ?_) hs) hs rfl))) hs2) hs2 rfl))
  obtain ⟨a, xs, ev, hq, q⟩ := q1
  subst ev
  obtain rfl : u = Value.ref a := r1
  obtain ⟨its, rv, p', hz⟩ := I1.list hq
  refine call_reversed_list p'.isList (args_nil ?_)
  have k0 : ∀ b o, s1.heap.get? b = some o → (s1.heap.push (revObj a ((its.toArray.size : Int) - 1))).get? b = some o := fun b o e => Heap.get?_push_of_some _ e
  have I2 : Inv X pins σ H1 { s1 with heap := s1.heap.push (revObj a ((its.toArray.size : Int) - 1)) } := I1.kept (t' := s1.toks) k0
  obtain ⟨f0, f1, f2, f3, f4, f5⟩ := I1.fpOk (H' := H1) (b := s1.heap.objs.size) (Nat.le_refl _) (I1.hok.fresh (Nat.le_refl _))
  have hl := p'.isList
  obtain ⟨ol, hol, _⟩ := id hl
  have hne : a ≠ s1.heap.objs.size := Nat.ne_of_lt (Heap.lt_size hol)
  have hn : its.toArray.size ≤ sizeLine := by rw [List.size_toArray, ← rv.length]; exact hz
  refine call_list_rev (s := { s1 with heap := s1.heap.push (revObj a ((its.toArray.size : Int) - 1)) }) (I1.ok.hd hc) ⟨_, Heap.get?_push_size _ rfl, rfl, rfl⟩ (hl.push _) hne hn fun h' tk acc c' hk hS hi => ?_
  have hsz : (s1.heap.push (revObj a ((its.toArray.size : Int) - 1))).objs.size = s1.heap.objs.size + 1 := by simp [Heap.push]
  have hlt : s1.heap.objs.size < (s1.heap.push (revObj a ((its.toArray.size : Int) - 1))).objs.size := by omega
  refine ⟨.ref _, upd H1 _ (.lst xs.reverse), I1.laid (t' := tk) (fun c o e => hk c o (Nat.ne_of_lt (Heap.lt_size e)) (k0 c o e)) (Nat.le_of_lt hlt) (show ObjOk X.prog X.w _ _ _ (.lst xs.reverse) from ⟨by rw [List.length_reverse]; exact hz, acc.toList, c', RT.vals_rev rv hi, ?_⟩), rfl, q _ (I1.hok.fresh (Nat.le_of_lt hlt))⟩
  rw [Array.toArray_toList]
  exact hS
end
section
variable {X : Cx} {C : Cd} {a : Expr} {f : En → R D} {pos pos2 p p2 : Pos}
theorem d_lstRev (hc : X.calm = true) (hC : X.K = C.K) (hm : X.mg "list" = none) (hm2 : X.mg "reversed" = none) (ha : PE X a (tR C f)) (hg : Gl X "list" := by rfl) (hg2 : Gl X "reversed" := by rfl)
    (hs : starEach [a] X.env = (false, eval a X.env) :: starEach [] X.env := by rfl)
    (hs2 : starEach [.Call (.Name "reversed" p2) [a] [] pos2] X.env = (false, eval (.Call (.Name "reversed" p2) [a] [] pos2) X.env) :: starEach [] X.env := by rfl) :
    PE X (.Call (.Name "list" p) [.Call (.Name "reversed" p2) [a] [] pos2] [] pos) (tO C (uop f dRevS)) :=
  (pe_lstRev hc hg hm hg2 hm2 ha hs hs2).mono (one (r := fun x H1 Q => ∃ a xs, x = .ref a ∧ SqL X.K H1 a xs ∧ ∀ p, H1 p = none → Q (.ref p) (upd H1 p (.lst xs.reverse))) (by
    intro σ F H Q d x o s w
    rw [hC]
    unfold dRevS at o
    split at o
    · obtain ⟨a, vs, rfl, h1, r1⟩ := w
      exact ⟨a, vs, rfl, SqL.of h1, fun p hp => fin_lst o s (Same.refl _) r1.reverse hp⟩
    · obtain ⟨a, rfl, h1⟩ := w
      exact ⟨a, _, rfl, h1, fun p hp => fin_lst o s (Same.refl _) (Reps.of_ints _).reverse hp⟩
    · exact o.elim))
end
end DL
/-! the D layer: sorted of pairs of texts -/
namespace DL
open PySem PySem.Spec PyProof.Rows L2
/-! ### the order -/
theorem lt_tri (a b : List Nat) : a < b ∨ a = b ∨ b < a := by
  by_cases h : a < b
  · exact .inl h
  · by_cases h2 : b < a
    · exact .inr (.inr h2)
    · exact .inr (.inl (List.le_antisymm (List.not_lt.mp h2) (List.not_lt.mp h)))
def tN (s : Str) : List Nat := s.cps.toList
theorem tN_inj {a b : Str} (h : tN a = tN b) : a = b := by
  obtain ⟨⟨a⟩⟩ := a
  obtain ⟨⟨b⟩⟩ := b
  cases h
  rfl
def lexT (p q : Str × Str) : Bool := if p.1 = q.1 then decide (tN p.2 < tN q.2) else decide (tN p.1 < tN q.1)
theorem lexT_iff {p q : Str × Str} : lexT p q = true ↔ tN p.1 < tN q.1 ∨ (p.1 = q.1 ∧ tN p.2 < tN q.2) := by
  unfold lexT
  by_cases e : p.1 = q.1
  · rw [if_pos e, decide_eq_true_eq, e]
    exact ⟨fun h => .inr ⟨rfl, h⟩, fun h => h.elim (fun h => absurd h (List.lt_irrefl _)) fun h => h.2⟩
  · rw [if_neg e, decide_eq_true_eq]
    exact ⟨.inl, fun h => h.elim id fun h => absurd h.1 e⟩
theorem lexT_no {p q : Str × Str} : lexT p q = false ↔ ¬ (tN p.1 < tN q.1 ∨ (p.1 = q.1 ∧ tN p.2 < tN q.2)) := by
  rw [← lexT_iff]
  cases lexT p q <;> simp
theorem lexT_irr (p : Str × Str) : lexT p p = false := lexT_no.mpr fun h => h.elim (List.lt_irrefl _) fun h => List.lt_irrefl _ h.2
theorem lexT_trans {p q r : Str × Str} (h1 : lexT p q = true) (h2 : lexT q r = true) : lexT p r = true := by
  rw [lexT_iff] at *
  rcases h1 with h1 | ⟨e1, h1⟩ <;> rcases h2 with h2 | ⟨e2, h2⟩
  · exact .inl (List.lt_trans h1 h2)
  · exact .inl (e2 ▸ h1)
  · exact .inl (e1 ▸ h2)
  · exact .inr ⟨e1.trans e2, List.lt_trans h1 h2⟩
theorem lexT_tri (p q : Str × Str) : lexT p q = true ∨ p = q ∨ lexT q p = true := by
  rw [lexT_iff, lexT_iff]
  rcases lt_tri (tN p.1) (tN q.1) with h | h | h
  · exact .inl (.inl h)
  · have e := tN_inj h
    rcases lt_tri (tN p.2) (tN q.2) with h2 | h2 | h2
    · exact .inl (.inr ⟨e, h2⟩)
    · exact .inr (.inl (Prod.ext e (tN_inj h2)))
    · exact .inr (.inr (.inr ⟨e.symm, h2⟩))
  · exact .inr (.inr (.inl h))
theorem lexT_asym {p q : Str × Str} (h : lexT p q = true) : lexT q p = false := by
  cases h2 : lexT q p with
  | false => rfl
  | true =>
    have := lexT_trans h h2
    rw [lexT_irr] at this
    cases this
theorem lexT_le {p q r : Str × Str} (h1 : lexT q p = false) (h2 : lexT r q = false) : lexT r p = false := by
  cases h3 : lexT r p with
  | false => rfl
  | true =>
    exfalso
    rcases lexT_tri p q with h | h | h
    · have := lexT_trans h3 h
      rw [h2] at this
      cases this
    · subst h
      rw [h2] at h3
      cases h3
    · rw [h1] at h
      cases h
def lePT (p q : Str × Str) : Bool := !lexT q p
def srtPT (ps : List (Str × Str)) : List (Str × Str) := ps.mergeSort lePT
theorem srtPT_perm (ps : List (Str × Str)) : (srtPT ps).Perm ps := List.mergeSort_perm _ _
theorem lePT_iff {p q : Str × Str} : lePT p q = true ↔ lexT q p = false := by
  unfold lePT
  cases lexT q p <;> simp
theorem srtPT_sorted (ps : List (Str × Str)) : (srtPT ps).Pairwise fun p q => lexT q p = false := by
  have := List.pairwise_mergeSort (le := lePT) (fun a b c h1 h2 => lePT_iff.mpr (lexT_le (lePT_iff.mp h1) (lePT_iff.mp h2))) (fun a b => by
    rw [Bool.or_eq_true, lePT_iff, lePT_iff]
    cases h : lexT b a with
    | false => exact .inl rfl
    | true => exact .inr (lexT_asym h)) ps
  exact this.imp fun h => lePT_iff.mp h
theorem srtPT_of {ps qs : List (Str × Str)} (p : qs.Perm ps) (s : qs.Pairwise fun p q => lexT q p = false) : qs = srtPT ps :=
  (p.trans (srtPT_perm ps).symm).eq_of_pairwise (fun a b _ _ h1 h2 => by
    rcases lexT_tri a b with h | h | h
    · rw [h2] at h; cases h
    · exact h
    · rw [h1] at h; cases h) s (srtPT_sorted ps)
/-! ### at the model's level -/
section
open SrtO Srt
variable {prog : Program} {w : World} {A : Around} {E : Value → Shared → Prop} {s : Shared}
theorem swo_lexT (k : Value → Str × Str) : Swo fun v u => lexT (k v) (k u) := ⟨fun x y h => lexT_asym h, fun x y z h1 h2 => lexT_le h1 h2⟩
def IsPT (h : Heap) (v : Value) (x y : Str) : Prop := ∃ a o t u n, v = .ref a ∧ h.get? a = some o ∧ o.cls = .type "tuple" ∧ o.data = .seq #[.str x t, .str y u] n
theorem IsPT.keeps {h h' : Heap} {v : Value} {x y : Str} (p : IsPT h v x y) (k : ∀ b o, h.get? b = some o → o.cls = .type "tuple" → h'.get? b = some o) : IsPT h' v x y := by
  obtain ⟨a, o, t, u, n, e, ho, hc, hd⟩ := p
  exact ⟨a, o, t, u, n, e, k _ _ ho hc, hc, hd⟩
theorem ptxt_cmp {vs : List Value} {k : Value → Str × Str} (hp : ∀ v ∈ vs, IsPT s.heap v (k v).1 (k v).2) : Cmp prog w A s (tuples' true) (fun p => p.1 ∈ vs) (lt2 fun v u => lexT (k v) (k u)) := by
  intro p q hm hm'
  have h1 := hp _ hm
  have h2 := hp _ hm'
  show wpAny (model prog w) A (keyLt' (tuples' true) p.1 q.1) (fun r s' => s' = s ∧ r = lexT (k p.1) (k q.1)) (fun _ _ => False) s
  unfold lexT tN
  generalize (k p.1).1 = x at h1 ⊢
  generalize (k p.1).2 = y at h1 ⊢
  generalize (k q.1).1 = x' at h2 ⊢
  generalize (k q.1).2 = y' at h2 ⊢
  obtain ⟨a, o, t, u, n, e, ho, hc, hd⟩ := h1
  obtain ⟨a', o', t', u', n', e', ho', hc', hd'⟩ := h2
  rw [e, e']
  refine PySem.W.kat_lt ho hd ho' hd' ?_
  show PySem.W.KatLex prog w A true (decide (2 < 2)) _ [(.str x t, .str x' t'), (.str y u, .str y' u')] 0 s
  refine PySem.W.kat_cons (SeqAt.EqAt.str_str x t x' t' prog w _ _ ?_)
  refine PySem.W.kat_go (fun e1 => ?_) (fun e1 => ?_)
  · have ex : x = x' := by simpa using e1
    refine PySem.W.kat_yes (PySem.W.kat_cons (SeqAt.EqAt.str_str y u y' u' prog w _ _ ?_))
    refine PySem.W.kat_go (fun e2 => ?_) (fun e2 => ?_)
    · have ey : y = y' := by simpa using e2
      have e3 : (if x = x' then decide (y.cps.toList < y'.cps.toList) else decide (x.cps.toList < x'.cps.toList)) = false := by
        rw [if_pos ex, ey]
        exact decide_eq_false (List.lt_irrefl _)
      exact PySem.W.kat_yes (PySem.W.kat_nil ⟨rfl, e3.symm⟩)
    · have e3 : (if x = x' then decide (y.cps.toList < y'.cps.toList) else decide (x.cps.toList < x'.cps.toList)) = decide (y.cps.toList < y'.cps.toList) := if_pos ex
      refine PySem.W.kat_no (PySem.W.kat_one _ _ (PyProof.Rows.lt_str ?_))
      exact (show s = s ∧ decide (y.cps.toList < y'.cps.toList) = (if x = x' then decide (y.cps.toList < y'.cps.toList) else decide (x.cps.toList < x'.cps.toList)) from ⟨rfl, e3.symm⟩)
  · have ex : ¬ x = x' := by simpa using e1
    have e3 : (if x = x' then decide (y.cps.toList < y'.cps.toList) else decide (x.cps.toList < x'.cps.toList)) = decide (x.cps.toList < x'.cps.toList) := if_neg ex
    exact PySem.W.kat_no (oneLt_str ⟨rfl, e3.symm⟩)
theorem ptfirsts_of {h : Heap} : ∀ {vs : List Value}, (∀ v ∈ vs, ∃ x y, IsPT h v x y) → ∃ fs : List Value, PySem.W.KatTups h vs fs ∧ fs.length = vs.length ∧ ∀ f ∈ fs, ∃ x t, f = Value.str x t
  | [], _ => ⟨[], PySem.W.KatTups.nil, rfl, fun _ hm => by simp at hm⟩
  | v :: vs, hp => by
    obtain ⟨fs, h1, h2, h3⟩ := ptfirsts_of (vs := vs) fun v' hm => hp v' (List.mem_cons_of_mem _ hm)
    obtain ⟨x, y, a, o, t, u, n, e, ho, hc, hd⟩ := hp v (List.mem_cons_self ..)
    subst e
    refine ⟨.str x t :: fs, PySem.W.KatTups.cons ho hc hd rfl h1, by rw [List.length_cons, List.length_cons, h2], fun f hm => ?_⟩
    rcases List.mem_cons.mp hm with rfl | hm
    · exact ⟨x, t, rfl⟩
    · exact h3 f hm
theorem ptxt_sortable {a : Addr} {vs : List Value} {k : Value → Str × Str} (h0 : 0 < vs.length) (hp : ∀ v ∈ vs, IsPT s.heap v (k v).1 (k v).2) (ha : ∀ o, s.heap.get? a = some o → o.cls ≠ .type "tuple") : SortableO prog w A s a vs fun v u => lexT (k v) (k u) := by
  intro h' keep
  have hp' : ∀ v ∈ vs, IsPT h' v (k v).1 (k v).2 := fun v hm => (hp v hm).keeps fun b o e c => keep b o (fun z => by subst z; exact ha o e c) e
  obtain ⟨fs, h1, h2, h3⟩ := ptfirsts_of fun v hm => ⟨_, _, hp' v hm⟩
  refine ⟨tuples' true, fun Q E hq => ?_, ptxt_cmp hp'⟩
  refine PySem.W.kat_kind (T := .type "str") h1 (by omega) (fun f hm => ?_) (by rfl) ?_
  · obtain ⟨x, t, rfl⟩ := h3 f hm
    exact PySem.W.Looks.now
  · have e : (Value.type "str" != Value.type "tuple") = true := by first | decide +kernel | rfl | decide
    rw [e]
    exact hq
theorem sorted_ptxt {l : Addr} {vs : List Value} {k : Value → Str × Str} {Q : Value → Shared → Prop} (hl : s.heap.IsList l vs.toArray) (hz : vs.length ≤ sizeLine) (hp : vs.length < 2 ∨ ∀ v ∈ vs, IsPT s.heap v (k v).1 (k v).2)
    (h : ∀ (h' : Heap) (d : Addr) (out : List Value), Srtd (fun v u => lexT (k v) (k u)) out → out.Perm vs → (∀ b o, s.heap.get? b = some o → h'.get? b = some o) → s.heap.objs.size ≤ d → (∃ n, h'.get? d = some (seqObj "list" out.toArray n)) → Q (.ref d) { s with heap := h' }) :
    wpAny (model prog w) A (call (.builtin "sorted") [.ref l]) Q E s := by
  refine sorted_ord (swo_lexT k) hl hz (fun h2 h₁ a ha kk => ?_) fun out hs hb => ?_
  · have hp : ∀ v ∈ vs, IsPT s.heap v (k v).1 (k v).2 := hp.resolve_left (by omega)
    refine ptxt_sortable (s := { s with heap := h₁ }) (by omega) (fun v hm => (hp v hm).keeps fun b o e _ => (kk b o e).2) fun o e => ?_
    have e' : some o = some (seqObj "list" vs.toArray 0) := e.symm.trans ha
    cases e'
    intro c
    exact absurd (Value.type.inj c) (by decide)
  · exact h _ _ out hs hb.perm (fun b o e => sortedAll_old e) (Nat.le_succ _) (sortedAll_at s.heap vs out.toArray)
end
/-! ### as a rule -/
def rSortPT (K : PySem.W.Frag) : List V → Hp → VK → Prop := fun vs H Q => ∃ (a : Addr) (xs : List V) (k : V → Str × Str), vs = [V.ref a] ∧ SqL K H a xs ∧ (∀ x ∈ xs, ∃ t, x = V.ref t) ∧ (xs.length < 2 ∨ ∀ x ∈ xs, ∃ t, x = V.ref t ∧ H t = some (.tup [.str (k x).1, .str (k x).2])) ∧
  ∀ (ys : List V) (p : Addr), ys.Perm xs → ys.Pairwise (fun x y => lexT (k y) (k x) = false) → H p = none → Q (.ref p) (upd H p (.lst ys))
section
open SrtO Srt
variable {X : Cx}
theorem cr_sortPT : CallR X (.builtin "sorted") (rSortPT X.K) := by
  intro pins s σ H vs us Q I r h
  obtain ⟨a, xs, k, rfl, hs, hr, hx, q⟩ := h
  obtain ⟨its, rv, hl, hz⟩ := I.list hs
  obtain ⟨u, rfl, ru⟩ := vals1 r
  obtain rfl : u = Value.ref a := ru
  obtain ⟨e1, e2⟩ := refs_back rv hr
  refine sorted_ptxt (k := fun u => k (backV u)) hl.isList (by rw [← rv.length]; exact hz) (hx.imp (fun h => by rw [← rv.length]; exact h) fun hx v hv => ?_) fun h' d out h1 h2 kp hd hn => ?_
  · obtain ⟨t, rfl⟩ := e2 v hv
    have hm : V.ref t ∈ xs := by rw [e1]; exact List.mem_map.mpr ⟨_, hv, rfl⟩
    obtain ⟨t', e, ht⟩ := hx _ hm
    cases e
    obtain ⟨_, its2, r2, o, ho, hc, n, hd⟩ := I.hok _ _ ht
    obtain ⟨u1, u2, rfl, ri, rj⟩ := vals2 r2
    obtain ⟨t1, rfl⟩ := ri
    obtain ⟨t2, rfl⟩ := rj
    exact ⟨t, o, t1, t2, n, rfl, ho, hc, hd⟩
  · have h3 : ∀ u ∈ out, ∃ a, u = Value.ref a := fun u hu => e2 u (h2.mem_iff.mp hu)
    obtain ⟨n, hn⟩ := hn
    have hb : (out.map backV).Perm xs := by
      rw [e1]
      exact h2.map backV
    refine ⟨.ref d, upd H d (.lst (out.map backV)), I.laid (t' := s.toks) kp hd ⟨?_, out, n, vals_back h3, hn⟩, rfl, q _ d hb (List.pairwise_map.mpr h1) (I.hok.fresh hd)⟩
    rw [hb.length_eq]
    exact hz
end
/-! ### of data -/
def pD (p : Str × Str) : D := .tup [.str p.1, .str p.2]
def isTup : D → Bool
  | .tup _ => true
  | _ => false
def asPT : List D → Option (List (Str × Str))
  | [] => some []
  | .tup [.str a, .str b] :: ds => (asPT ds).map ((a, b) :: ·)
  | _ :: _ => none
theorem asPT_map : ∀ ps : List (Str × Str), asPT (ps.map pD) = some ps
  | [] => rfl
  | p :: ps => by
    rw [List.map_cons]
    show (asPT (ps.map pD)).map ((p.1, p.2) :: ·) = _
    rw [asPT_map ps]; rfl
theorem asPT_eq : ∀ {ds : List D} {ps : List (Str × Str)}, asPT ds = some ps → ds = ps.map pD
  | [], ps, h => by cases h; rfl
  | d :: ds, ps, h => by
    unfold asPT at h
    split at h
    · rename_i he
      cases he
    · rename_i a b ds' he
      cases he
      cases h2 : asPT ds with
      | none => rw [h2] at h; cases h
      | some qs =>
        rw [h2] at h
        cases h
        rw [asPT_eq h2]
        rfl
    · cases h
def dSortX : List D → R D
  | [.lst ds] => if ds.all isTup = true then (if ds.length < 2 then .ok (.lst ds) else match asPT ds with | some ps => .ok (.lst ((srtPT ps).map pD)) | none => .bad) else .bad
  | _ => .bad
section
variable {X : Cx} {C : Cd} {K : PySem.W.Frag} {F H : Hp}
theorem reps_mem {ds : List D} {vs : List V} (r : Reps K F ds vs) : ∀ v ∈ vs, ∃ d ∈ ds, Rep K F d v := by
  match ds, vs, r with
  | _, _, .nil => exact fun v h => nomatch h
  | _, _, .cons w t =>
    intro v hv
    rcases List.mem_cons.mp hv with rfl | hv
    · exact ⟨_, List.mem_cons_self, w⟩
    · obtain ⟨d, hd, w⟩ := reps_mem t v hv
      exact ⟨d, List.mem_cons_of_mem _ hd, w⟩
theorem rep_pair {p : Str × Str} {v : V} (w : Rep K F (pD p) v) : ∃ t, v = V.ref t ∧ F t = some (.tup [.str p.1, .str p.2]) := by
  cases w with
  | tup h r =>
    cases r with
    | cons w1 r =>
      cases r with
      | cons w2 r =>
        cases r
        cases w1
        cases w2
        exact ⟨_, rfl, h⟩
theorem reps_pairs {k : V → Str × Str} : ∀ {vs : List V}, (∀ v ∈ vs, Rep K F (pD (k v)) v) → Reps K F (vs.map fun v => pD (k v)) vs
  | [], _ => .nil
  | v :: vs, h => .cons (h v List.mem_cons_self) (reps_pairs fun u hu => h u (List.mem_cons_of_mem _ hu))
theorem reps_keys {k : V → Str × Str} : ∀ {ps : List (Str × Str)} {vs : List V}, Reps K F (ps.map pD) vs → (∀ p v, Rep K F (pD p) v → k v = p) → vs.map k = ps
  | [], _, .nil, _ => rfl
  | p :: ps, _, .cons w t, h => by
    rw [List.map_cons, h p _ w, reps_keys t h]
theorem sortX_ok : OpL C (rSortPT C.K) dSortX := by
  intro σ F H Q ds vs o s w
  unfold dSortX at o
  split at o
  · rename_i ds
    obtain ⟨v, rfl, p, vs, rfl, h, r⟩ := w.one
    split at o
    · rename_i hall
      have hrf : ∀ x ∈ vs, ∃ t, x = V.ref t := fun x hx => by
        obtain ⟨d, hd, w⟩ := reps_mem r x hx
        have ht := List.all_eq_true.mp hall d hd
        cases w <;> first | exact ⟨_, rfl⟩ | cases ht
      split at o
      · rename_i hlt
        refine ⟨p, vs, fun _ => (Str.ofString "", Str.ofString ""), rfl, SqL.of h, hrf, .inl (by rw [r.length]; exact hlt), fun ys l hp _ hl => ?_⟩
        have e : ys = vs := by
          have h1 := hp.length_eq
          have h2 := r.length
          match vs, ys, hp, h1, h2 with
          | [], [], _, _, _ => rfl
          | [v], [u], hp, _, _ => exact List.singleton_perm_singleton.mp hp ▸ rfl
          | [], _ :: _, _, h1, _ => cases h1
          | [_], [], _, h1, _ => cases h1
          | [_], _ :: _ :: _, _, h1, _ => cases h1
          | _ :: _ :: _, _, _, _, h2 => rw [← h2] at hlt; exact absurd hlt (by simp)
        rw [e]
        exact fin_lst o s (Same.refl _) r hl
      · split at o
        · rename_i ps hps
          have e := asPT_eq hps
          subst e
          classical
          let k : V → Str × Str := fun v => if h : ∃ q : Str × Str, Rep C.K F (pD q) v then Classical.choose h else (Str.ofString "", Str.ofString "")
          have hk : ∀ q v, Rep C.K F (pD q) v → k v = q := fun q v w => by
            have hex : ∃ q : Str × Str, Rep C.K F (pD q) v := ⟨q, w⟩
            have hs : Rep C.K F (pD (k v)) v := by
              show Rep C.K F (pD (if h : ∃ q : Str × Str, Rep C.K F (pD q) v then Classical.choose h else _)) v
              rw [dif_pos hex]
              exact Classical.choose_spec hex
            obtain ⟨t, e1, h1⟩ := rep_pair w
            obtain ⟨t', e2, h2⟩ := rep_pair hs
            rw [e1] at e2
            cases e2
            rw [h1] at h2
            injection h2 with h2
            injection h2 with h2
            injection h2 with h3 h4
            injection h3 with h3
            injection h4 with h4 _
            injection h4 with h4
            exact Prod.ext h3.symm h4.symm
          have hv : ∀ v ∈ vs, Rep C.K F (pD (k v)) v := fun v hv => by
            obtain ⟨d, hd, w⟩ := reps_mem r v hv
            obtain ⟨q, _, rfl⟩ := List.mem_map.mp hd
            rw [hk q v w]
            exact w
          refine ⟨p, vs, k, rfl, SqL.of h, hrf, .inr fun x hx => ?_, fun ys l hp hs hl => ?_⟩
          · obtain ⟨t, e, ht⟩ := rep_pair (hv x hx)
            exact ⟨t, e, s _ _ ht⟩
          · have e : ys.map k = srtPT ps := srtPT_of (by
              rw [← reps_keys r hk]
              exact hp.map k) (List.pairwise_map.mpr hs)
            rw [← e, List.map_map] at o
            exact fin_lst o s (Same.refl _) (reps_pairs fun v h => hv v (hp.mem_iff.mp h)) hl
        · exact o.elim
    · exact o.elim
  · exact o.elim
variable {e : Expr} {es : List Expr} {fs : En → R (List D)} {pos p : Pos}
theorem d_sortX (hC : X.K = C.K) (hm : X.mg "sorted" = none) (ha : PA X (e :: es) (tV C fs)) (hg : Gl X "sorted" := by rfl)
    (he : starEach (e :: es) X.env = (false, eval e X.env) :: starEach es X.env := by rfl) (hpl : (backTo pos (starEach es X.env)).any (·.1) = false := by rfl) : PE X (.Call (.Name "sorted" p) (e :: es) [] pos) (tO C (nop fs dSortX)) :=
  d_callB (hC ▸ cr_sortPT) sortX_ok hm (by decide +kernel) ha hg (by decide) (by decide) he hpl
end
/-! ### a dict display of one pair -/
def mkD1 (k v : D) : R D := match keyD k with | some q => .ok (.dK [(q, v)]) | none => .bad
section
variable {X : Cx} {C : Cd} {k v : Expr} {f g : En → R D} {pos : Pos}
theorem d_disp1 (hk : PE X k (tE C f)) (hv : PE X v (tE C g)) : PE X (.Dict [some k] [v] pos) (tO C (bop f g mkD1)) :=
  (pe_disp (pps_cons hk hv pps_nil) rfl rfl (by simp) (by simp)).mono fun σ H Q ⟨ρ, F, r, q⟩ p hp => by
    have x0 : Ext F H F (upd H p (.dK [])) := Ext.newH hp _
    have s0 : Same F (upd H p (.dK [])) := same_upd2 r.sub (r.sub.free hp)
    have r0 := r.grow x0 s0
    refine ⟨ρ, F, r0, ?_⟩
    unfold bop at q
    cases hf : f ρ with
    | bad => simp only [hf, bd_bad] at q; exact q.elim
    | err c => simp only [hf, bd_err] at q; exact fun F' H' x s => q F' H' (x0.trans x) s
    | ok d =>
      simp only [hf, bd_ok] at q
      intro v1 F1 H1 x1 s1 w1
      refine ⟨ρ, F1, r0.grow x1 s1, ?_⟩
      cases hg : g ρ with
      | bad => simp only [hg, bd_bad] at q; exact q.elim
      | err c => simp only [hg, bd_err] at q; exact fun F' H' x s => q F' H' ((x0.trans x1).trans x) s
      | ok e =>
        simp only [hg, bd_ok] at q
        intro v2 F2 H2 x2 s2 w2
        unfold mkD1 at q
        split at q
        · rename_i kk hkk
          have x12 := x1.trans x2
          have hp2 : F2 p = none := x12.keepN upd_same (r.sub.free hp)
          have e1 : v1 = kV kk := Rep.key w1 hkk
          refine ⟨x12.h _ _ upd_same, [(kk, v2)], by rw [e1]; rfl, by simp, ?_⟩
          refine q (.ref p) F2 (upd H2 p (.dK [(kk, v2)])) ⟨x12.f, fun a o ha => ?_, fun a o ha => ?_⟩ (same_upd2 s2 hp2) ⟨p, rfl, hp, hp2, _, upd_same, .cons w2 .nil⟩
          · have hne : a ≠ p := fun e => by rw [e, hp] at ha; cases ha
            rw [upd_ne hne]
            refine x12.h a o ?_
            rw [upd_ne hne]
            exact ha
          · rcases x12.n a o ha with h | h
            · exact .inl h
            · right
              by_cases hne : a = p
              · rw [hne, upd_same] at h; cases h
              · rw [upd_ne hne] at h; exact h
        · exact q.elim
end
end DL
/-! what the functions of the D layer come to -/
namespace DL
open PySem PySem.Spec PyProof.Rows L2
abbrev Slot := Option (Bool × D)
/-- a loop by an invariant over the turn; W: what is wanted of the end -/
theorem loop_ind {g : D → En → Option En} {gb : En → R Fl} {W : R Fl → Prop} : ∀ (ds : List D) (I : Nat → En → Prop) (ρ : En), I 0 ρ →
    (∀ i d ρ, ds[i]? = some d → I i ρ → ∃ ρ1, g d ρ = some ρ1 ∧ ((∃ ρ', (gb ρ1 = .ok (.next ρ') ∨ gb ρ1 = .ok (.cont ρ')) ∧ I (i + 1) ρ') ∨ (∃ ρ', gb ρ1 = .ok (.brk ρ') ∧ W (.ok (.next ρ'))) ∨ (∃ o x, gb ρ1 = .ok (.ret o x) ∧ W (.ok (.ret o x))) ∨ (∃ c, gb ρ1 = .err c ∧ W (.err c)))) →
    (∀ ρ, I ds.length ρ → W (.ok (.next ρ))) → W (loopD g gb ds ρ)
  | [], I, ρ, h0, _, hd => hd ρ h0
  | d :: ds, I, ρ, h0, hs, hd => by
    obtain ⟨ρ1, h1, h2⟩ := hs 0 d ρ rfl h0
    unfold loopD
    rw [h1]
    dsimp only
    rcases h2 with ⟨ρ', h2, h3⟩ | ⟨ρ', h2, h3⟩ | ⟨o, x, h2, h3⟩ | ⟨c, h2, h3⟩
    · have := loop_ind ds (fun i => I (i + 1)) ρ' h3 (fun i d ρ hd => hs (i + 1) d ρ (by simpa using hd)) hd
      rcases h2 with h2 | h2 <;> rw [h2] <;> exact this
    · rw [h2]; exact h3
    · rw [h2]; exact h3
    · rw [h2]; exact h3
/-- a loop that searches: E holds the loop's own slot -/
theorem loop_all {gb : En → R Fl} {i : Nat} {o : Bool} {x : D} (E : Slot → En) (p : D → Bool) (hE : ∀ z d, (E z).set i (some (false, d)) = E (some (false, d))) : ∀ (ds : List D),
    (∀ d ∈ ds, gb (E (some (false, d))) = if p d = true then .ok (.next (E (some (false, d)))) else .ok (.ret o x)) → ∀ z,
    (ds.all p = true ∧ ∃ z', loopD (gSet i) gb ds (E z) = .ok (.next (E z'))) ∨ (ds.all p = false ∧ loopD (gSet i) gb ds (E z) = .ok (.ret o x))
  | [], _, z => .inl ⟨rfl, z, rfl⟩
  | d :: ds, h, z => by
    have h1 := h d List.mem_cons_self
    unfold loopD gSet
    dsimp only
    rw [hE, h1, List.all_cons]
    cases hp : p d with
    | true => exact loop_all E p hE ds (fun d hd => h d (List.mem_cons_of_mem _ hd)) _
    | false => exact .inr ⟨rfl, rfl⟩
/-- a loop that folds -/
theorem loop_fold {σ : Type} {gb : En → R Fl} {i : Nat} (E : σ → Slot → En) (f : σ → D → σ) (hE : ∀ s z d, (E s z).set i (some (false, d)) = E s (some (false, d))) : ∀ (ds : List D) (s : σ) (z : Slot),
    (∀ d ∈ ds, ∀ s, gb (E s (some (false, d))) = .ok (.next (E (f s d) (some (false, d))))) → ∃ z', loopD (gSet i) gb ds (E s z) = .ok (.next (E (ds.foldl f s) z'))
  | [], s, z, _ => ⟨z, rfl⟩
  | d :: ds, s, z, h => by
    unfold loopD gSet
    dsimp only
    rw [hE, h d List.mem_cons_self s]
    exact loop_fold E f hE ds (f s d) _ fun d hd => h d (List.mem_cons_of_mem _ hd)
/-- .. with an invariant over the turn -/
theorem loop_foldI {σ : Type} {gb : En → R Fl} {i : Nat} (E : σ → Slot → En) (f : σ → D → σ) (I : Nat → σ → Prop) (hE : ∀ s z d, (E s z).set i (some (false, d)) = E s (some (false, d))) : ∀ (ds : List D) (n : Nat) (s : σ) (z : Slot), I n s →
    (∀ d ∈ ds, ∀ n s, I n s → I (n + 1) (f s d) ∧ gb (E s (some (false, d))) = .ok (.next (E (f s d) (some (false, d))))) → I (n + ds.length) (ds.foldl f s) ∧ ∃ z', loopD (gSet i) gb ds (E s z) = .ok (.next (E (ds.foldl f s) z'))
  | [], n, s, z, h0, _ => ⟨h0, z, rfl⟩
  | d :: ds, n, s, z, h0, h => by
    unfold loopD gSet
    dsimp only
    obtain ⟨h1, h2⟩ := h d List.mem_cons_self n s h0
    rw [hE, h2]
    have := loop_foldI E f I hE ds (n + 1) (f s d) (some (false, d)) h1 fun d hd => h d (List.mem_cons_of_mem _ hd)
    rw [List.length_cons, show n + (ds.length + 1) = n + 1 + ds.length by omega]
    exact this
/-- a loop that searches, by an invariant of the environment -/
theorem loop_find {α : Type} {g : D → En → Option En} {gb : En → R Fl} {o : Bool} {x : D} (I : En → Prop) (F : α → D) (p : α → Bool) : ∀ (xs : List α) (ρ : En), I ρ →
    (∀ a ∈ xs, ∀ ρ, I ρ → ∃ ρ1, g (F a) ρ = some ρ1 ∧ (p a = true → ∃ ρ', gb ρ1 = .ok (.next ρ') ∧ I ρ') ∧ (p a = false → gb ρ1 = .ok (.ret o x))) →
    (xs.all p = true ∧ ∃ ρ', loopD g gb (xs.map F) ρ = .ok (.next ρ') ∧ I ρ') ∨ (xs.all p = false ∧ loopD g gb (xs.map F) ρ = .ok (.ret o x))
  | [], ρ, h0, _ => .inl ⟨rfl, ρ, rfl, h0⟩
  | a :: xs, ρ, h0, h => by
    obtain ⟨ρ1, h1, h2, h3⟩ := h a List.mem_cons_self ρ h0
    rw [List.map_cons]
    unfold loopD
    rw [h1, List.all_cons]
    dsimp only
    cases hp : p a with
    | true =>
      obtain ⟨ρ', h4, h5⟩ := h2 hp
      rw [h4]
      exact loop_find I F p xs ρ' h5 fun a ha => h a (List.mem_cons_of_mem _ ha)
    | false =>
      rw [h3 hp]
      exact .inr ⟨rfl, rfl⟩
/-- a loop that folds, by an invariant of the state and the environment -/
theorem loop_foldJ {α σ : Type} {g : D → En → Option En} {gb : En → R Fl} (I : σ → En → Prop) (F : α → D) (f : σ → α → σ) : ∀ (xs : List α) (s : σ) (ρ : En), I s ρ →
    (∀ a ∈ xs, ∀ s ρ, I s ρ → ∃ ρ1, g (F a) ρ = some ρ1 ∧ ∃ ρ', gb ρ1 = .ok (.next ρ') ∧ I (f s a) ρ') → ∃ ρ', loopD g gb (xs.map F) ρ = .ok (.next ρ') ∧ I (xs.foldl f s) ρ'
  | [], s, ρ, h0, _ => ⟨ρ, rfl, h0⟩
  | a :: xs, s, ρ, h0, h => by
    obtain ⟨ρ1, h1, ρ', h2, h3⟩ := h a List.mem_cons_self s ρ h0
    rw [List.map_cons]
    unfold loopD
    rw [h1]
    dsimp only
    rw [h2]
    exact loop_foldJ I F f xs (f s a) ρ' h3 fun a ha => h a (List.mem_cons_of_mem _ ha)
/-- a loop by the turn -/
theorem loop_at {α : Type} {g : D → En → Option En} {gb : En → R Fl} (F : α → D) : ∀ (xs : List α) (I : Nat → En → Prop) (ρ : En), I 0 ρ →
    (∀ i a ρ, xs[i]? = some a → I i ρ → ∃ ρ1, g (F a) ρ = some ρ1 ∧ ∃ ρ', gb ρ1 = .ok (.next ρ') ∧ I (i + 1) ρ') → ∃ ρ', loopD g gb (xs.map F) ρ = .ok (.next ρ') ∧ I xs.length ρ'
  | [], I, ρ, h0, _ => ⟨ρ, rfl, h0⟩
  | a :: xs, I, ρ, h0, h => by
    obtain ⟨ρ1, h1, ρ', h2, h3⟩ := h 0 a ρ rfl h0
    rw [List.map_cons]
    unfold loopD
    rw [h1]
    dsimp only
    rw [h2]
    exact loop_at F xs (fun i => I (i + 1)) ρ' h3 fun i b ρ hb => h (i + 1) b ρ (by simpa using hb)
theorem at_lt {α : Type} {xs : List α} {i : Nat} {a : α} (h : xs[i]? = some a) : i < xs.length := (List.getElem?_eq_some_iff.mp h).1
/-- a loop by what is taken so far -/
theorem loop_pre {α : Type} {g : D → En → Option En} {gb : En → R Fl} (I : List α → En → Prop) (F : α → D) : ∀ (xs pre : List α) (ρ : En), I pre ρ →
    (∀ pre a post ρ, pre ++ a :: post = pre ++ xs ∨ True → I pre ρ → a ∈ xs → ∃ ρ1, g (F a) ρ = some ρ1 ∧ ∃ ρ', gb ρ1 = .ok (.next ρ') ∧ I (pre ++ [a]) ρ') → ∃ ρ', loopD g gb (xs.map F) ρ = .ok (.next ρ') ∧ I (pre ++ xs) ρ'
  | [], pre, ρ, h0, _ => ⟨ρ, rfl, by rw [List.append_nil]; exact h0⟩
  | a :: xs, pre, ρ, h0, h => by
    obtain ⟨ρ1, h1, ρ', h2, h3⟩ := h pre a xs ρ (.inr trivial) h0 List.mem_cons_self
    rw [List.map_cons]
    unfold loopD
    rw [h1]
    dsimp only
    rw [h2]
    obtain ⟨ρ2, h4, h5⟩ := loop_pre I F xs (pre ++ [a]) ρ' h3 fun pre a post ρ _ hI ha => h pre a post ρ (.inr trivial) hI (List.mem_cons_of_mem _ ha)
    exact ⟨ρ2, h4, by rw [List.append_assoc] at h5; exact h5⟩
/-- a while by an invariant and a measure -/
theorem while_ind {t : En → R Bool} {gb : En → R Fl} {W : R Fl → Prop} (I : En → Prop) (μ : En → Nat) (hs : ∀ ρ, I ρ → (t ρ = .ok false ∧ W (.ok (.next ρ))) ∨ (t ρ = .ok true ∧
      ((∃ ρ', (gb ρ = .ok (.next ρ') ∨ gb ρ = .ok (.cont ρ')) ∧ I ρ' ∧ μ ρ' < μ ρ) ∨ (∃ ρ', gb ρ = .ok (.brk ρ') ∧ W (.ok (.next ρ'))) ∨ (∃ o x, gb ρ = .ok (.ret o x) ∧ W (.ok (.ret o x)))))) : ∀ (n : Nat) (ρ : En), I ρ → μ ρ < n → W (whileD t gb n ρ)
  | 0, ρ, _, h => absurd h (Nat.not_lt_zero _)
  | n + 1, ρ, h0, h => by
    unfold whileD
    rcases hs ρ h0 with ⟨h1, h2⟩ | ⟨h1, h2⟩
    · rw [h1, bd_ok, if_neg Bool.false_ne_true]; exact h2
    · rw [h1, bd_ok, if_pos rfl]
      rcases h2 with ⟨ρ', h2, h3, h4⟩ | ⟨ρ', h2, h3⟩ | ⟨o, x, h2, h3⟩
      · have := while_ind I μ hs n ρ' h3 (by omega)
        rcases h2 with h2 | h2 <;> rw [h2] <;> exact this
      · rw [h2]; exact h3
      · rw [h2]; exact h3
theorem FU_eq : FU = 1000000 := rfl
/-! ### comprehensions -/
theorem lc_map {g : D → En → Option En} {t : En → R Bool} {f : En → R D} {ρ : En} (F : D → D) : ∀ (ds : List D), (∀ d ∈ ds, lcStep g t f ρ d = .ok (some (F d))) → lcGo g t f ρ ds = .ok (ds.map F)
  | [], _ => rfl
  | d :: ds, h => by
    unfold lcGo
    rw [h d List.mem_cons_self, bd_ok, lc_map F ds fun d hd => h d (List.mem_cons_of_mem _ hd)]
    rfl
theorem lc_fm {g : D → En → Option En} {t : En → R Bool} {f : En → R D} {ρ : En} (F : D → Option D) : ∀ (ds : List D), (∀ d ∈ ds, lcStep g t f ρ d = .ok (F d)) → lcGo g t f ρ ds = .ok (ds.filterMap F)
  | [], _ => rfl
  | d :: ds, h => by
    unfold lcGo
    rw [h d List.mem_cons_self, bd_ok, lc_fm F ds fun d hd => h d (List.mem_cons_of_mem _ hd)]
    rw [List.filterMap_cons]
    cases F d <;> rfl
/-! ### places -/
theorem sizeLine_big : sizeLine = 16777216 := sizeLine_eq
theorem small_of {n : Nat} (h : n ≤ 1000000) : small n = true := by
  unfold small
  rw [sizeLine_eq]
  exact decide_eq_true (by omega)
theorem lt_size {n : Nat} (h : n ≤ 1000000) : decide (n < sizeLine) = true := by
  rw [sizeLine_eq]
  exact decide_eq_true (by omega)
theorem inR_small {i : Int} (h : -1000000000000 ≤ i) (h' : i ≤ 1000000000000) : DL.inR i = true := by
  unfold DL.inR
  rw [Bool.and_eq_true]
  exact ⟨decide_eq_true (by omega), decide_eq_true (by omega)⟩
theorem atI_ge {α : Type} {xs : List α} {i : Int} {x : α} (h0 : 0 ≤ i) (h : xs[i.toNat]? = some x) : L2.atI xs i = some x := by
  obtain ⟨j, rfl⟩ : ∃ j : Nat, i = j := ⟨i.toNat, by omega⟩
  exact atI_nat (by simpa using h)
theorem ixA_lst {ds : List D} {i : Int} {x : D} (h0 : 0 ≤ i) (h : ds[i.toNat]? = some x) : dIxA (.lst ds) (.int i) = .ok x := by
  show (match L2.atI ds i with | some d => R.ok d | none => R.bad) = _
  rw [atI_ge h0 h]
theorem ixA_tup {ds : List D} {i : Int} {x : D} (h0 : 0 ≤ i) (h : ds[i.toNat]? = some x) : dIxA (.tup ds) (.int i) = .ok x := by
  show (match L2.atI ds i with | some d => R.ok d | none => R.bad) = _
  rw [atI_ge h0 h]
theorem ixA_scr {ds : List Int} {i : Int} {x : Int} (h0 : 0 ≤ i) (h : ds[i.toNat]? = some x) : dIxA (.scr ds) (.int i) = .ok (.int x) := by
  show (match L2.atI ds i with | some d => R.ok (D.int d) | none => R.bad) = _
  rw [atI_ge h0 h]
theorem ixA_ints {ns : List Int} {i : Int} (h0 : 0 ≤ i) (h : i < ns.length) : dIxA (.lst (ns.map .int)) (.int i) = .ok (.int (ns.getD i.toNat 0)) := by
  refine ixA_lst h0 ?_
  have : i.toNat < ns.length := by omega
  rw [List.getElem?_map, List.getElem?_eq_getElem this, List.getD_eq_getElem?_getD, List.getElem?_eq_getElem this]
  rfl
theorem ixA_scrD {ns : List Int} {i : Int} (h0 : 0 ≤ i) (h : i < ns.length) : dIxA (.scr ns) (.int i) = .ok (.int (ns.getD i.toNat 0)) := by
  refine ixA_scr h0 ?_
  have : i.toNat < ns.length := by omega
  rw [List.getElem?_eq_getElem this, List.getD_eq_getElem?_getD, List.getElem?_eq_getElem this]
  rfl
/-! ### slices -/
theorem cut_to {α : Type} {xs : List α} {n : Int} (h : 0 ≤ n) : cutD xs none (some n) = xs.take n.toNat := by
  obtain ⟨j, rfl⟩ : ∃ j : Nat, n = j := ⟨n.toNat, by omega⟩
  unfold cutD
  rw [HT.sIx_none, HT.sIx_nat, List.drop_zero, Nat.sub_zero]
  simp only [Int.toNat_natCast]
  by_cases hj : j ≤ xs.length
  · rw [Nat.min_eq_left hj]
  · rw [Nat.min_eq_right (by omega), List.take_length, List.take_of_length_le (by omega)]
theorem cut_from {α : Type} {xs : List α} {n : Int} (h : 0 ≤ n) : cutD xs (some n) none = xs.drop n.toNat := by
  obtain ⟨j, rfl⟩ : ∃ j : Nat, n = j := ⟨n.toNat, by omega⟩
  unfold cutD
  rw [HT.sIx_none, HT.sIx_nat]
  simp only [Int.toNat_natCast]
  by_cases hj : j ≤ xs.length
  · rw [Nat.min_eq_left hj, List.take_of_length_le (by rw [List.length_drop]; omega)]
  · rw [Nat.min_eq_right (by omega), List.drop_length, List.take_nil, List.drop_of_length_le (by omega)]
theorem cut_mid {α : Type} {xs : List α} {m n : Int} (h : 0 ≤ m) (h' : 0 ≤ n) : cutD xs (some m) (some n) = (xs.drop m.toNat).take (n.toNat - m.toNat) := by
  obtain ⟨j, rfl⟩ : ∃ j : Nat, n = j := ⟨n.toNat, by omega⟩
  obtain ⟨i, rfl⟩ : ∃ j : Nat, m = j := ⟨m.toNat, by omega⟩
  unfold cutD
  rw [HT.sIx_nat, HT.sIx_nat]
  simp only [Int.toNat_natCast]
  by_cases hi : i ≤ xs.length
  · rw [Nat.min_eq_left hi]
    by_cases hj : j ≤ xs.length
    · rw [Nat.min_eq_left hj]
    · rw [Nat.min_eq_right (by omega), List.take_of_length_le (by rw [List.length_drop]; omega), List.take_of_length_le (by rw [List.length_drop]; omega)]
  · rw [show min i xs.length = xs.length from Nat.min_eq_right (by omega), List.drop_length, List.take_nil, List.drop_of_length_le (by omega), List.take_nil]
/-! ### equality of data -/
theorem pys_ints : ∀ ns : List Int, pys (ns.map .int) = some (ns.map PyData.int)
  | [] => rfl
  | n :: ns => by simp only [List.map_cons]; unfold pys; rw [pys_ints ns]; rfl
theorem py_ints (ns : List Int) : py (.lst (ns.map .int)) = some (.list (ns.map PyData.int)) := by unfold py; rw [pys_ints]; rfl
theorem canLay_ints : ∀ ns : List Int, PyData.canLayAll0 (ns.map PyData.int) = true
  | [] => by simp [PyData.canLayAll0]
  | n :: ns => by simp [PyData.canLayAll0, PyData.canLay0, canLay_ints ns]
theorem depth_ints : ∀ ns : List Int, PyData.depthAll (ns.map PyData.int) ≤ 1
  | [] => by simp [PyData.depthAll]
  | n :: ns => by
    have := depth_ints ns
    simp [PyData.depthAll, PyData.depth]
    omega
theorem shaped_ints (ns : List Int) : SeqAt.shaped (.list (ns.map PyData.int)) = true := by
  have := depth_ints ns
  have h2 := canLay_ints ns
  unfold SeqAt.shaped
  simp [PyData.canLay0, PyData.depth, h2]
  omega
theorem eqv_ints : ∀ ns ms : List Int, PyData.eqvAll (ns.map PyData.int) (ms.map PyData.int) = decide (ns = ms)
  | [], [] => rfl
  | [], m :: ms => rfl
  | n :: ns, [] => rfl
  | n :: ns, m :: ms => by
    simp only [List.map_cons, PyData.eqvAll, PyData.eqv, eqv_ints ns ms]
    by_cases h : n = m <;> by_cases h' : ns = ms <;> simp [h, h']
theorem dEq_ints (neg : Bool) (ns ms : List Int) : dEq neg (.lst (ns.map .int)) (.lst (ms.map .int)) = .ok (.bl (xorB neg (decide (ns = ms)))) := by
  show deepEq neg _ _ = _
  unfold deepEq
  rw [py_ints, py_ints]
  simp only [shaped_ints, Bool.and_self, grd_t]
  rw [xor_if]
  simp only [PyData.eqv, eqv_ints]
theorem dEq_scr (neg : Bool) (ns ms : List Int) : dEq neg (.scr ns) (.lst (ms.map .int)) = .ok (.bl (xorB neg (decide (ns = ms)))) := by
  show deepEq neg _ _ = _
  unfold deepEq
  rw [show py (.scr ns) = some (.list (ns.map PyData.int)) from rfl, py_ints]
  simp only [shaped_ints, Bool.and_self, grd_t]
  rw [xor_if]
  simp only [PyData.eqv, eqv_ints]
theorem dEq_scr_nil (neg : Bool) (ns : List Int) : dEq neg (.scr ns) (.lst []) = .ok (.bl (xorB neg (decide (ns = [])))) := dEq_scr neg ns []
theorem dEq_ints_nil (neg : Bool) (ns : List Int) : dEq neg (.lst (ns.map .int)) (.lst []) = .ok (.bl (xorB neg (decide (ns = [])))) := dEq_ints neg ns []
end DL
/-! evaluation, step by step: each rule fires at a known environment -/
namespace DL
open PySem PySem.Spec PyProof.Rows L2
section
variable {ρ : En} {f g k : En → R D} {fs : En → R (List D)} {s t s1 s2 : En → R Fl} {i : Nat} {d e : D} {ds es : List D} {b o : Bool} {ft gt : En → R Bool}
def seqK (x : R Fl) (t : En → R Fl) : R Fl := bd x fun r => match r with | .next ρ' => t ρ' | r => .ok r
theorem ap_seq : sSeq s t ρ = seqK (s ρ) t := rfl
theorem seq_next : seqK (.ok (.next ρ)) t = t ρ := rfl
theorem seq_ret : seqK (.ok (.ret o d)) t = .ok (.ret o d) := rfl
theorem seq_brk : seqK (.ok (.brk ρ)) t = .ok (.brk ρ) := rfl
theorem seq_cont : seqK (.ok (.cont ρ)) t = .ok (.cont ρ) := rfl
theorem seq_err {c : Str} : seqK (.err c) t = .err c := rfl
theorem ap_skip : sSkip ρ = .ok (.next ρ) := rfl
theorem ap_brk : sBrk ρ = .ok (.brk ρ) := rfl
theorem ap_cont : sCont ρ = .ok (.cont ρ) := rfl
theorem ap_stl {is : List Nat} : sStl is s ρ = s (settle ρ is) := rfl
theorem settle_nil : settle ρ [] = ρ := rfl
def settleK (x : Option Slot) (i : Nat) (is : List Nat) (ρ : En) : En := match x with
  | some (some (true, d)) => settle (ρ.set i (some (false, d))) is
  | _ => settle ρ is
theorem settle_cons {is : List Nat} : settle ρ (i :: is) = settleK ρ[i]? i is ρ := rfl
theorem settle_t {is : List Nat} : settleK (some (some (true, d))) i is ρ = settle (ρ.set i (some (false, d))) is := rfl
theorem settle_f {is : List Nat} : settleK (some (some (false, d))) i is ρ = settle ρ is := rfl
def iteK (x : R Bool) (s1 s2 : En → R Fl) (ρ : En) : R Fl := bd x fun c => if c = true then s1 ρ else s2 ρ
theorem ap_if : sIf ft s1 s2 ρ = iteK (ft ρ) s1 s2 ρ := rfl
theorem ite_t : iteK (.ok true) s1 s2 ρ = s1 ρ := rfl
theorem ite_f : iteK (.ok false) s1 s2 ρ = s2 ρ := rfl
theorem ite_ok : iteK (.ok b) s1 s2 ρ = if b = true then s1 ρ else s2 ρ := rfl
def setK (x : R D) (i : Nat) (ρ : En) : R Fl := bd x fun d => stE i d ρ
def setOK (x : R D) (i : Nat) (ρ : En) : R Fl := bd x fun d => stO i d ρ
theorem ap_set : sSet i f ρ = setK (f ρ) i ρ := rfl
theorem ap_setO : sSetO i f ρ = setOK (f ρ) i ρ := rfl
theorem set_ok : setK (.ok d) i ρ = .ok (.next (ρ.set i (some (false, d)))) := rfl
theorem setO_ok : setOK (.ok d) i ρ = .ok (.next (ρ.set i (some (isC d, d)))) := rfl
theorem isC_lst : isC (.lst ds) = true := rfl
theorem isC_dK {l : List (Key × D)} : isC (.dK l) = true := rfl
theorem isC_dT {l : List (List Key × D)} : isC (.dT l) = true := rfl
theorem isC_int {n : Int} : isC (.int n) = false := rfl
theorem isC_str {n : Str} : isC (.str n) = false := rfl
theorem isC_bl {n : Bool} : isC (.bl n) = false := rfl
theorem isC_non : isC .non = false := rfl
theorem isC_tup : isC (.tup ds) = false := rfl
def retK (x : R D) (o : Bool) : R Fl := bd x fun d => .ok (.ret o d)
theorem ap_ret : sRet f ρ = retK (f ρ) false := rfl
theorem ap_retO : sRetO f ρ = retK (f ρ) true := rfl
theorem ret_ok : retK (.ok d) o = .ok (.ret o d) := rfl
theorem ap_ret0 : sRetNone ρ = .ok (.ret false .non) := rfl
def unpK (x : R D) (g : D → En → Option En) (ρ : En) : R Fl := bd x fun d => match g d ρ with | some ρ' => .ok (.next ρ') | none => .bad
theorem ap_unp {gg : D → En → Option En} : sUnp f gg ρ = unpK (f ρ) gg ρ := rfl
def unp2 (x : Option En) : R Fl := match x with | some ρ' => .ok (.next ρ') | none => .bad
theorem unp_ok {gg : D → En → Option En} : unpK (.ok d) gg ρ = unp2 (gg d ρ) := rfl
theorem unp2_ok : unp2 (some ρ) = .ok (.next ρ) := rfl
theorem ap_drop : sDrop f ρ = bd (f ρ) fun _ => .ok (.next ρ) := rfl
/-! targets -/
theorem ap_gset : gSet i d ρ = some (ρ.set i (some (false, d))) := rfl
theorem ap_gtup {n : Nat} {gs : List D → En → Option En} : gSeqD n gs (.tup ds) ρ = if ds.length = n then gs ds ρ else none := rfl
theorem ap_glst {n : Nat} {gs : List D → En → Option En} : gSeqD n gs (.lst ds) ρ = if ds.length = n then gs ds ρ else none := rfl
theorem ap_gnil : gsNil [] ρ = some ρ := rfl
theorem ap_gcons {gg : D → En → Option En} {gs : List D → En → Option En} : gsCons gg gs (d :: ds) ρ = (gg d ρ).bind (gs ds) := rfl
/-! names, constants -/
def rdK (x : Option Slot) : R D := match x with | some (some (_, d)) => .ok d | _ => .bad
def rdEK (x : Option Slot) : R D := match x with | some (some (false, d)) => .ok d | some (some (true, d)) => if isC d = true then .bad else .ok d | _ => .bad
def rdOK (x : Option Slot) : R D := match x with | some (some (true, d)) => .ok d | some (some (false, d)) => if isC d = true then .bad else .ok d | _ => .bad
theorem ap_rd : rd i ρ = rdK ρ[i]? := rfl
theorem ap_rdE : rdE i ρ = rdEK ρ[i]? := rfl
theorem ap_rdO : rdO i ρ = rdOK ρ[i]? := rfl
theorem rd_ok : rdK (some (some (b, d))) = .ok d := rfl
theorem rdE_ok : rdEK (some (some (false, d))) = .ok d := rfl
theorem rdO_ok : rdOK (some (some (true, d))) = .ok d := rfl
theorem rdO_f (h : isC d = false) : rdOK (some (some (false, d))) = .ok d := by show (if isC d = true then R.bad else R.ok d) = _; simp [h]
theorem ap_cst : cst d ρ = .ok d := rfl
/-! operators -/
def bd2 (x y : R D) (w : D → D → R D) : R D := bd x fun d => bd y fun e => w d e
theorem ap_bop {w : D → D → R D} : bop f g w ρ = bd2 (f ρ) (g ρ) w := rfl
theorem bd2_ok {w : D → D → R D} : bd2 (.ok d) (.ok e) w = w d e := rfl
theorem ap_uop {w : D → R D} : uop f w ρ = bd (f ρ) w := rfl
theorem ap_nop {w : List D → R D} : nop fs w ρ = bd (fs ρ) w := rfl
theorem ap_anil : aNil ρ = .ok [] := rfl
def consK (x : R D) (y : R (List D)) : R (List D) := bd x fun d => bd y fun ds => .ok (d :: ds)
theorem ap_acons : aCons f fs ρ = consK (f ρ) (fs ρ) := rfl
theorem cons_ok : consK (.ok d) (.ok ds) = .ok (d :: ds) := rfl
theorem add_int {m n : Int} : dAdd (.int m) (.int n) = .ok (.int (m + n)) := rfl
theorem add_str {x y : Str} : dAdd (.str x) (.str y) = grd (small (x.length + y.length)) (.ok (.str (x ++ y))) := rfl
theorem add_lst : dAdd (.lst ds) (.lst es) = grd (small (ds.length + es.length)) (.ok (.lst (ds ++ es))) := rfl
theorem sub_int {m n : Int} : dSub (.int m) (.int n) = .ok (.int (m - n)) := rfl
theorem mod_int {m n : Int} : dMod (.int m) (.int n) = grd (decide (0 < n)) (.ok (.int (m % n))) := rfl
theorem mod_pos {m n : Int} (h : 0 < n) : dMod (.int m) (.int n) = .ok (.int (m % n)) := by rw [mod_int, decide_eq_true h]; rfl
theorem log_of {n b : Nat} (h : n < 2 ^ b) (h0 : 0 < b) : n.log2 < b := by
  by_cases hn : n = 0
  · subst hn; simpa using h0
  · exact (Nat.log2_lt hn).mpr h
theorem div_int {m n : Int} : dDiv (.int m) (.int n) = grd (decide (0 < n) && decide (n.natAbs.log2 < 9000)) (.ok (.int (m / n))) := rfl
theorem div_pos {m n : Int} (h : 0 < n) (h' : n < 2 ^ 200) : dDiv (.int m) (.int n) = .ok (.int (m / n)) := by
  have : n.natAbs.log2 < 200 := log_of (by omega) (by decide)
  rw [div_int, decide_eq_true h, decide_eq_true (show n.natAbs.log2 < 9000 by omega)]; rfl
theorem pow_int {m n : Int} : dPow (.int m) (.int n) = grd (decide (0 ≤ n) && decide (n ≤ 1000000) && decide (m.natAbs < 2 ^ 64)) (.ok (.int (m ^ n.toNat))) := rfl
theorem mul_int {m n : Int} : dMul (.int m) (.int n) = grd (decide (m.natAbs.log2 + n.natAbs.log2 < 1000000) || decide (m.natAbs < 2 ^ 64) || decide (n.natAbs < 2 ^ 64)) (.ok (.int (m * n))) := rfl
theorem pow_ok {m n : Int} (h0 : 0 ≤ n) (h1 : n ≤ 1000000) (h2 : -9223372036854775808 ≤ m) (h3 : m ≤ 9223372036854775807) : dPow (.int m) (.int n) = .ok (.int (m ^ n.toNat)) := by
  rw [pow_int, decide_eq_true h0, decide_eq_true h1, decide_eq_true (show m.natAbs < 2 ^ 64 by omega)]; rfl
theorem mul_small {m n : Int} (h : -(2 ^ 250) ≤ m) (h' : m ≤ 2 ^ 250) (h2 : -(2 ^ 250) ≤ n) (h3 : n ≤ 2 ^ 250) : dMul (.int m) (.int n) = .ok (.int (m * n)) := by
  have h1 : m.natAbs.log2 < 251 := log_of (by omega) (by decide)
  have h2 : n.natAbs.log2 < 251 := log_of (by omega) (by decide)
  rw [mul_int, decide_eq_true (show m.natAbs.log2 + n.natAbs.log2 < 1000000 by omega)]; rfl
theorem mul_r {m n : Int} (h : -(2 ^ 60) ≤ n) (h' : n ≤ 2 ^ 60) : dMul (.int m) (.int n) = .ok (.int (m * n)) := by
  rw [mul_int, decide_eq_true (show n.natAbs < 2 ^ 64 by omega), Bool.or_true]; rfl
theorem mul_l {m n : Int} (h : -(2 ^ 60) ≤ m) (h' : m ≤ 2 ^ 60) : dMul (.int m) (.int n) = .ok (.int (m * n)) := by
  rw [mul_int, decide_eq_true (show m.natAbs < 2 ^ 64 by omega), Bool.or_true, Bool.true_or]; rfl
theorem rep_lst {n : Int} : dMul (.lst ds) (.int n) = grd (decide (-(2 ^ 63) ≤ n) && decide (n < 2 ^ 63) && small (ds.length * n.toNat)) (.ok (.lst (List.replicate n.toNat ds).flatten)) := rfl
theorem neg_int {n : Int} : dNeg (.int n) = .ok (.int (-n)) := rfl
theorem eq_int {neg : Bool} {m n : Int} : dEq neg (.int m) (.int n) = .ok (.bl (xorB neg (decide (m = n)))) := rfl
theorem eq_str {neg : Bool} {m n : Str} : dEq neg (.str m) (.str n) = .ok (.bl (xorB neg (decide (m = n)))) := rfl
theorem eq_bl {neg : Bool} {m n : Bool} : dEq neg (.bl m) (.bl n) = .ok (.bl (xorB neg (decide (m = n)))) := rfl
theorem eq_non_int {neg : Bool} {n : Int} : dEq neg .non (.int n) = .ok (.bl (xorB neg false)) := rfl
theorem eq_int_non {neg : Bool} {n : Int} : dEq neg (.int n) .non = .ok (.bl (xorB neg false)) := rfl
theorem lt_int {m n : Int} : dLt (.int m) (.int n) = .ok (.bl (decide (m < n))) := rfl
theorem le_int {m n : Int} : dLe (.int m) (.int n) = .ok (.bl (decide (m ≤ n))) := rfl
theorem gt_int {m n : Int} : dGt (.int m) (.int n) = .ok (.bl (decide (n < m))) := rfl
theorem ge_int {m n : Int} : dGe (.int m) (.int n) = .ok (.bl (decide (n ≤ m))) := rfl
theorem isN_ap {neg : Bool} : dIsN neg d .non = .ok (.bl (xorB neg (isN d))) := rfl
theorem isN_non : isN .non = true := rfl
theorem isN_int {n : Int} : isN (.int n) = false := rfl
theorem isN_str {n : Str} : isN (.str n) = false := rfl
theorem is_bl {neg m n : Bool} : dIsN neg (.bl m) (.bl n) = .ok (.bl (xorB neg (decide (m = n)))) := rfl
theorem lt_str {x y : Str} : dLt (.str x) (.str y) = .ok (.bl (decide (x.cps.toList < y.cps.toList))) := rfl
theorem le_str {x y : Str} : dLe (.str x) (.str y) = .ok (.bl (!decide (y.cps.toList < x.cps.toList))) := rfl
def rdLK (x : Option D) : R D := match x with | some d => .ok d | none => .bad
theorem ap_rdL {i : Nat} : rdL ds i ρ = rdLK ds[i]? := rfl
theorem rdL_ok : rdLK (some d) = .ok d := rfl
def rdFK (x : Option D) : R D := match x with | some d => grd (flatB d) (.ok d) | none => .bad
theorem ap_rdF {i : Nat} : rdF ds i ρ = rdFK ds[i]? := rfl
theorem rdF_int {n : Int} : rdFK (some (.int n)) = .ok (.int n) := rfl
theorem isN_bl {n : Bool} : isN (.bl n) = false := rfl
theorem isN_lst : isN (.lst ds) = false := rfl
theorem isN_tup : isN (.tup ds) = false := rfl
theorem asB_bl : asB (.bl b) = .ok b := rfl
theorem asI_int {n : Int} : asI (.int n) = .ok (some n) := rfl
theorem mkLst_ap : mkLst ds = grd (small ds.length) (.ok (.lst ds)) := rfl
theorem mkTup_ap : mkTup ds = grd (small ds.length) (.ok (.tup ds)) := rfl
theorem len_lst : dLen [.lst ds] = .ok (.int ds.length) := rfl
theorem len_tup : dLen [.tup ds] = .ok (.int ds.length) := rfl
theorem len_scr {ns : List Int} : dLen [.scr ns] = .ok (.int ns.length) := rfl
theorem len_str {z : Str} : dLen [.str z] = grd (small z.length) (.ok (.int z.length)) := rfl
theorem len_dK {l : List (Key × D)} : dLen [.dK l] = .ok (.int l.length) := rfl
theorem list_lst : dList [.lst ds] = .ok (.lst ds) := rfl
theorem list_tup : dList [.tup ds] = .ok (.lst ds) := rfl
theorem list_scr {ns : List Int} : dList [.scr ns] = .ok (.lst (ns.map .int)) := rfl
theorem tuple_lst : dTuple [.lst ds] = .ok (.tup ds) := rfl
theorem flatO_int {n : Int} : flatO (.int n) = .ok (.int n) := rfl
theorem flatO_bl {n : Bool} : flatO (.bl n) = .ok (.bl n) := rfl
theorem flatO_str {n : Str} : flatO (.str n) = .ok (.str n) := rfl
theorem flatO_non : flatO .non = .ok .non := rfl
theorem flatO_tup : flatO (.tup ds) = .ok (.tup ds) := rfl
theorem eNot_bl : eNot (.bl b) = .ok (.bl (!b)) := rfl
theorem isi_int {T : String} {n : Int} : isiD T (.int n) = .ok (.bl (isB T (.int n))) := rfl
theorem isi_bl {T : String} {n : Bool} : isiD T (.bl n) = .ok (.bl (isB T (.bl n))) := rfl
theorem isi_str {T : String} {n : Str} : isiD T (.str n) = .ok (.bl (isB T (.str n))) := rfl
theorem isi_non {T : String} : isiD T .non = .ok (.bl (isB T .non)) := rfl
theorem isi_lst {T : String} : isiD T (.lst ds) = .ok (.bl (isB T (.lst ds))) := rfl
theorem isi_tup {T : String} : isiD T (.tup ds) = .ok (.bl (isB T (.tup ds))) := rfl
theorem isB_int_int {n : Int} : isB "int" (.int n) = true := rfl
theorem isB_int_bl {n : Bool} : isB "int" (.bl n) = true := rfl
theorem isB_int_str {n : Str} : isB "int" (.str n) = false := rfl
theorem isB_int_non : isB "int" .non = false := rfl
theorem isB_int_lst : isB "int" (.lst ds) = false := rfl
theorem isB_int_tup : isB "int" (.tup ds) = false := rfl
theorem isB_bool_int {n : Int} : isB "bool" (.int n) = false := rfl
theorem isB_bool_bl {n : Bool} : isB "bool" (.bl n) = true := rfl
theorem isB_bool_str {n : Str} : isB "bool" (.str n) = false := rfl
theorem isB_bool_non : isB "bool" .non = false := rfl
theorem isB_bool_lst : isB "bool" (.lst ds) = false := rfl
theorem isB_bool_tup : isB "bool" (.tup ds) = false := rfl
theorem isB_list_lst : isB "list" (.lst ds) = true := rfl
theorem isB_list_int {n : Int} : isB "list" (.int n) = false := rfl
theorem isB_list_tup : isB "list" (.tup ds) = false := rfl
theorem isB_tuple_tup : isB "tuple" (.tup ds) = true := rfl
theorem isB_tuple_lst : isB "tuple" (.lst ds) = false := rfl
theorem isB_str_str {n : Str} : isB "str" (.str n) = true := rfl
theorem isB_str_int {n : Int} : isB "str" (.int n) = false := rfl
theorem ix_l0 : dIxA (.lst (d :: ds)) (.int 0) = .ok d := ixA_lst (by omega) rfl
theorem ix_t0 : dIxA (.tup (d :: ds)) (.int 0) = .ok d := ixA_tup (by omega) rfl
theorem atI_s {α : Type} {x : α} {xs : List α} {n : Int} (h : 0 < n) : L2.atI (x :: xs) n = L2.atI xs (n - 1) := by
  obtain ⟨k, rfl⟩ : ∃ k : Nat, n = (k : Int) + 1 := ⟨(n - 1).toNat, by omega⟩
  have e : (k : Int) + 1 - 1 = k := by omega
  have e0 : (0 : Int) ≤ (k : Int) + 1 := by omega
  have e1 : (0 : Int) ≤ (k : Int) := by omega
  unfold L2.atI L2.ixN
  rw [e, List.length_cons, if_pos e0, if_pos e1]
  by_cases hk : k < xs.length
  · have c1 : (k : Int) + 1 < ((xs.length + 1 : Nat) : Int) := by omega
    have c2 : (k : Int) < (xs.length : Int) := by omega
    rw [if_pos c1, if_pos c2]
    simp only [Option.bind_some]
    rw [show ((k : Int) + 1).toNat = k + 1 by omega, show ((k : Int)).toNat = k by omega]
    rfl
  · have c1 : ¬ (k : Int) + 1 < ((xs.length + 1 : Nat) : Int) := by omega
    have c2 : ¬ (k : Int) < (xs.length : Int) := by omega
    rw [if_neg c1, if_neg c2]
    rfl
theorem ix_ls {n : Int} (h : 0 < n) : dIxA (.lst (d :: ds)) (.int n) = dIxA (.lst ds) (.int (n - 1)) := by
  show (match L2.atI (d :: ds) n with | some d => R.ok d | none => R.bad) = (match L2.atI ds (n - 1) with | some d => R.ok d | none => R.bad)
  rw [atI_s h]
theorem ix_ts {n : Int} (h : 0 < n) : dIxA (.tup (d :: ds)) (.int n) = dIxA (.tup ds) (.int (n - 1)) := by
  show (match L2.atI (d :: ds) n with | some d => R.ok d | none => R.bad) = (match L2.atI ds (n - 1) with | some d => R.ok d | none => R.bad)
  rw [atI_s h]
theorem max_int {m n : Int} : dMax [.int m, .int n] = .ok (.int (if n > m then n else m)) := rfl
theorem min_int {m n : Int} : dMin [.int m, .int n] = .ok (.int (if n < m then n else m)) := rfl
theorem sum_ints (ns : List Int) : dSum [.lst (ns.map .int)] = .ok (.int ns.sum) := by
  show (match asInts (ns.map D.int) with | some ns => R.ok (D.int ns.sum) | none => R.bad) = _
  rw [asInts_map]
theorem sort_ints (ns : List Int) : dSorted [.lst (ns.map .int)] = .ok (.lst ((srt ns).map .int)) := by
  show (match asInts (ns.map D.int) with | some ns => R.ok (D.lst ((srt ns).map .int)) | none => match asStrs (ns.map D.int) with | some ss => grd (decide (ss.length < 64)) (R.ok (D.lst ((srtT ss).map .str))) | none => R.bad) = _
  rw [asInts_map]
theorem sort_strs {ss : List Str} (h : ss.length < 64) : dSorted [.lst (ss.map .str)] = .ok (.lst ((srtT ss).map .str)) := by
  show (match asInts (ss.map D.str) with | some ns => R.ok (D.lst ((srt ns).map .int)) | none => match asStrs (ss.map D.str) with | some ss => grd (decide (ss.length < 64)) (R.ok (D.lst ((srtT ss).map .str))) | none => R.bad) = _
  cases ss with
  | nil =>
    show R.ok (D.lst ((srt []).map .int)) = _
    unfold srt srtT
    rw [List.mergeSort_nil, List.mergeSort_nil]; rfl
  | cons s ss =>
    rw [show asInts ((s :: ss).map D.str) = none from rfl, asStrs_map]
    show grd (decide ((s :: ss).length < 64)) _ = _
    rw [decide_eq_true h]; rfl
theorem setOf_ints {ns : List Int} (h : ns.length ≤ 4000) : setOf [.lst (ns.map .int)] = .ok ns := by
  show (match asInts (ns.map D.int) with | some ns => grd (decide (ns.length ≤ 4000)) (R.ok ns) | none => R.bad) = _
  rw [asInts_map]
  simp only [decide_eq_true h, grd_t]
theorem lenS_ints {ns : List Int} (h : ns.length ≤ 4000) : lenS [.lst (ns.map .int)] = .ok (.int (uniq ns).length) := by unfold lenS; rw [setOf_ints h]; rfl
theorem sortS_ints {ns : List Int} (h : ns.length ≤ 4000) (h' : (uniq ns).length < 64) : sortS [.lst (ns.map .int)] = .ok (.lst ((srtS ns).map .int)) := by
  unfold sortS; rw [setOf_ints h, bd_ok, decide_eq_true h']; rfl
theorem itEnum_lst : itEnum [.lst ds] = .ok (enumD ds) := rfl
theorem itZip_lst : itZip [.lst ds, .lst es] = .ok (zipD ds es) := rfl
theorem itRev_lst : itRev [.lst ds] = .ok ds.reverse := rfl
def idxK (x y : R D) : R D := bd x fun d => match d with | .lst ds => bd y fun e => dIndex (.lst ds) e | _ => .bad
theorem rev_lst : dRevS (.lst ds) = .ok (.lst ds.reverse) := rfl
theorem maxDef_ints {ns : List Int} {m : Int} : dMaxDef (.lst (ns.map D.int)) (.int m) = .ok (.int (maxI ns m)) := by
  show (match asInts (ns.map D.int) with | some ns => R.ok (D.int (maxI ns m)) | none => .bad) = _
  rw [asInts_map]
def cntK (x y : R D) : R D := bd x fun d => match d with | .lst ds => bd y fun e => dCount (.lst ds) e | _ => .bad
theorem ap_cnt : cnt f g ρ = cntK (f ρ) (g ρ) := rfl
theorem cnt_ok : cntK (.ok (.lst ds)) (.ok e) = dCount (.lst ds) e := rfl
theorem ap_idx : idx f g ρ = idxK (f ρ) (g ρ) := rfl
theorem idx_ok : idxK (.ok (.lst ds)) (.ok d) = dIndex (.lst ds) d := rfl
theorem inSeq_flat {neg : Bool} (h : isFlat d = true) (h' : ds.all isFlat = true) : dIn neg d (.lst ds) = .ok (.bl (xorB neg (ds.any fun y => eqF y d))) := by
  show inSeq neg d ds = _
  unfold inSeq
  rw [h, h']
  rfl
theorem all_flat_ints (ns : List Int) : (ns.map D.int).all isFlat = true := by
  rw [List.all_eq_true]
  intro d hd
  obtain ⟨n, _, rfl⟩ := List.mem_map.mp hd
  rfl
theorem in_ints {neg : Bool} {n : Int} (ns : List Int) : dIn neg (.int n) (.lst (ns.map .int)) = .ok (.bl (xorB neg (decide (n ∈ ns)))) := by
  rw [inSeq_flat rfl (all_flat_ints ns)]
  congr 3
  rw [Bool.eq_iff_iff, List.any_map, List.any_eq_true, decide_eq_true_eq]
  constructor
  · rintro ⟨x, hx, e⟩
    have e : (x == n) = true := e
    rw [beq_iff_eq] at e
    exact e ▸ hx
  · intro h
    exact ⟨n, h, by show (n == n) = true; exact beq_self_eq_true n⟩
/-! tests -/
theorem ap_tst : tst f ρ = bd (f ρ) asB := rfl
theorem ap_bnot : bNot ft ρ = bd (ft ρ) fun c => .ok (!c) := rfl
def andK (x : R Bool) (g : En → R Bool) (ρ : En) : R Bool := bd x fun c => if c = true then g ρ else .ok false
def orK (x : R Bool) (g : En → R Bool) (ρ : En) : R Bool := bd x fun c => if c = true then .ok true else g ρ
theorem ap_band : bAnd ft gt ρ = andK (ft ρ) gt ρ := rfl
theorem ap_bor : bOr ft gt ρ = orK (ft ρ) gt ρ := rfl
theorem and_t : andK (.ok true) gt ρ = gt ρ := rfl
theorem and_f : andK (.ok false) gt ρ = .ok false := rfl
theorem and_ok : andK (.ok b) gt ρ = if b = true then gt ρ else .ok false := rfl
theorem or_t : orK (.ok true) gt ρ = .ok true := rfl
theorem or_f : orK (.ok false) gt ρ = gt ρ := rfl
theorem or_ok : orK (.ok b) gt ρ = if b = true then .ok true else gt ρ := rfl
def eAndK (x : R D) (g : En → R D) (ρ : En) : R D := bd x fun c => match c with | .bl true => g ρ | .bl false => .ok (.bl false) | _ => .bad
def eOrK (x : R D) (g : En → R D) (ρ : En) : R D := bd x fun c => match c with | .bl true => .ok (.bl true) | .bl false => g ρ | _ => .bad
theorem ap_eand : eAnd f g ρ = eAndK (f ρ) g ρ := rfl
theorem ap_eor : eOr f g ρ = eOrK (f ρ) g ρ := rfl
theorem eand_t : eAndK (.ok (.bl true)) g ρ = g ρ := rfl
theorem eand_f : eAndK (.ok (.bl false)) g ρ = .ok (.bl false) := rfl
theorem eand_ok : eAndK (.ok (.bl b)) g ρ = if b = true then g ρ else .ok (.bl false) := by cases b <;> rfl
theorem eor_t : eOrK (.ok (.bl true)) g ρ = .ok (.bl true) := rfl
theorem eor_f : eOrK (.ok (.bl false)) g ρ = g ρ := rfl
theorem eor_ok : eOrK (.ok (.bl b)) g ρ = if b = true then .ok (.bl true) else g ρ := by cases b <;> rfl
def eIfK (x : R Bool) (f g : En → R D) (ρ : En) : R D := bd x fun c => if c = true then f ρ else g ρ
theorem ap_eif : eIf ft f g ρ = eIfK (ft ρ) f g ρ := rfl
theorem eif_t : eIfK (.ok true) f g ρ = f ρ := rfl
theorem eif_f : eIfK (.ok false) f g ρ = g ρ := rfl
theorem eif_ok : eIfK (.ok b) f g ρ = if b = true then f ρ else g ρ := rfl
def chnK (x : R D) (y : D) (w' : D → D → R D) (k : En → R D) (ρ : En) : R D := bd x fun z => match z with | .bl true => bd (k ρ) fun u => w' y u | .bl false => .ok (.bl false) | _ => .bad
def chn0 (x y : R D) (w w' : D → D → R D) (k : En → R D) (ρ : En) : R D := bd x fun d => bd y fun e => chnK (w d e) e w' k ρ
theorem ap_chain {w w' : D → D → R D} : eChain w w' f g k ρ = chn0 (f ρ) (g ρ) w w' k ρ := by
  unfold eChain chn0
  rfl
theorem chn0_ok {w w' : D → D → R D} : chn0 (.ok d) (.ok e) w w' k ρ = chnK (w d e) e w' k ρ := rfl
theorem chn_t {w' : D → D → R D} : chnK (.ok (.bl true)) e w' k ρ = bd (k ρ) fun u => w' e u := rfl
theorem chn_f {w' : D → D → R D} : chnK (.ok (.bl false)) e w' k ρ = .ok (.bl false) := rfl
theorem chn_ok {w' : D → D → R D} : chnK (.ok (.bl b)) e w' k ρ = if b = true then bd (k ρ) fun u => w' e u else .ok (.bl false) := by cases b <;> rfl
/-! slices -/
def slcK (x : R D) (l h : R (Option Int)) : R D := bd x fun d => bd l fun l => bd h fun h => dCut d l h
theorem ap_slc {l h : En → R (Option Int)} : slc f l h ρ = slcK (f ρ) (l ρ) (h ρ) := rfl
theorem slc_ok {l h : Option Int} : slcK (.ok d) (.ok l) (.ok h) = dCut d l h := rfl
theorem ap_pnone : pNone ρ = .ok none := rfl
theorem ap_psome : pSome f ρ = bd (f ρ) asI := rfl
theorem cut_lst {l h : Option Int} : dCut (.lst ds) l h = .ok (.lst (cutD ds l h)) := rfl
theorem cut_str {z : Str} {l h : Option Int} : dCut (.str z) l h = grd (small z.length) (.ok (.str (cutS z l h))) := rfl
theorem cut_scr {ns : List Int} {l h : Option Int} : dCut (.scr ns) l h = .ok (.lst ((cutD ns l h).map .int)) := rfl
/-! loops -/
def loopK (x : R (List D)) (g : D → En → Option En) (gb : En → R Fl) (ρ : En) : R Fl := bd x fun ds => loopD g gb ds ρ
theorem ap_for {fi : En → R (List D)} {gg : D → En → Option En} {gb : En → R Fl} : sFor fi gg gb ρ = loopK (fi ρ) gg gb ρ := rfl
theorem loop_ok {gg : D → En → Option En} {gb : En → R Fl} : loopK (.ok ds) gg gb ρ = loopD gg gb ds ρ := rfl
def lp2 (x : R Fl) (g : D → En → Option En) (gb : En → R Fl) (ds : List D) : R Fl := bd x fun r => match r with
  | .next ρ' => loopD g gb ds ρ'
  | .cont ρ' => loopD g gb ds ρ'
  | .brk ρ' => .ok (.next ρ')
  | .ret o d => .ok (.ret o d)
def lp1 (x : Option En) (g : D → En → Option En) (gb : En → R Fl) (ds : List D) : R Fl := match x with
  | none => .bad
  | some ρ1 => lp2 (gb ρ1) g gb ds
theorem ap_loop0 {gg : D → En → Option En} {gb : En → R Fl} : loopD gg gb [] ρ = .ok (.next ρ) := rfl
theorem ap_loop1 {gg : D → En → Option En} {gb : En → R Fl} : loopD gg gb (d :: ds) ρ = lp1 (gg d ρ) gg gb ds := rfl
theorem lp1_ok {gg : D → En → Option En} {gb : En → R Fl} : lp1 (some ρ) gg gb ds = lp2 (gb ρ) gg gb ds := rfl
theorem lp2_next {gg : D → En → Option En} {gb : En → R Fl} : lp2 (.ok (.next ρ)) gg gb ds = loopD gg gb ds ρ := rfl
theorem lp2_cont {gg : D → En → Option En} {gb : En → R Fl} : lp2 (.ok (.cont ρ)) gg gb ds = loopD gg gb ds ρ := rfl
theorem lp2_brk {gg : D → En → Option En} {gb : En → R Fl} : lp2 (.ok (.brk ρ)) gg gb ds = .ok (.next ρ) := rfl
theorem lp2_ret {gg : D → En → Option En} {gb : En → R Fl} : lp2 (.ok (.ret o d)) gg gb ds = .ok (.ret o d) := rfl
theorem ap_itr : itr f ρ = bd (f ρ) itD := rfl
theorem ap_irg {w : List D → R (List D)} : irg fs w ρ = bd (fs ρ) w := rfl
theorem itD_lst : itD (.lst ds) = .ok ds := rfl
theorem itD_tup : itD (.tup ds) = .ok ds := rfl
theorem itD_scr {ns : List Int} : itD (.scr ns) = .ok (ns.map .int) := rfl
theorem itD_str {z : Str} : itD (.str z) = .ok (signs z) := rfl
theorem rng1_ap {n : Int} : rng1 [.int n] = grd (DL.inR n) (.ok ((List.range n.toNat).map fun (i : Nat) => D.int (0 + (i : Int)))) := rfl
theorem rng2_ap {m n : Int} : rng2 [.int m, .int n] = grd (DL.inR m && DL.inR n) (.ok ((List.range (n - m).toNat).map fun (i : Nat) => D.int (m + (i : Int)))) := rfl
def lcK (x : R (List D)) (own : List Nat) (g : D → En → Option En) (t : En → R Bool) (f : En → R D) (ρ : En) : R D := bd x fun ds => grd (decide (ds.length < sizeLine)) (bd (lcGo g t f (wipeR ρ own) ds) fun zs => .ok (.lst zs))
theorem ap_lc {own : List Nat} {fi : En → R (List D)} {gg : D → En → Option En} : lcD own fi gg ft f ρ = lcK (fi ρ) own gg ft f ρ := rfl
/-- a comprehension's value -/
theorem lc_is {own : List Nat} {gg : D → En → Option En} {zs : List D} (hl : ds.length ≤ 1000000) (h : lcGo gg ft f (wipeR ρ own) ds = .ok zs) : lcK (.ok ds) own gg ft f ρ = .ok (.lst zs) := by
  unfold lcK
  rw [bd_ok, lt_size hl, grd_t, h]
  rfl
theorem wipe_nil : wipeR ρ [] = ρ := rfl
theorem wipe_cons {is : List Nat} : wipeR ρ (i :: is) = (wipeR ρ is).set i none := rfl
/-! a step of a comprehension, with and without a test -/
theorem lcS_all {gg : D → En → Option En} {ρ1 : En} {z : D} (hg : gg d ρ = some ρ1) (hf : f ρ1 = .ok z) : lcStep gg tYesD f ρ d = .ok (some z) := by
  unfold lcStep
  rw [hg]
  dsimp only [tYesD]
  rw [hf]
theorem lcS_t {gg : D → En → Option En} {ρ1 : En} {z : D} (hg : gg d ρ = some ρ1) (ht : ft ρ1 = .ok true) (hf : f ρ1 = .ok z) : lcStep gg ft f ρ d = .ok (some z) := by
  unfold lcStep
  rw [hg]
  dsimp only
  rw [ht]
  dsimp only
  rw [hf]
theorem lcS_f {gg : D → En → Option En} {ρ1 : En} (hg : gg d ρ = some ρ1) (ht : ft ρ1 = .ok false) : lcStep gg ft f ρ d = .ok none := by
  unfold lcStep
  rw [hg]
  dsimp only
  rw [ht]
/-! what changes -/
def appK (x : Option Slot) (y : R D) (i : Nat) (ρ : En) : R Fl := match x with
  | some (some (true, .lst ds)) => bd y fun z => grd (decide (ds.length < sizeLine)) (.ok (.next (ρ.set i (some (true, .lst (ds ++ [z]))))))
  | _ => .bad
theorem ap_app : sAppend i f ρ = appK ρ[i]? (f ρ) i ρ := rfl
theorem app_ok (h : ds.length ≤ 1000000) : appK (some (some (true, .lst ds))) (.ok d) i ρ = .ok (.next (ρ.set i (some (true, .lst (ds ++ [d]))))) := by
  show bd (.ok d) (fun z => grd (decide (ds.length < sizeLine)) (R.ok (Fl.next (ρ.set i (some (true, .lst (ds ++ [z]))))))) = _
  rw [bd_ok, lt_size h]
  rfl
def extK (x : Option Slot) (y : R D) (i : Nat) (ρ : En) : R Fl := match x with
  | some (some (true, .lst ds)) => bd y fun z => match z with | .lst es => grd (small (ds.length + es.length)) (.ok (.next (ρ.set i (some (true, .lst (ds ++ es)))))) | _ => .bad
  | _ => .bad
theorem ap_ext : sExtend i f ρ = extK ρ[i]? (f ρ) i ρ := rfl
theorem ext_ok (h : ds.length + es.length ≤ 1000000) : extK (some (some (true, .lst ds))) (.ok (.lst es)) i ρ = .ok (.next (ρ.set i (some (true, .lst (ds ++ es))))) := by
  show grd (small (ds.length + es.length)) (R.ok (Fl.next (ρ.set i (some (true, .lst (ds ++ es)))))) = _
  rw [small_of h]
  rfl
def own0K (x : Option Slot) (w : List D → List D) (i : Nat) (ρ : En) : R Fl := match x with
  | some (some (true, .lst ds)) => .ok (.next (ρ.set i (some (true, .lst (w ds)))))
  | _ => .bad
theorem ap_own0 {w : List D → List D} : sOwn0 i w ρ = own0K ρ[i]? w i ρ := rfl
theorem own0_ok {w : List D → List D} : own0K (some (some (true, .lst ds))) w i ρ = .ok (.next (ρ.set i (some (true, .lst (w ds))))) := rfl
def putK' (x : Option Slot) (y z : R D) (i : Nat) (ρ : En) : R Fl := match x with
  | some (some (true, d)) => bd y fun v => bd z fun q => bd (putA d q v) fun d' => .ok (.next (ρ.set i (some (true, d'))))
  | _ => .bad
theorem ap_put : sPut i f g ρ = putK' ρ[i]? (f ρ) (g ρ) i ρ := rfl
def put2K (x : R D) (i : Nat) (ρ : En) : R Fl := bd x fun d' => .ok (.next (ρ.set i (some (true, d'))))
theorem put_ok {z : D} : putK' (some (some (true, z))) (.ok d) (.ok e) i ρ = put2K (putA z e d) i ρ := rfl
theorem put2_ok : put2K (.ok d) i ρ = .ok (.next (ρ.set i (some (true, d)))) := rfl
theorem itZipL_lst : itZipL [.lst ds, .lst es] = .ok (zipD ds es) := rfl
def insK (x : Option Slot) (y z : R D) (i : Nat) (ρ : En) : R Fl := match x with
  | some (some (true, .lst ds)) => bd y fun q => bd z fun z => match q with
    | .int j => grd (decide (ds.length < sizeLine) && decide (0 ≤ j) && decide (j < 2 ^ 63)) (.ok (.next (ρ.set i (some (true, .lst (ds.take j.toNat ++ [z] ++ ds.drop j.toNat))))))
    | _ => .bad
  | _ => .bad
theorem ap_ins : sInsert i g f ρ = insK ρ[i]? (g ρ) (f ρ) i ρ := rfl
theorem ins_ok {j : Int} (h : ds.length ≤ 1000000) (h0 : 0 ≤ j) (h1 : j ≤ 1000000) : insK (some (some (true, .lst ds))) (.ok (.int j)) (.ok d) i ρ = .ok (.next (ρ.set i (some (true, .lst (ds.take j.toNat ++ [d] ++ ds.drop j.toNat))))) := by
  show grd (decide (ds.length < sizeLine) && decide (0 ≤ j) && decide (j < 2 ^ 63)) _ = _
  rw [lt_size h, decide_eq_true h0, decide_eq_true (show j < 2 ^ 63 by omega)]; rfl
theorem intB_bl {b : Bool} : dIntB [.bl b] = .ok (.int (if b then 1 else 0)) := rfl
theorem intB_int {n : Int} : dIntB [.int n] = .ok (.int n) := rfl
/-! rows -/
theorem ap_nrmS {is : List Nat} : sNrm is s ρ = s (nrm ρ is) := rfl
theorem nrm_nil : nrm ρ [] = ρ := rfl
def nrmK (x : Option Slot) (i : Nat) (is : List Nat) (ρ : En) : En := match x with
  | some (some (true, .rows rs)) => nrm (ρ.set i (some (true, .lst rs))) is
  | some (some (false, .rows rs)) => nrm (ρ.set i (some (false, .lst rs))) is
  | _ => nrm ρ is
theorem nrm_cons {is : List Nat} : nrm ρ (i :: is) = nrmK ρ[i]? i is ρ := rfl
theorem nrm_rows {is : List Nat} : nrmK (some (some (b, .rows ds))) i is ρ = nrm (ρ.set i (some (b, .lst ds))) is := by cases b <;> rfl
theorem nrm_lst {is : List Nat} : nrmK (some (some (b, .lst ds))) i is ρ = nrm ρ is := by cases b <;> rfl
theorem isC_rows : isC (.rows ds) = true := rfl
theorem len_rows : dLen [.rows ds] = .ok (.int ds.length) := rfl
theorem unR_rows : unR (.rows ds) = .ok (.lst ds) := rfl
theorem unR_lst : unR (.lst ds) = .ok (.lst ds) := rfl
theorem isi_rows : isiD "list" (.rows ds) = .ok (.bl true) := rfl
theorem eq_rows {neg : Bool} : dEq neg (.rows ds) (.lst es) = dEq neg (.lst ds) (.lst es) := by
  show deepEq neg _ _ = deepEq neg _ _
  unfold deepEq
  rw [show py (.rows ds) = py (.lst ds) by unfold py; rfl]
theorem ixR_at {j : Int} (h0 : 0 ≤ j) (h : ds[j.toNat]? = some d) : dIxR (.rows ds) (.int j) = .ok d := by
  have hl := (List.getElem?_eq_some_iff.mp h).1
  show (match L2.atI ds j with | some d => R.ok d | none => .bad) = _
  have : L2.atI ds j = some d := by
    unfold L2.atI L2.ixN
    rw [if_pos h0, if_pos (by omega)]
    exact h
  rw [this]
theorem rowAt_of {j : Int} (h0 : 0 ≤ j) (h : ds[j.toNat]? = some (.lst es)) : rowAt ds j = some (j.toNat, es) := by
  have hl := (List.getElem?_eq_some_iff.mp h).1
  have : L2.ixN ds.length j = some j.toNat := by
    unfold L2.ixN
    rw [if_pos h0, if_pos (by omega)]
  unfold rowAt
  rw [this]
  dsimp only
  rw [h]
def rowMK (x : Option Slot) (y z : R D) (w : List D → D → R (List D)) (i : Nat) (ρ : En) : R Fl := match x with
  | some (some (true, .rows rs)) => bd y fun q => match q with
    | .int j => match rowAt rs j with
      | some (m, xs) => bd z fun z => bd (w xs z) fun xs' => .ok (.next (ρ.set i (some (true, .rows (rs.set m (.lst xs'))))))
      | none => .bad
    | _ => .bad
  | _ => .bad
def rowM2 (x : Option (Nat × List D)) (rs : List D) (z : R D) (w : List D → D → R (List D)) (i : Nat) (ρ : En) : R Fl := match x with
  | some (m, xs) => bd z fun z => bd (w xs z) fun xs' => .ok (.next (ρ.set i (some (true, .rows (rs.set m (.lst xs'))))))
  | none => .bad
def rowM3 (x : R (List D)) (m : Nat) (rs : List D) (i : Nat) (ρ : En) : R Fl := bd x fun xs' => .ok (.next (ρ.set i (some (true, .rows (rs.set m (.lst xs'))))))
theorem ap_rowM {w : List D → D → R (List D)} : sRowM i g f w ρ = rowMK ρ[i]? (g ρ) (f ρ) w i ρ := rfl
theorem rowM_ok {w : List D → D → R (List D)} {j : Int} {z : R D} : rowMK (some (some (true, .rows ds))) (.ok (.int j)) z w i ρ = rowM2 (rowAt ds j) ds z w i ρ := rfl
theorem rowM2_ok {w : List D → D → R (List D)} {m : Nat} {xs rs : List D} : rowM2 (some (m, xs)) rs (.ok d) w i ρ = rowM3 (w xs d) m rs i ρ := rfl
theorem rowM3_ok {m : Nat} {xs rs : List D} : rowM3 (.ok xs) m rs i ρ = .ok (.next (ρ.set i (some (true, .rows (rs.set m (.lst xs)))))) := rfl
theorem wApp_ok (h : ds.length ≤ 1000000) : wAppend ds d = .ok (ds ++ [d]) := by
  unfold wAppend
  rw [lt_size h]; rfl
theorem wRem_ok {ns : List Int} {n : Int} (h : n ∈ ns) : wRemove (ns.map .int) (.int n) = .ok ((ns.erase n).map .int) := by
  unfold wRemove
  rw [asInts_map]
  show grd (decide (n ∈ ns)) _ = _
  rw [decide_eq_true h]; rfl
def row0K (x : Option Slot) (y : R D) (w : List D → List D) (i : Nat) (ρ : En) : R Fl := match x with
  | some (some (true, .rows rs)) => bd y fun q => match q with
    | .int j => match rowAt rs j with
      | some (m, xs) => .ok (.next (ρ.set i (some (true, .rows (rs.set m (.lst (w xs)))))))
      | none => .bad
    | _ => .bad
  | _ => .bad
def row02 (x : Option (Nat × List D)) (rs : List D) (w : List D → List D) (i : Nat) (ρ : En) : R Fl := match x with
  | some (m, xs) => .ok (.next (ρ.set i (some (true, .rows (rs.set m (.lst (w xs)))))))
  | none => .bad
theorem ap_row0 {w : List D → List D} : sRow0 i g w ρ = row0K ρ[i]? (g ρ) w i ρ := rfl
theorem row0_ok {w : List D → List D} {j : Int} : row0K (some (some (true, .rows ds))) (.ok (.int j)) w i ρ = row02 (rowAt ds j) ds w i ρ := rfl
theorem row02_ok {w : List D → List D} {m : Nat} {xs rs : List D} : row02 (some (m, xs)) rs w i ρ = .ok (.next (ρ.set i (some (true, .rows (rs.set m (.lst (w xs))))))) := rfl
def rowsAppK (x : Option Slot) (y : R D) (i : Nat) (ρ : En) : R Fl := match x with
  | some (some (true, .rows rs)) => bd y fun z => match z with
    | .lst xs => grd (decide (rs.length < sizeLine)) (.ok (.next (ρ.set i (some (true, .rows (rs ++ [.lst xs]))))))
    | _ => .bad
  | _ => .bad
theorem ap_rowsApp : sRowsApp i f ρ = rowsAppK ρ[i]? (f ρ) i ρ := rfl
theorem rowsApp_ok {xs : List D} (h : ds.length ≤ 1000000) : rowsAppK (some (some (true, .rows ds))) (.ok (.lst xs)) i ρ = .ok (.next (ρ.set i (some (true, .rows (ds ++ [.lst xs]))))) := by
  show grd (decide (ds.length < sizeLine)) (R.ok (Fl.next (ρ.set i (some (true, .rows (ds ++ [.lst xs])))))) = _
  rw [lt_size h]; rfl
def rowPutK (x : Option Slot) (y z : R D) (i : Nat) (ρ : En) : R Fl := match x with
  | some (some (true, .rows rs)) => bd y fun z' => bd z fun q => match z', q with
    | .lst xs, .int j => match L2.ixN rs.length j with
      | some m => .ok (.next (ρ.set i (some (true, .rows (rs.set m (.lst xs))))))
      | none => .bad
    | _, _ => .bad
  | _ => .bad
theorem ap_rowPut : sRowPut i f g ρ = rowPutK ρ[i]? (f ρ) (g ρ) i ρ := rfl
def rowPut2 (x : Option Nat) (rs xs : List D) (i : Nat) (ρ : En) : R Fl := match x with
  | some m => .ok (.next (ρ.set i (some (true, .rows (rs.set m (.lst xs))))))
  | none => .bad
theorem rowPut_ok {xs : List D} {j : Int} : rowPutK (some (some (true, .rows ds))) (.ok (.lst xs)) (.ok (.int j)) i ρ = rowPut2 (L2.ixN ds.length j) ds xs i ρ := rfl
theorem rowPut2_ok {rs xs : List D} {m : Nat} : rowPut2 (some m) rs xs i ρ = .ok (.next (ρ.set i (some (true, .rows (rs.set m (.lst xs)))))) := rfl
theorem ixN_of {n : Nat} {j : Int} (h0 : 0 ≤ j) (h : j < n) : L2.ixN n j = some j.toNat := by
  unfold L2.ixN
  rw [if_pos h0, if_pos (by omega)]
def consLK (x : R D) (y : R (List D)) : R (List D) := bd x fun d => match d with
  | .lst xs => bd y fun ds => .ok (.lst xs :: ds)
  | _ => .bad
theorem ap_consL : aConsL f fs ρ = consLK (f ρ) (fs ρ) := rfl
theorem consL_ok {xs : List D} : consLK (.ok (.lst xs)) (.ok ds) = .ok (.lst xs :: ds) := rfl
theorem mkRows_ap : mkRows ds = grd (small ds.length) (.ok (.rows ds)) := rfl
def lcRK (x : R (List D)) (own : List Nat) (g : D → En → Option En) (t : En → R Bool) (f : En → R D) (ρ : En) : R D := bd x fun ds => grd (decide (ds.length < sizeLine)) (bd (lcGoR g t f (wipeR ρ own) ds) fun zs => .ok (.rows zs))
theorem ap_lcR {own : List Nat} {fi : En → R (List D)} {gg : D → En → Option En} : lcR own fi gg ft f ρ = lcRK (fi ρ) own gg ft f ρ := rfl
/-- a comprehension of new lists -/
theorem lcR_is {own : List Nat} {gg : D → En → Option En} {zs : List D} (hl : ds.length ≤ 1000000) (h : lcGo gg ft f (wipeR ρ own) ds = .ok zs) (hz : ∀ z ∈ zs, ∃ xs, z = .lst xs) : lcRK (.ok ds) own gg ft f ρ = .ok (.rows zs) := by
  unfold lcRK lcGoR
  rw [bd_ok, lt_size hl, grd_t, h, bd_ok]
  have : zs.all isL = true := List.all_eq_true.mpr fun z hm => by
    obtain ⟨xs, rfl⟩ := hz z hm
    rfl
  rw [this]
  rfl
theorem itD_rdL {n : Nat} : itr (rdL ds n) ρ = bd (rdL ds n ρ) itD := rfl
/-! calls, ends -/
theorem callE_of {den : Den} (h : den ds = .ok (o, d)) : callE den ds = .ok d := by unfold callE; rw [h]; rfl
theorem callO_of {den : Den} (h : den ds = .ok (o, d)) (hc : (o || !isC d) = true) : callO den ds = .ok d := by unfold callO; rw [h]; show grd (o || !isC d) (R.ok d) = _; rw [hc]; rfl
theorem callO_own {den : Den} (h : den ds = .ok (true, d)) : callO den ds = .ok d := callO_of h rfl
theorem callO_flat {den : Den} (h : den ds = .ok (o, d)) (hc : isC d = false) : callO den ds = .ok d := callO_of h (by rw [hc]; cases o <;> rfl)
theorem ap_bodyV {n N : Nat} {gg : List D → En → R Fl} (h : ds.length = n) : bodyV n N gg ds = endD (noE (gg ds (List.replicate (n + (N - n)) none))) := by unfold bodyV; rw [if_pos h]
theorem ap_body {n N : Nat} {gg : En → R Fl} (h : ds.length = n) : bodyN n N gg ds = endD (noE (gg (args N ds))) := by unfold bodyN; rw [if_pos h]
theorem end_ret : endD (noE (.ok (.ret o d))) = .ok (o, d) := rfl
theorem end_next : endD (noE (.ok (.next ρ))) = .ok (false, .non) := rfl
theorem args_ap {N : Nat} : args N ds = ds.map (fun d => some (false, d)) ++ List.replicate (N - ds.length) none := rfl
end
def get2K (x y z : R D) : R D := bd x fun d => grd (isDD d) (bd y fun q => bd z fun e => dGet2 d q e)
theorem ap_get2 {k : En → R D} : get2 f g k ρ = get2K (f ρ) (g ρ) (k ρ) := rfl
theorem get2_ok {q z : D} {kds : List (Key × D)} : get2K (.ok (.dK kds)) (.ok q) (.ok z) = dGet2 (.dK kds) q z := rfl
end DL
/-! the D layer: range with a step, list(range), greatest and least of a list, all of a list -/
namespace DL
open PySem PySem.Spec PyProof.Rows L2
section
variable {X : Cx} {C : Cd} {e a b c tg : Expr} {es : List Expr} {f g k : En → R D} {fs : En → R (List D)} {pos p p2 q apos cpos : Pos} {K : PySem.W.Frag} {F H : Hp} {kk : Nat}
/-- list(range(n)) -/
def dLR1 : D → R D
  | .int n => grd (DL.inR n && small n.toNat) (.ok (.lst ((List.range n.toNat).map fun (i : Nat) => D.int (0 + (i : Int)))))
  | _ => .bad
/-- the greatest, the least of a list -/
def mxL : List Int → Int
  | [] => 0
  | n :: ns => ns.foldl (fun a b => if a < b then b else a) n
def mnL : List Int → Int
  | [] => 0
  | n :: ns => ns.foldl (fun a b => if b < a then b else a) n
def dMaxL : List D → R D
  | [.lst ds] => match asInts ds with | some ns => grd (!ns.isEmpty) (.ok (.int (mxL ns))) | none => .bad
  | _ => .bad
def dMinL : List D → R D
  | [.lst ds] => match asInts ds with | some ns => grd (!ns.isEmpty) (.ok (.int (mnL ns))) | none => .bad
  | _ => .bad
/-- sorted by length -/
def lenL : D → Nat
  | .lst ds => ds.length
  | _ => 0
def isLst : D → Bool
  | .lst _ => true
  | _ => false
def dSortLen : List D → R D
  | [.lst ds] => grd (ds.all isLst && small ds.length) (.ok (.lst (ds.mergeSort fun a b => decide (lenL a ≤ lenL b))))
  | _ => .bad
/-- a text put between texts -/
def dJoin (z : Str) : D → R D
  | .lst ds => match asStrs ds with
    | some ys => grd (decide ((ys.map fun y : Str => y.length).sum + ys.length * z.length ≤ 16777216)) (.ok (.str (Str.join z ys)))
    | none => .bad
  | _ => .bad
def jop (f g : En → R D) : En → R D := fun ρ => bd (f ρ) fun d => match d with
  | .str z => bd (g ρ) (dJoin z)
  | _ => .bad
def asBls : List D → Option (List Bool)
  | [] => some []
  | .bl b :: ds => (asBls ds).map (b :: ·)
  | _ => none
def dAll : List D → R D
  | [.lst ds] => match asBls ds with | some bs => .ok (.bl (bs.all id)) | none => .bad
  | _ => .bad
end
/-! evaluation -/
theorem asBls_map : ∀ bs : List Bool, asBls (bs.map .bl) = some bs
  | [] => rfl
  | b :: bs => by
    rw [List.map_cons]
    show (asBls (bs.map .bl)).map (b :: ·) = _
    rw [asBls_map bs]; rfl
theorem all_bls (bs : List Bool) : dAll [.lst (bs.map .bl)] = .ok (.bl (bs.all id)) := by
  show (match asBls (bs.map .bl) with | some bs => R.ok (D.bl (bs.all id)) | none => .bad) = _
  rw [asBls_map]
theorem maxL_ints {ns : List Int} (h : ns ≠ []) : dMaxL [.lst (ns.map .int)] = .ok (.int (mxL ns)) := by
  show (match asInts (ns.map D.int) with | some ns => grd (!ns.isEmpty) (R.ok (D.int (mxL ns))) | none => .bad) = _
  rw [asInts_map]
  cases ns with
  | nil => exact absurd rfl h
  | cons n ns => rfl
theorem minL_ints {ns : List Int} (h : ns ≠ []) : dMinL [.lst (ns.map .int)] = .ok (.int (mnL ns)) := by
  show (match asInts (ns.map D.int) with | some ns => grd (!ns.isEmpty) (R.ok (D.int (mnL ns))) | none => .bad) = _
  rw [asInts_map]
  cases ns with
  | nil => exact absurd rfl h
  | cons n ns => rfl
theorem foldl_mx : ∀ (ns : List Int) (m : Int), (ns.foldl (fun a b => if a < b then b else a) m = m ∨ ns.foldl (fun a b => if a < b then b else a) m ∈ ns) ∧ m ≤ ns.foldl (fun a b => if a < b then b else a) m ∧ ∀ x ∈ ns, x ≤ ns.foldl (fun a b => if a < b then b else a) m
  | [], m => ⟨.inl rfl, Int.le_refl _, fun _ h => by cases h⟩
  | n :: ns, m => by
    rw [List.foldl_cons]
    obtain ⟨h1, h2, h3⟩ := foldl_mx ns (if m < n then n else m)
    have h4 : m ≤ (if m < n then n else m) ∧ n ≤ (if m < n then n else m) := by split <;> omega
    refine ⟨?_, by omega, fun x hx => ?_⟩
    · rcases h1 with h1 | h1
      · rw [h1]
        split
        · exact .inr List.mem_cons_self
        · exact .inl rfl
      · exact .inr (List.mem_cons_of_mem _ h1)
    · rcases List.mem_cons.mp hx with rfl | hx
      · omega
      · exact h3 x hx
theorem foldl_mn : ∀ (ns : List Int) (m : Int), (ns.foldl (fun a b => if b < a then b else a) m = m ∨ ns.foldl (fun a b => if b < a then b else a) m ∈ ns) ∧ ns.foldl (fun a b => if b < a then b else a) m ≤ m ∧ ∀ x ∈ ns, ns.foldl (fun a b => if b < a then b else a) m ≤ x
  | [], m => ⟨.inl rfl, Int.le_refl _, fun _ h => by cases h⟩
  | n :: ns, m => by
    rw [List.foldl_cons]
    obtain ⟨h1, h2, h3⟩ := foldl_mn ns (if n < m then n else m)
    have h4 : (if n < m then n else m) ≤ m ∧ (if n < m then n else m) ≤ n := by split <;> omega
    refine ⟨?_, by omega, fun x hx => ?_⟩
    · rcases h1 with h1 | h1
      · rw [h1]
        split
        · exact .inr List.mem_cons_self
        · exact .inl rfl
      · exact .inr (List.mem_cons_of_mem _ h1)
    · rcases List.mem_cons.mp hx with rfl | hx
      · omega
      · exact h3 x hx
theorem mxL_mem {ns : List Int} (h : ns ≠ []) : mxL ns ∈ ns ∧ ∀ x ∈ ns, x ≤ mxL ns := by
  cases ns with
  | nil => exact absurd rfl h
  | cons n ns =>
    obtain ⟨h1, h2, h3⟩ := foldl_mx ns n
    refine ⟨?_, fun x hx => ?_⟩
    · show ns.foldl _ n ∈ _
      rcases h1 with h1 | h1
      · rw [h1]; exact List.mem_cons_self
      · exact List.mem_cons_of_mem _ h1
    · show x ≤ ns.foldl _ n
      rcases List.mem_cons.mp hx with rfl | hx
      · exact h2
      · exact h3 x hx
theorem mnL_mem {ns : List Int} (h : ns ≠ []) : mnL ns ∈ ns ∧ ∀ x ∈ ns, mnL ns ≤ x := by
  cases ns with
  | nil => exact absurd rfl h
  | cons n ns =>
    obtain ⟨h1, h2, h3⟩ := foldl_mn ns n
    refine ⟨?_, fun x hx => ?_⟩
    · show ns.foldl _ n ∈ _
      rcases h1 with h1 | h1
      · rw [h1]; exact List.mem_cons_self
      · exact List.mem_cons_of_mem _ h1
    · show ns.foldl _ n ≤ x
      rcases List.mem_cons.mp hx with rfl | hx
      · exact h2
      · exact h3 x hx
theorem join_strs {z : Str} {ys : List Str} (h : (ys.map fun y : Str => y.length).sum + ys.length * z.length ≤ 16777216) : dJoin z (.lst (ys.map .str)) = .ok (.str (Str.join z ys)) := by
  show (match asStrs (ys.map D.str) with | some ys => grd (decide ((ys.map fun y : Str => y.length).sum + ys.length * z.length ≤ 16777216)) (R.ok (D.str (Str.join z ys))) | none => .bad) = _
  rw [asStrs_map]
  show grd (decide _) _ = _
  rw [decide_eq_true h]; rfl
theorem ap_jop {f g : En → R D} {ρ : En} {z : Str} {e : D} (h1 : f ρ = .ok (.str z)) (h2 : g ρ = .ok e) : jop f g ρ = dJoin z e := by
  unfold jop; rw [h1, bd_ok]
  show bd (g ρ) (dJoin z) = _
  rw [h2]; rfl
theorem rng3_ap {i j c : Int} : rng3 [.int i, .int j, .int c] = grd (DL.inR i && DL.inR j && decide (0 < c) && decide (c < 1000000)) (.ok ((List.range ((j - i + c - 1) / c).toNat).map fun k : Nat => D.int (i + (k : Int) * c))) := rfl
theorem rng3_ok {i j c : Int} (h1 : -1000000000000 ≤ i) (h2 : i ≤ 1000000000000) (h3 : -1000000000000 ≤ j) (h4 : j ≤ 1000000000000) (h5 : 0 < c) (h6 : c < 1000000) : rng3 [.int i, .int j, .int c] = .ok ((List.range ((j - i + c - 1) / c).toNat).map fun k : Nat => D.int (i + (k : Int) * c)) := by
  rw [rng3_ap, inR_small h1 h2, inR_small h3 h4, decide_eq_true h5, decide_eq_true h6]; rfl
theorem lr1_ok {n : Int} (h : n ≤ 1000000) (h' : -1000000 ≤ n) : dLR1 (.int n) = .ok (.lst ((List.range n.toNat).map fun (i : Nat) => D.int (0 + (i : Int)))) := by
  show grd (DL.inR n && small n.toNat) _ = _
  rw [inR_small (by omega) (by omega), small_of (by omega)]; rfl
section
variable {X : Cx} {C : Cd} {e a b c tg : Expr} {es : List Expr} {f g k : En → R D} {fs : En → R (List D)} {pos p p2 q apos cpos : Pos} {K : PySem.W.Frag} {F H : Hp} {kk : Nat}
/-! rules -/
theorem Reps.asBls : ∀ {ds : List D} {vs : List V} {bs : List Bool}, Reps K F ds vs → DL.asBls ds = some bs → vs = bs.map V.bl
  | _, _, _, .nil, h => by cases h; rfl
  | .bl b :: ds, _, _, .cons r t, h => by
    have h : (DL.asBls ds).map (b :: ·) = some _ := h
    cases hq : DL.asBls ds with
    | none => rw [hq] at h; cases h
    | some bs =>
      rw [hq] at h
      cases h
      cases r
      rw [Reps.asBls t hq]; rfl
  | .non :: _, _, _, .cons _ _, h => by cases h
  | .int _ :: _, _, _, .cons _ _, h => by cases h
  | .str _ :: _, _, _, .cons _ _, h => by cases h
  | .lst _ :: _, _, _, .cons _ _, h => by cases h
  | .tup _ :: _, _, _, .cons _ _, h => by cases h
  | .scr _ :: _, _, _, .cons _ _, h => by cases h
  | .dK _ :: _, _, _, .cons _ _, h => by cases h
  | .dT _ :: _, _, _, .cons _ _, h => by cases h
  | .ref _ :: _, _, _, .cons _ _, h => by cases h
  | .exn _ :: _, _, _, .cons _ _, h => by cases h
  | .rows _ :: _, _, _, .cons _ _, h => by cases h
theorem all_ok : OpL C (rAll C.K) dAll := by
  intro σ F H Q ds vs o s w
  unfold dAll at o
  split at o
  · obtain ⟨v, rfl, p, vs, rfl, h, r⟩ := w.one
    split at o
    · rename_i bs hb
      exact ⟨p, bs, rfl, by rw [← Reps.asBls r hb]; exact SqL.of h, fin_flat o s rfl⟩
    · exact o.elim
  · exact o.elim
theorem d_all (hc : X.calm = true) (hC : X.K = C.K) (hm : X.mg "all" = none) (ha : PA X (e :: es) (tV C fs)) (hg : Gl X "all" := by rfl)
    (he : starEach (e :: es) X.env = (false, eval e X.env) :: starEach es X.env := by rfl) (hpl : (backTo pos (starEach es X.env)).any (·.1) = false := by rfl) : PE X (.Call (.Name "all" p) (e :: es) [] pos) (tO C (nop fs dAll)) :=
  d_callB (hC ▸ cr_all hc) all_ok hm (by decide +kernel) ha hg (by decide) (by decide) he hpl
theorem maxL_ok : OpL C (rMax C.K) dMaxL := by
  intro σ F H Q ds vs o s w
  unfold dMaxL at o
  split at o
  · obtain ⟨v, rfl, p, vs, rfl, h, r⟩ := w.one
    split at o
    · rename_i ns hn
      obtain ⟨z, o⟩ := grd_out o
      have hne : ns ≠ [] := fun e => by subst e; cases z
      obtain ⟨m1, m2⟩ := mxL_mem hne
      refine ⟨p, ns, rfl, by rw [← Reps.asInts r hn]; exact SqL.of h, List.length_pos_iff.mpr hne, fun m hm hle => ?_⟩
      have : m = mxL ns := Int.le_antisymm (m2 m hm) (hle _ m1)
      rw [this]
      exact fin_flat o s rfl
    · exact o.elim
  · exact o.elim
theorem minL_ok : OpL C (rMin C.K) dMinL := by
  intro σ F H Q ds vs o s w
  unfold dMinL at o
  split at o
  · obtain ⟨v, rfl, p, vs, rfl, h, r⟩ := w.one
    split at o
    · rename_i ns hn
      obtain ⟨z, o⟩ := grd_out o
      have hne : ns ≠ [] := fun e => by subst e; cases z
      obtain ⟨m1, m2⟩ := mnL_mem hne
      refine ⟨p, ns, rfl, by rw [← Reps.asInts r hn]; exact SqL.of h, List.length_pos_iff.mpr hne, fun m hm hle => ?_⟩
      have : m = mnL ns := Int.le_antisymm (hle _ m1) (m2 m hm)
      rw [this]
      exact fin_flat o s rfl
    · exact o.elim
  · exact o.elim
theorem d_maxL (hc : X.calm = true) (hC : X.K = C.K) (hm : X.mg "max" = none) (ha : PA X (e :: es) (tV C fs)) (hg : Gl X "max" := by rfl)
    (he : starEach (e :: es) X.env = (false, eval e X.env) :: starEach es X.env := by rfl) (hpl : (backTo pos (starEach es X.env)).any (·.1) = false := by rfl) : PE X (.Call (.Name "max" p) (e :: es) [] pos) (tO C (nop fs dMaxL)) :=
  d_callB (hC ▸ cr_max hc) maxL_ok hm (by decide +kernel) ha hg (by decide) (by decide) he hpl
theorem d_minL (hc : X.calm = true) (hC : X.K = C.K) (hm : X.mg "min" = none) (ha : PA X (e :: es) (tV C fs)) (hg : Gl X "min" := by rfl)
    (he : starEach (e :: es) X.env = (false, eval e X.env) :: starEach es X.env := by rfl) (hpl : (backTo pos (starEach es X.env)).any (·.1) = false := by rfl) : PE X (.Call (.Name "min" p) (e :: es) [] pos) (tO C (nop fs dMinL)) :=
  d_callB (hC ▸ cr_min hc) minL_ok hm (by decide +kernel) ha hg (by decide) (by decide) he hpl
theorem d_listR1 (hc : X.calm = true) (hm : X.mg "list" = none) (hm2 : X.mg "range" = none) (ha : PE X a (tR C f)) (hg : Gl X "list" := by rfl) (hg2 : Gl X "range" := by rfl)
    (hs : starEach [a] X.env = (false, eval a X.env) :: starEach [] X.env := by rfl) (hs2 : starEach [.Call (.Name "range" p2) [a] [] q] X.env = (false, eval (.Call (.Name "range" p2) [a] [] q) X.env) :: starEach [] X.env := by rfl) :
    PE X (.Call (.Name "list" p) [.Call (.Name "range" p2) [a] [] q] [] pos) (tO C (uop f dLR1)) := (pe_listRg hc hg hm (prg_1 hg2 hm2 ha hs) hs2).mono fun σ H Q ⟨ρ, F, r, o⟩ => ⟨ρ, F, r, o.fst fun d v F1 H1 _ o x1 s1 w1 => by
      cases d with
      | int n =>
        obtain rfl : v = V.int _ := w1
        have o := Out.later o x1
        obtain ⟨z, o⟩ := grd_out o
        rw [Bool.and_eq_true] at z
        obtain ⟨h1, h2⟩ := inR_of z.1
        have h3 : n.toNat ≤ sizeLine := of_decide_eq_true z.2
        refine ⟨n, rfl, ⟨by decide, by decide, h1, h2, by rw [sizeLine_eq] at h3; omega⟩, fun z hz => fin_lst o s1 x1.h ?_ hz⟩
        have e : rgV 0 n = ((List.range n.toNat).map fun (i : Nat) => (0 + (i : Int))).map V.int := by
          unfold rgV
          rw [List.map_map, Int.sub_zero]
          rfl
        have e2 : ((List.range n.toNat).map fun (i : Nat) => D.int (0 + (i : Int))) = ((List.range n.toNat).map fun (i : Nat) => (0 + (i : Int))).map D.int := by
          rw [List.map_map]
          rfl
        rw [e, e2]
        exact Reps.of_ints _
      | _ => exact o.elim⟩
/-! range with a step -/
theorem iter_rangeC {B F : Hp} {lo c : Int} {n : Nat} : IterOk K (Itc lo c n) B F ((List.range n).map fun i => D.int (lo + (i : Nat) * c)) := fun i F2 H2 b f s => by
  refine ⟨fun hi => ?_, fun hi => ?_⟩
  · rw [List.length_map, List.length_range] at hi
    refine ⟨hi, fun x H3 y => ?_⟩
    obtain ⟨rfl, rfl⟩ := y
    refine ⟨F2, .int (lo + (i : Nat) * c), ?_, Ext.refl _ _, s, .int _⟩
    rw [List.getElem?_map, List.getElem?_range hi]
    rfl
  · rw [List.length_map, List.length_range] at hi
    exact Nat.le_of_eq hi.symm
theorem Views.three {K : PySem.W.Frag} {F H : Hp} {d e e' : D} {vs : List V} (w : Views K F H [d, e, e'] vs) : ∃ v u t, vs = [v, u, t] ∧ View K F H d v ∧ View K F H e u ∧ View K F H e' t := by
  cases w with
  | cons r t =>
    obtain ⟨u, z, rfl, q, q'⟩ := Views.two t
    exact ⟨_, u, z, rfl, r, q, q'⟩
theorem size_up {i j c : Int} (hc : 0 < c) : Builtin.Range.rangeSize i j c = ((((j - i + c - 1) / c).toNat : Nat) : Int) := by
  unfold Builtin.Range.rangeSize
  rw [if_pos hc]
  by_cases h : i < j
  · rw [if_pos h, show j - i + c - 1 = (j - i - 1) + c by omega, Int.add_ediv_of_dvd_right (Int.dvd_refl c), Int.ediv_self (by omega)]
    have := Int.ediv_nonneg (show 0 ≤ j - i - 1 by omega) (Int.le_of_lt hc)
    omega
  · rw [if_neg h]
    have : (j - i + c - 1) / c ≤ 0 := by
      have := Int.ediv_lt_of_lt_mul hc (show j - i + c - 1 < 1 * c by omega)
      omega
    omega
theorem size_le {i j c : Int} (hc : 0 < c) : ((((j - i + c - 1) / c).toNat : Nat) : Int) ≤ (j - i).toNat := by
  by_cases h : i < j
  · have : (j - i + c - 1) / c ≤ j - i := by
      have h1 : (j - i + c - 1) / c < j - i + 1 := Int.ediv_lt_of_lt_mul hc (by
        have := Int.mul_le_mul_of_nonneg_left (show (1 : Int) ≤ c by omega) (show 0 ≤ j - i by omega)
        rw [Int.add_mul, Int.one_mul]
        omega)
      omega
    omega
  · have : (j - i + c - 1) / c ≤ 0 := by
      have := Int.ediv_lt_of_lt_mul hc (show j - i + c - 1 < 1 * c by omega)
      omega
    omega
theorem rgC_up {i j c : Int} (h1 : -(2 ^ 62) ≤ i) (h2 : i < 2 ^ 62) (h3 : -(2 ^ 62) ≤ j) (h4 : j < 2 ^ 62) (h5 : 0 < c) (h6 : c < 1000000) : RgC i j c ((j - i + c - 1) / c).toNat := by
  refine ⟨by omega, by omega, ?_, size_up h5⟩
  unfold Builtin.Range.small
  rw [size_up h5]
  have := size_le (i := i) (j := j) h5
  simp only [Builtin.Range.rangeFitsLong, Bool.and_eq_true, Bool.or_eq_true, decide_eq_true_eq, beq_iff_eq, show c > 0 from h5, if_true]
  refine ⟨⟨⟨⟨⟨?_, ?_⟩, ?_, ?_⟩, ?_, ?_⟩, ?_, ?_⟩, ?_⟩ <;> omega
theorem i_range3 {fs : En → R (List D)} (hm : X.mg "range" = none) (ha : PA X [a, b, c] (tV C fs)) (hg : Gl X "range" := by rfl) (hs : starEach [a, b, c] X.env = (false, eval a X.env) :: starEach [b, c] X.env := by rfl) (hpl : (backTo pos (starEach [b, c] X.env)).any (·.1) = false := by rfl) :
    PI X tg (.Call (.Name "range" p) [a, b, c] [] pos) (tI C true (irg fs rng3)) := (pi_range3 hg hm ha hs hpl).mono fun σ H Q ⟨ρ, F, r, q⟩ => ⟨ρ, F, r, outV_of q fun ds vs F' H' o x s w => by
      unfold rng3 at o
      split at o
      · obtain ⟨z, o⟩ := grdI o
        rw [Bool.and_eq_true, Bool.and_eq_true, Bool.and_eq_true] at z
        obtain ⟨v, u, t, rfl, w1, w2, w3⟩ := Views.three w
        obtain rfl : v = V.int _ := w1
        obtain rfl : u = V.int _ := w2
        obtain rfl : t = V.int _ := w3
        obtain ⟨h1, h2⟩ := inR_of z.1.1.1
        obtain ⟨h3, h4⟩ := inR_of z.1.1.2
        exact ⟨_, _, _, _, rfl, rgC_up h1 h2 h3 h4 (of_decide_eq_true z.1.2) (of_decide_eq_true z.2), o _ F' H' (Ext.refl _ _) s iter_rangeC⟩
      · exact o.elim⟩
theorem d_join (hC : X.K = C.K) (ha : PE X a (tR C f)) (hb : PE X b (tR C g)) (hs : starEach [b] X.env = [(false, eval b X.env)] := by rfl) (hbase : attributeBase a "join" X.env (eval a X.env) = eval a X.env := by rfl) (hline : (apos.endLine == pos.line) = true := by rfl) :
    PE X (.Call (.Attribute a "join" apos) [b] [] pos) (tO C (jop f g)) := (pe_join ha hb hs hbase hline).mono fun σ H Q ⟨ρ, F, rl, o⟩ => by
  unfold jop at o
  refine ⟨ρ, F, rl, o.fst fun d v F1 H1 _ o x1 s1 w1 => ?_⟩
  cases d with
  | str z =>
    obtain rfl : v = V.str _ := w1
    have o : Out C σ F H (fun F' H' => New C.K H F' H') (bd (g ρ) (dJoin z)) Q := o
    have o := Out.later o x1
    refine ⟨⟨z, rfl⟩, ρ, F1, rl.grow x1 s1, o.fst fun e y F2 H2 _ o x2 s2 w2 => ?_⟩
    have o := (Out.later o x2).newer (x1.h.trans x2.h)
    cases e with
    | lst ds =>
      obtain ⟨l, vs, rfl, h2, r2⟩ := w2
      have o' : Out C σ F2 H2 (fun F' H' => New C.K H2 F' H') (match asStrs ds with | some ys => grd (decide ((ys.map fun y : Str => y.length).sum + ys.length * z.length ≤ 16777216)) (.ok (.str (Str.join z ys))) | none => .bad) Q := o
      cases hy : asStrs ds with
      | none => rw [hy] at o'; exact o'.elim
      | some ys =>
        rw [hy] at o'
        obtain ⟨hz, o'⟩ := grd_out o'
        refine ⟨z, l, ys, rfl, rfl, .inl ?_, of_decide_eq_true hz, (TL.join_eq z ys).symm ▸ fin_flat o' s2 rfl⟩
        rw [hC, ← Reps.asStrs r2 hy]
        exact SqL.of h2
    | _ => exact False.elim o
  | _ => exact False.elim o
end
end DL
/-! the D layer: defs that change what they are given -/
namespace DL
open PySem PySem.Spec PyProof.Rows L2
abbrev DenM := List D → R (D × List D)
/-- at the start: the parameters that are changed are one's own -/
def ioEnv (N : Nat) (io : List Nat) (ds : List D) : En := (List.range N).map fun i => if i ∈ io then (match ds[i]? with | some d => some (true, d) | none => none) else none
def ioOf (ρ : En) : List Nat → Option (List D)
  | [] => some []
  | i :: is => match ρ[i]? with
    | some (some (true, d)) => (ioOf ρ is).map (d :: ·)
    | _ => none
def rdI (i : Nat) : En → R D := fun ρ => match ρ[i]? with
  | some (some (true, d)) => .ok d
  | _ => .bad
def retMK (x : R D) (es : Option (List D)) : R Fl := bd x fun d => match es with | some es => .ok (.ret false (.tup (d :: es))) | none => .bad
def sRetM (io : List Nat) (f : En → R D) : En → R Fl := fun ρ => retMK (f ρ) (ioOf ρ io)
def endMK (es : Option (List D)) : R (D × List D) := match es with | some es => .ok (.non, es) | none => .bad
def endM (io : List Nat) : R Fl → R (D × List D)
  | .ok (.next ρ) => endMK (ioOf ρ io)
  | .ok (.ret false (.tup (d :: es))) => .ok (d, es)
  | _ => .bad
def bodyM (n N : Nat) (io : List Nat) (g : List D → En → R Fl) : DenM := fun ds => if ds.length = n then endM io (noE (g ds (ioEnv N io ds))) else .bad
def putIO (ρ : En) : List Nat → List D → Option En
  | [], [] => some ρ
  | i :: is, d :: ds => putIO (ρ.set i (some (true, d))) is ds
  | _, _ => none
def putMK (d : D) (x : Option En) : R (D × En) := match x with | some ρ' => .ok (d, ρ') | none => .bad
def callM2 (x : R (D × List D)) (ios : List Nat) (ρ : En) : R (D × En) := bd x fun r => putMK r.1 (putIO ρ ios r.2)
/-- a call: its value, and the slots as they are then -/
def noErr {α : Type} : R α → R α
  | .ok a => .ok a
  | _ => .bad
def callM (den : DenM) (fs : En → R (List D)) (ios : List Nat) : En → R (D × En) := fun ρ => noErr (bd (fs ρ) fun ds => if (ioOf ρ ios).isSome = true then callM2 (den ds) ios ρ else .bad)
def dropMK (x : R (D × En)) : R Fl := bd x fun r => .ok (.next r.2)
def setMK (x : R (D × En)) (i : Nat) : R Fl := bd x fun r => .ok (.next (r.2.set i (some (false, r.1))))
def unpMK (x : R (D × En)) (g : D → En → Option En) : R Fl := bd x fun r => match g r.1 r.2 with | some ρ' => .ok (.next ρ') | none => .bad
def sDropM (c : En → R (D × En)) : En → R Fl := fun ρ => dropMK (c ρ)
def sSetM (i : Nat) (c : En → R (D × En)) : En → R Fl := fun ρ => setMK (c ρ) i
def sUnpM (c : En → R (D × En)) (g : D → En → Option En) : En → R Fl := fun ρ => unpMK (c ρ) g
/-! evaluation -/
theorem ap_bodyM {n N : Nat} {io : List Nat} {g : List D → En → R Fl} {ds : List D} (h : ds.length = n) : bodyM n N io g ds = endM io (noE (g ds (ioEnv N io ds))) := by unfold bodyM; rw [if_pos h]
theorem endM_next {io : List Nat} {ρ : En} {es : List D} (h : ioOf ρ io = some es) : endM io (noE (.ok (.next ρ))) = .ok (.non, es) := by
  show endMK (ioOf ρ io) = _
  rw [h]; rfl
theorem endM_ret {io : List Nat} {d : D} {es : List D} : endM io (noE (.ok (.ret false (.tup (d :: es))))) = .ok (d, es) := rfl
theorem ap_retM {io : List Nat} {f : En → R D} {ρ : En} : sRetM io f ρ = retMK (f ρ) (ioOf ρ io) := rfl
theorem retM_ok {d : D} {es : List D} : retMK (.ok d) (some es) = .ok (.ret false (.tup (d :: es))) := rfl
theorem callM_of {den : DenM} {fs : En → R (List D)} {ios : List Nat} {ρ ρ' : En} {ds es es0 : List D} {d : D} (h1 : fs ρ = .ok ds) (h2 : ioOf ρ ios = some es0) (h3 : den ds = .ok (d, es)) (h4 : putIO ρ ios es = some ρ') : callM den fs ios ρ = .ok (d, ρ') := by
  unfold callM
  rw [h1, bd_ok, h2]
  show noErr (if true = true then callM2 (den ds) ios ρ else .bad) = _
  rw [if_pos rfl]
  unfold callM2
  rw [h3, bd_ok]
  show noErr (putMK d (putIO ρ ios es)) = _
  rw [h4]; rfl
theorem ap_dropM {c : En → R (D × En)} {ρ : En} : sDropM c ρ = dropMK (c ρ) := rfl
theorem ap_setM {i : Nat} {c : En → R (D × En)} {ρ : En} : sSetM i c ρ = setMK (c ρ) i := rfl
theorem ap_unpM {c : En → R (D × En)} {g : D → En → Option En} {ρ : En} : sUnpM c g ρ = unpMK (c ρ) g := rfl
theorem dropM_ok {d : D} {ρ : En} : dropMK (.ok (d, ρ)) = .ok (.next ρ) := rfl
theorem setM_ok {i : Nat} {d : D} {ρ : En} : setMK (.ok (d, ρ)) i = .ok (.next (ρ.set i (some (false, d)))) := rfl
theorem unpM_ok {d : D} {ρ : En} {g : D → En → Option En} : unpMK (.ok (d, ρ)) g = unp2 (g d ρ) := rfl
/-! ### the rules -/
section
variable {K : PySem.W.Frag} {F F' H H' H0 : Hp}
/-! feet -/
theorem feet_mem : ∀ {as : List Addr} {ds : List D} {k : Nat} {a : Addr} {d : D} {c : Addr}, as[k]? = some a → ds[k]? = some d → c ∈ foot H a d → c ∈ feet H as ds
  | a0 :: as, d0 :: ds, 0, a, d, c, h1, h2, h => by cases h1; cases h2; exact List.mem_append_left _ h
  | a0 :: as, d0 :: ds, k + 1, a, d, c, h1, h2, h => List.mem_append_right _ (feet_mem (as := as) (ds := ds) (k := k) h1 h2 h)
  | [], _, _, _, _, _, h1, _, _ => by simp at h1
  | _ :: _, [], _, _, _, _, _, h2, _ => by simp at h2
theorem feet_out : ∀ {as : List Addr} {ds : List D} {c : Addr}, c ∈ feet H as ds → ∃ (k : Nat) (a : Addr) (d : D), as[k]? = some a ∧ ds[k]? = some d ∧ c ∈ foot H a d
  | a0 :: as, d0 :: ds, c, h => by
    rcases List.mem_append.mp h with h | h
    · exact ⟨0, a0, d0, rfl, rfl, h⟩
    · obtain ⟨k, a, d, h1, h2, h3⟩ := feet_out h
      exact ⟨k + 1, a, d, h1, h2, h3⟩
  | [], _, _, h => nomatch h
  | _ :: _, [], _, h => nomatch h
theorem feet_nd : ∀ {as : List Addr} {ds : List D} {k : Nat} {a : Addr} {d : D}, (feet H as ds).Nodup → as[k]? = some a → ds[k]? = some d → (foot H a d).Nodup
  | a0 :: as, d0 :: ds, 0, a, d, h, h1, h2 => by cases h1; cases h2; exact (List.nodup_append.mp h).1
  | a0 :: as, d0 :: ds, k + 1, a, d, h, h1, h2 => feet_nd (as := as) (ds := ds) (k := k) (List.nodup_append.mp h).2.1 h1 h2
  | [], _, _, _, _, _, h1, _ => by simp at h1
  | _ :: _, [], _, _, _, _, _, h2 => by simp at h2
theorem feet_apart : ∀ {as : List Addr} {ds : List D} {k k' : Nat} {a a' : Addr} {d d' : D} {c : Addr}, (feet H as ds).Nodup → as[k]? = some a → ds[k]? = some d → as[k']? = some a' → ds[k']? = some d' → c ∈ foot H a d → c ∈ foot H a' d' → k = k'
  | a0 :: as, d0 :: ds, 0, 0, _, _, _, _, _, _, _, _, _, _, _, _ => rfl
  | a0 :: as, d0 :: ds, 0, k' + 1, a, a', d, d', c, h, h1, h2, h3, h4, h5, h6 => by
    cases h1; cases h2
    exact absurd rfl ((List.nodup_append.mp h).2.2 c h5 c (feet_mem (as := as) (ds := ds) (k := k') h3 h4 h6))
  | a0 :: as, d0 :: ds, k + 1, 0, a, a', d, d', c, h, h1, h2, h3, h4, h5, h6 => by
    cases h3; cases h4
    exact absurd rfl ((List.nodup_append.mp h).2.2 c h6 c (feet_mem (as := as) (ds := ds) (k := k) h1 h2 h5))
  | a0 :: as, d0 :: ds, k + 1, k' + 1, a, a', d, d', c, h, h1, h2, h3, h4, h5, h6 => congrArg (· + 1) (feet_apart (as := as) (ds := ds) (k := k) (k' := k') (List.nodup_append.mp h).2.1 h1 h2 h3 h4 h5 h6)
  | [], _, _, _, _, _, _, _, _, _, h1, _, _, _, _, _ => by simp at h1
  | _ :: _, [], _, _, _, _, _, _, _, _, _, h2, _, _, _, _ => by simp at h2
theorem feet_nd_of : ∀ {as : List Addr} {ds : List D}, (∀ (k : Nat) (a : Addr) (d : D), as[k]? = some a → ds[k]? = some d → (foot H a d).Nodup) →
    (∀ (k k' : Nat) (a a' : Addr) (d d' : D) (c : Addr), as[k]? = some a → ds[k]? = some d → as[k']? = some a' → ds[k']? = some d' → c ∈ foot H a d → c ∈ foot H a' d' → k = k') → (feet H as ds).Nodup
  | [], _, _, _ => List.nodup_nil
  | _ :: _, [], _, _ => List.nodup_nil
  | a :: as, d :: ds, h, g => by
    refine List.nodup_append.mpr ⟨h 0 a d rfl rfl, feet_nd_of (fun k a' d' h1 h2 => h (k + 1) a' d' h1 h2) (fun k k' a1 a2 d1 d2 c h1 h2 h3 h4 h5 h6 => Nat.succ.inj (g (k + 1) (k' + 1) a1 a2 d1 d2 c h1 h2 h3 h4 h5 h6)), fun c hc c' hc' e => ?_⟩
    subst e
    obtain ⟨k, a', d', h1, h2, h3⟩ := feet_out hc'
    exact absurd (g 0 (k + 1) a a' d d' c rfl rfl h1 h2 hc h3) (by omega)
/-- the heap without some places -/
def minus (H : Hp) (S : List Addr) : Hp := fun b => if b ∈ S then none else H b
theorem minus_in {S : List Addr} {b : Addr} (h : b ∈ S) : minus H S b = none := if_pos h
theorem minus_out {S : List Addr} {b : Addr} (h : b ∉ S) : minus H S b = H b := if_neg h
theorem same_minus {S : List Addr} : Same (minus H S) H := fun b u e => by
  by_cases h : b ∈ S
  · rw [minus_in h] at e; cases e
  · rw [minus_out h] at e; exact e
theorem minus_some {S : List Addr} {b : Addr} {u : HO} (e : minus H S b = some u) : b ∉ S := fun h => by rw [minus_in h] at e; cases e
theorem same_minus_of {S : List Addr} (s : Same F H) (n : ∀ b ∈ S, F b = none) : Same F (minus H S) := fun b u e => by
  rw [minus_out fun h => by rw [n b h] at e; cases e]
  exact s b u e
end
/-! at the start -/
def ioDs (io : List Nat) (ds : List D) : List D := io.map fun i => (ds[i]?).getD .non
theorem ioEnv_get {N i : Nat} {io : List Nat} {ds : List D} {b : Bool} {d : D} (h : (ioEnv N io ds)[i]? = some (some (b, d))) : b = true ∧ i ∈ io ∧ ds[i]? = some d := by
  unfold ioEnv at h
  rw [List.getElem?_map] at h
  cases hr : (List.range N)[i]? with
  | none => rw [hr] at h; cases h
  | some j =>
    rw [hr] at h
    have hj : j = i := by
      rw [List.getElem?_eq_some_iff] at hr
      obtain ⟨h1, h2⟩ := hr
      rw [List.getElem_range] at h2
      exact h2.symm
    subst hj
    have h : some (if j ∈ io then (match ds[j]? with | some d => some (true, d) | none => none) else none) = some (some (b, d)) := h
    by_cases hi : j ∈ io
    · rw [if_pos hi] at h
      cases hd : ds[j]? with
      | none => rw [hd] at h; cases h
      | some d' =>
        rw [hd] at h
        cases h
        exact ⟨rfl, hi, rfl⟩
    · rw [if_neg hi] at h; cases h
/-- what is known of the arguments -/
structure ArgsM (K : PySem.W.Frag) (F H : Hp) (n : Nat) (io : List Nat) (ds : List D) (vs : List V) : Prop where
  sub : Same F (minus H (feet H (ioAs io vs) (ioDs io ds)))
  len : ds.length = n
  at_ : ∀ i ∈ io, i < n ∧ vs[i]? = some (.ref (addrAt vs i))
  own : OwnAll K F H (fun _ => none) (ioAs io vs) (ioDs io ds)
  rest : ∀ i, i < n → i ∉ io → ∃ d v, ds[i]? = some d ∧ vs[i]? = some v ∧ View K F (minus H (feet H (ioAs io vs) (ioDs io ds))) d v
theorem ioAs_get {io : List Nat} {vs : List V} {k i : Nat} (h : io[k]? = some i) : (ioAs io vs)[k]? = some (addrAt vs i) := by
  unfold ioAs
  rw [List.getElem?_map, h]; rfl
theorem ioDs_get {io : List Nat} {ds : List D} {k i : Nat} {d : D} (h : io[k]? = some i) (hd : ds[i]? = some d) : (ioDs io ds)[k]? = some d := by
  unfold ioDs
  rw [List.getElem?_map, h]
  show some ((ds[i]?).getD .non) = _
  rw [hd]; rfl
theorem start_get {N : List Str} {vs : List V} {i : Nat} {v : V} (h : vs[i]? = some v) : (L2.start N vs)[i]? = some (some v) := by
  unfold L2.start
  have hi : i < vs.length := (List.getElem?_eq_some_iff.mp h).1
  rw [List.getElem?_append_left (by rw [List.length_map]; exact hi), List.getElem?_map, h]
  rfl
theorem start_relM {K : PySem.W.Frag} {F H : Hp} {N : List Str} {n : Nat} {io : List Nat} {ds : List D} {vs : List V} {XW : Str → L2.St → Hp → Prop} (hl : vs.length = n) (hN : n ≤ N.length) (m : ArgsM K F H n io ds vs) :
    Rel ⟨K, F, minus H (feet H (ioAs io vs) (ioDs io ds)), XW, lnM n io ds vs, ioAs io vs⟩ (ioEnv N.length io ds) (L2.start N vs) F H where
  ext := ⟨Same.refl _, same_minus, fun _ _ h => .inl h⟩
  sub := m.sub.trans same_minus
  len := by
    unfold L2.start ioEnv
    simp only [List.length_append, List.length_map, List.length_replicate, List.length_range, hl]
    omega
  slot := fun i d h => nomatch (ioEnv_get h).1
  ownF := fun i d h => by
    obtain ⟨_, hi, hd⟩ := ioEnv_get h
    obtain ⟨k, hk⟩ := List.mem_iff_getElem?.mp hi
    obtain ⟨_, hv⟩ := m.at_ i hi
    have h1 := ioAs_get (vs := vs) hk
    have h2 := ioDs_get hk hd
    refine ⟨addrAt vs i, start_get hv, fun b hb => ?_, feet_nd m.own.2.1 h1 h2, m.own.2.2.2 k _ _ h1 h2⟩
    have hm := feet_mem h1 h2 hb
    exact ⟨(m.own.2.2.1 b hm).1, minus_in hm⟩
  apartF := fun i j d e a b c h1 h2 h3 h4 h5 h6 => by
    obtain ⟨_, hi, hd⟩ := ioEnv_get h1
    obtain ⟨_, hj, he⟩ := ioEnv_get h2
    obtain ⟨k, hk⟩ := List.mem_iff_getElem?.mp hi
    obtain ⟨k', hk'⟩ := List.mem_iff_getElem?.mp hj
    rw [start_get (m.at_ i hi).2] at h3
    rw [start_get (m.at_ j hj).2] at h4
    cases h3
    cases h4
    have := feet_apart m.own.2.1 (ioAs_get (vs := vs) hk) (ioDs_get hk hd) (ioAs_get (vs := vs) hk') (ioDs_get hk' he) h5 h6
    subst this
    rw [hk] at hk'
    cases hk'
    rfl
  lend := fun i d v h => by
    have h : lnM n io ds vs i = some (d, v) := h
    unfold lnM at h
    by_cases hi : i ∈ io
    · rw [if_pos hi] at h
      cases h
      exact ⟨start_get (m.at_ i hi).2, rfl⟩
    · rw [if_neg hi] at h
      unfold lnOf at h
      split at h
      · rename_i hlt
        obtain ⟨d', v', e1, e2, w⟩ := m.rest i hlt hi
        rw [e1] at h
        have e : vs.getD i .non = v' := by rw [List.getD_eq_getElem?_getD, e2]; rfl
        have h2 : some (d', vs.getD i .non) = some (d, v) := h
        rw [e] at h2
        cases h2
        exact ⟨start_get e2, w⟩
      · cases h
/-! at the end -/
theorem ioOf_get : ∀ {ρ : En} {io : List Nat} {es : List D}, ioOf ρ io = some es → es.length = io.length ∧ ∀ (k i : Nat), io[k]? = some i → ∃ e, es[k]? = some e ∧ ρ[i]? = some (some (true, e))
  | ρ, [], es, h => by
    cases h
    exact ⟨rfl, fun k i h => by simp at h⟩
  | ρ, i :: is, es, h => by
    unfold ioOf at h
    split at h
    · rename_i d hd
      cases hq : ioOf ρ is with
      | none => rw [hq] at h; cases h
      | some fs =>
        rw [hq] at h
        cases h
        obtain ⟨h1, h2⟩ := ioOf_get hq
        refine ⟨congrArg (· + 1) h1, fun k j hk => ?_⟩
        cases k with
        | zero => cases hk; exact ⟨d, rfl, hd⟩
        | succ k => exact h2 k j hk
    · cases h
section
variable {X : Cx} {C : Cd} {e : Expr} {es : List Expr} {f : En → R D} {fs : En → R (List D)} {pos p : Pos} {kk n : Nat} {fa : Addr} {fd : FuncData} {ps : List Str} {x : Str} {cls : Str → Addr} {den : DenM} {CX : CXT} {E : XK} {ρ : En} {σ : L2.St} {F H : Hp} {io ios : List Nat} {ds : List D} {vs : List V}
theorem Rel.ownAll {zs : List D} (r : Rel C ρ σ F H) (hc : C.ln = lnM n io ds vs) (ha : C.io = ioAs io vs) (hnd : io.Nodup) (h : ioOf ρ io = some zs) : OwnAll C.K F H C.H0 C.io zs := by
  obtain ⟨h1, h2⟩ := ioOf_get h
  have key : ∀ (k : Nat) (a : Addr) (z : D), C.io[k]? = some a → zs[k]? = some z → ∃ i, io[k]? = some i ∧ ρ[i]? = some (some (true, z)) ∧ σ[i]? = some (some (.ref a)) ∧ (∀ b ∈ foot H a z, F b = none ∧ C.H0 b = none) ∧ (foot H a z).Nodup ∧ Own C.K F H a z := fun k a z hk hz => by
    rw [ha] at hk
    cases hi : io[k]? with
    | none =>
      unfold ioAs at hk
      rw [List.getElem?_map, hi] at hk
      cases hk
    | some i =>
      rw [ioAs_get hi] at hk
      cases hk
      obtain ⟨z', hz', hr⟩ := h2 k i hi
      rw [hz] at hz'
      cases hz'
      obtain ⟨a', q, n1, nd, o⟩ := r.ownF i z hr
      obtain ⟨q', _⟩ := r.lend i (.ref (addrAt vs i)) (.ref (addrAt vs i)) (by rw [hc]; unfold lnM; rw [if_pos (List.mem_of_getElem? hi)])
      rw [q] at q'
      cases q'
      exact ⟨i, rfl, hr, q, n1, nd, o⟩
  refine ⟨by rw [ha, h1]; unfold ioAs; rw [List.length_map], feet_nd_of (fun k a z hk hz => ?_) (fun k k' a a' z z' c hk hz hk' hz' hc1 hc2 => ?_), fun b hb => ?_, fun k a z hk hz => ?_⟩
  · obtain ⟨i, _, _, _, _, nd, _⟩ := key k a z hk hz
    exact nd
  · obtain ⟨i, e1, e2, e3, _⟩ := key k a z hk hz
    obtain ⟨j, f1, f2, f3, _⟩ := key k' a' z' hk' hz'
    have := r.apartF i j z z' a a' c e2 f2 e3 f3 hc1 hc2
    subst this
    obtain ⟨u1, u2⟩ := List.getElem?_eq_some_iff.mp e1
    obtain ⟨w1, w2⟩ := List.getElem?_eq_some_iff.mp f1
    exact (List.getElem_inj hnd).mp (u2.trans w2.symm)
  · obtain ⟨k, a, z, hk, hz, hb⟩ := feet_out hb
    obtain ⟨i, _, _, _, n1, _⟩ := key k a z hk hz
    exact n1 b hb
  · obtain ⟨i, _, _, _, _, _, o⟩ := key k a z hk hz
    exact o
theorem s_retM (he : PE X e (tE C f)) (hc : C.ln = lnM n io ds vs := by rfl) (ha : C.io = ioAs io vs := by rfl) (hnd : io.Nodup := by decide) (hne : io ≠ [] := by decide) : PS X (.Return (some e) pos) (tS C (sRetM io f)) :=
  (ps_ret he).mono fun T σ H ⟨ρ, F, r, q⟩ => ⟨ρ, F, r, out_of (w := fun d => match ioOf ρ io with | some es => .ok (.ret false (.tup (d :: es))) | none => .bad) r q fun d v F' H' _ q x s r' w => by
    cases hz : ioOf ρ io with
    | none => rw [hz] at q; exact q.elim
    | some zs =>
      rw [hz] at q
      have oa := r'.ownAll hc ha hnd hz
      refine q v F' H' r'.ext s ?_
      unfold RetV
      split
      · rename_i h0
        rw [ha] at h0
        cases io with
        | nil => exact absurd rfl hne
        | cons i is => cases h0
      · exact ⟨rfl, d, zs, rfl, w, oa⟩⟩
/-- the promise of a def that changes what it is given -/
def spM (K : PySem.W.Frag) (cls : Str → Addr) (io : List Nat) (n : Nat) (den : DenM) : Sp := fun vs H Q E => vs.length = n ∧ ∃ F ds, ArgsM K F H n io ds vs ∧ match den ds with
  | .ok (d, es) => ∀ v F' H', Ext F (minus H (feet H (ioAs io vs) (ioDs io ds))) F' H' → Same F' H' → Rep K F' d v → OwnAll K F' H' (minus H (feet H (ioAs io vs) (ioDs io ds))) (ioAs io vs) es → Q v H'
  | _ => False
theorem ok_defM {K : PySem.W.Frag} {P : Program} {w : World} {mg : Str → Option Value} {base : Heap} {x qual : Str} {fs : Stmt} {fa : Addr} {fd : FuncData} {N ps : List Str} {k : Nat} {cls : Str → Addr} {io : List Nat} {g : List D → En → R Fl} (Fn : Fun K x qual fs fa fd) (S : FnScope N ps (defScope fs))
    (hb : ∀ (ds : List D) (vs : List V) (cdv : Value) (A : Around) (outer : List Env) (s : Shared) (H : Hp) (E : XK) (F0 H0 : Hp), Room k (A.deeper (envOfC qual (defScope fs) s.heap.objs.size fa cdv)) → PSs (cxOf CX0 P w K mg base N qual (defScope fs) fa cdv A outer s H E).nox (defBody fs) (tS ⟨K, F0, H0, fun _ _ _ => False, lnM ps.length io ds vs, ioAs io vs⟩ (g ds)))
    (hnd : io.Nodup := by decide) (hne : io ≠ [] := by decide) :
    FnOk P w K mg base CX0 (k + 1) fa fd ps (spM K cls io ps.length (bodyM ps.length N.length io g)) := by
  refine Fn.ok S (fun vs H Q E h => h.1) (fun cdv A outer s H vs Q E hr h => ?_)
  obtain ⟨hl, F, ds, m, q⟩ := h
  have hN : ps.length ≤ N.length := by
    have := congrArg List.length S.pre
    rw [List.length_take] at this
    omega
  refine ⟨_, hb ds vs cdv A outer s H E F _ hr, ioEnv N.length io ds, F, start_relM hl hN m, ?_⟩
  unfold bodyM at q
  rw [if_pos m.len] at q
  cases hgg : g ds (ioEnv N.length io ds) with
  | bad => rw [hgg] at q; exact q.elim
  | err c => rw [hgg] at q; exact q.elim
  | ok fl =>
    rw [hgg] at q
    cases fl with
    | next ρ' =>
      intro σ' F' H' s' r'
      cases hz : ioOf ρ' io with
      | none =>
        have q : (match endMK (ioOf ρ' io) with | .ok (d, es) => _ | _ => False) := q
        rw [hz] at q
        exact q.elim
      | some zs =>
        rw [endM_next hz] at q
        exact q .non F' H' r'.ext r'.sub .non (r'.ownAll rfl rfl hnd hz)
    | ret o d =>
      intro v F' H' x s' w
      unfold RetV at w
      split at w
      · rename_i h0
        cases io with
        | nil => exact absurd rfl hne
        | cons i is => cases h0
      · obtain ⟨rfl, d0, zs, rfl, w1, w2⟩ := w
        rw [endM_ret] at q
        exact q v F' H' x s' w1 w2
    | brk ρ' => exact q.elim
    | cont ρ' => exact q.elim
/-! ### the calls -/
/-- the kinds of arguments -/
inductive AK where
  | io (j : Nat) | own (j : Nat) | ln (j : Nat) | e | vw
  deriving DecidableEq
def ArgOk (C : Cd) (ρ : En) (σ : L2.St) (F : Hp) : AK → D → V → Prop
  | .io j, d, v => ρ[j]? = some (some (true, d)) ∧ σ[j]? = some (some v)
  | .own j, d, v => ∃ b, ρ[j]? = some (some (b, d)) ∧ σ[j]? = some (some v)
  | .ln j, d, v => C.ln j = some (d, v)
  | .e, d, v => Rep C.K F d v
  | .vw, d, v => View C.K C.F0 (jn C.H0 C.F0) d v
inductive ArgsOk (C : Cd) (ρ : En) (σ : L2.St) (F : Hp) : List AK → List D → List V → Prop
  | nil : ArgsOk C ρ σ F [] [] []
  | cons {k : AK} {d : D} {v : V} {ks : List AK} {ds : List D} {vs : List V} : ArgOk C ρ σ F k d v → ArgsOk C ρ σ F ks ds vs → ArgsOk C ρ σ F (k :: ks) (d :: ds) (v :: vs)
theorem ArgsOk.lens {ks : List AK} : ∀ {ks : List AK} {ds : List D} {vs : List V}, ArgsOk C ρ σ F ks ds vs → ds.length = ks.length ∧ vs.length = ks.length
  | _, _, _, .nil => ⟨rfl, rfl⟩
  | _, _, _, .cons _ t => ⟨congrArg (· + 1) (ArgsOk.lens (ks := []) t).1, congrArg (· + 1) (ArgsOk.lens (ks := []) t).2⟩
theorem ArgsOk.get : ∀ {ks : List AK} {ds : List D} {vs : List V} {i : Nat} {k : AK}, ArgsOk C ρ σ F ks ds vs → ks[i]? = some k → ∃ d v, ds[i]? = some d ∧ vs[i]? = some v ∧ ArgOk C ρ σ F k d v
  | _, _, _, _, _, .nil, h => by simp at h
  | _, _, _, 0, _, .cons r _, h => by cases h; exact ⟨_, _, rfl, rfl, r⟩
  | _, _, _, i + 1, _, .cons _ t, h => ArgsOk.get (i := i) t h
def tAM (C : Cd) (ks : List AK) (fs : En → R (List D)) : TA := fun σ H Q => ∃ ρ F, Rel C ρ σ F H ∧ match fs ρ with
  | .ok ds => ∀ vs F' H', Ext F H F' H' → Same F' H' → ArgsOk C ρ σ F' ks ds vs → Q vs H'
  | _ => False
theorem am_nil : PA X [] (tAM C [] aNil) := pa_nil.mono fun σ H Q ⟨ρ, F, r, q⟩ => q [] F H (Ext.refl _ _) r.sub .nil
theorem ArgOk.mono {F' : Hp} {k : AK} {d : D} {v : V} (s : Same F F') (w : ArgOk C ρ σ F k d v) : ArgOk C ρ σ F' k d v := by
  cases k with
  | e => exact Rep.mono s w
  | _ => exact w
/-- a first argument, then the others -/
theorem am_cons {t : TE} {k : AK} {ks : List AK} (ha : PE X e t) (hr : PA X es (tAM C ks fs)) (hs : starEach (e :: es) X.env = (false, eval e X.env) :: starEach es X.env)
    (h : ∀ (σ : L2.St) (ρ : En) (F H : Hp) (Q : VK), Rel C ρ σ F H → (∃ d, f ρ = .ok d ∧ ∀ v F' H', Ext F H F' H' → Same F' H' → ArgOk C ρ σ F' k d v → Q v H') → t σ H Q) : PA X (e :: es) (tAM C (k :: ks) (aCons f fs)) :=
  (pa_cons ha hr hs).mono fun σ H Q ⟨ρ, F, r, q⟩ => by
    unfold aCons at q
    cases hf : f ρ with
    | bad => rw [hf] at q; exact q.elim
    | err c => rw [hf] at q; exact q.elim
    | ok d =>
      rw [hf, bd_ok] at q
      refine h σ ρ F H _ r ⟨d, hf, fun v F1 H1 x1 s1 w1 => ⟨ρ, F1, r.grow x1 s1, ?_⟩⟩
      cases hg : fs ρ with
      | bad => rw [hg] at q; exact q.elim
      | err c => rw [hg] at q; exact q.elim
      | ok ds =>
        rw [hg] at q
        exact fun vs F2 H2 x2 s2 w2 => q (v :: vs) F2 H2 (x1.trans x2) s2 (.cons (w1.mono x2.f) w2)
theorem am_io {i : Nat} {ks : List AK} (ha : PE X e (tVar i)) (hr : PA X es (tAM C ks fs)) (hs : starEach (e :: es) X.env = (false, eval e X.env) :: starEach es X.env := by rfl) : PA X (e :: es) (tAM C (.io i :: ks) (aCons (rdI i) fs)) :=
  am_cons ha hr hs fun σ ρ F H Q r ⟨d, hd, q⟩ => by
    unfold rdI at hd
    split at hd
    · rename_i d' h
      cases hd
      obtain ⟨a, hv, _⟩ := r.ownF i d h
      exact ⟨_, hv, q _ F H (Ext.refl _ _) r.sub ⟨h, hv⟩⟩
    · cases hd
theorem am_own {i : Nat} {ks : List AK} (ha : PE X e (tVar i)) (hr : PA X es (tAM C ks fs)) (hs : starEach (e :: es) X.env = (false, eval e X.env) :: starEach es X.env := by rfl) : PA X (e :: es) (tAM C (.own i :: ks) (aCons (rd i) fs)) :=
  am_cons ha hr hs fun σ ρ F H Q r ⟨d, hd, q⟩ => by
    unfold rd at hd
    split at hd
    · rename_i b d' h
      cases hd
      obtain ⟨v, hv, _⟩ := r.view h
      exact ⟨_, hv, q _ F H (Ext.refl _ _) r.sub ⟨b, h, hv⟩⟩
    · cases hd
theorem am_ln {i : Nat} {ks : List AK} {ds : List D} (ha : PE X e (tVar i)) (hr : PA X es (tAM C ks fs)) (hc : LnAt C ds i := by first | exact lnAt_of rfl (by decide) | exact lnAt_M rfl (by decide) (by decide) | exact lnAt_W rfl (by decide) (by decide)) (hs : starEach (e :: es) X.env = (false, eval e X.env) :: starEach es X.env := by rfl) : PA X (e :: es) (tAM C (.ln i :: ks) (aCons (rdL ds i) fs)) :=
  am_cons ha hr hs fun σ ρ F H Q r ⟨d, hd, q⟩ => by
    unfold rdL at hd
    cases h : ds[i]? with
    | none => rw [h] at hd; cases hd
    | some d' =>
      rw [h] at hd
      cases hd
      obtain ⟨v, hl⟩ := hc d h
      obtain ⟨hv, _⟩ := r.lend i d v hl
      exact ⟨_, hv, q _ F H (Ext.refl _ _) r.sub hl⟩
theorem am_e {ks : List AK} (ha : PE X e (tE C f)) (hr : PA X es (tAM C ks fs)) (hs : starEach (e :: es) X.env = (false, eval e X.env) :: starEach es X.env := by rfl) : PA X (e :: es) (tAM C (.e :: ks) (aCons f fs)) :=
  am_cons ha hr hs fun σ ρ F H Q r ⟨d, hd, q⟩ => ⟨ρ, F, r, by rw [hd]; exact fun v F' H' x s w => q v F' H' x s w⟩
/-- a value, and the slots as they are then -/
def tM (C : Cd) (c : En → R (D × En)) : TE := fun σ H Q => ∃ ρ F, Rel C ρ σ F H ∧ match c ρ with
  | .ok (d, ρ') => ∀ v F' H', Same F F' → Rel C ρ' σ F' H' → Rep C.K F' d v → Q v H'
  | .err s => ∀ F' H', Ext F H F' H' → Same F' H' → C.XW s σ H'
  | .bad => False
theorem putIO_get : ∀ {ρ ρ' : En} {ios : List Nat} {zs : List D}, ios.Nodup → (∀ j ∈ ios, j < ρ.length) → putIO ρ ios zs = some ρ' → ρ'.length = ρ.length ∧ zs.length = ios.length ∧ (∀ (m j : Nat), ios[m]? = some j → ∃ z, zs[m]? = some z ∧ ρ'[j]? = some (some (true, z))) ∧ ∀ j, j ∉ ios → ρ'[j]? = ρ[j]?
  | ρ, ρ', [], [], _, _, h => by
    cases h
    exact ⟨rfl, rfl, fun m j h => by simp at h, fun _ _ => rfl⟩
  | ρ, ρ', i :: is, z :: zs, nd, hb, h => by
    have h : putIO (ρ.set i (some (true, z))) is zs = some ρ' := h
    have nd := List.nodup_cons.mp nd
    obtain ⟨h1, h2, h3, h4⟩ := putIO_get nd.2 (fun j hj => by rw [List.length_set]; exact hb j (List.mem_cons_of_mem _ hj)) h
    rw [List.length_set] at h1
    refine ⟨h1, congrArg (· + 1) h2, fun m j hm => ?_, fun j hj => ?_⟩
    · cases m with
      | zero =>
        cases hm
        refine ⟨z, rfl, ?_⟩
        rw [h4 i nd.1, List.getElem?_set_self (hb i List.mem_cons_self)]
      | succ m => exact h3 m j hm
    · rw [h4 j fun y => hj (List.mem_cons_of_mem _ y), List.getElem?_set_ne fun (y : i = j) => hj (by rw [← y]; exact List.mem_cons_self)]
  | _, _, [], _ :: _, _, _, h => nomatch h
  | _, _, _ :: _, [], _, _, h => nomatch h
/-- behind a call that changes some of one's own containers -/
theorem Rel.putIO {ρ' : En} {F' H' : Hp} {as : List Addr} {zs ws : List D} (r : Rel C ρ σ F H) (nd : ios.Nodup) (hw : ioOf ρ ios = some ws) (ha : as.length = ios.length) (hat : ∀ (m j : Nat), ios[m]? = some j → ∃ a, as[m]? = some a ∧ σ[j]? = some (some (.ref a)))
    (x : Ext F (minus H (feet H as ws)) F' H') (s : Same F' H') (o : OwnAll C.K F' H' (minus H (feet H as ws)) as zs) (hp : DL.putIO ρ ios zs = some ρ') : Rel C ρ' σ F' H' := by
  obtain ⟨l1, gw⟩ := ioOf_get hw
  have hb : ∀ j ∈ ios, j < ρ.length := fun j hj => by
    obtain ⟨m, hm⟩ := List.mem_iff_getElem?.mp hj
    obtain ⟨_, _, h⟩ := gw m j hm
    exact (List.getElem?_eq_some_iff.mp h).1
  obtain ⟨p1, p2, p3, p4⟩ := putIO_get nd hb hp
  -- what lies in the feet
  have hS : ∀ c ∈ feet H as ws, ∃ (m j : Nat) (a : Addr) (w : D), ios[m]? = some j ∧ as[m]? = some a ∧ ws[m]? = some w ∧ ρ[j]? = some (some (true, w)) ∧ σ[j]? = some (some (.ref a)) ∧ c ∈ foot H a w := fun c hc => by
    obtain ⟨m, a, w, h1, h2, h3⟩ := feet_out hc
    have hm : m < ios.length := by rw [← ha]; exact (List.getElem?_eq_some_iff.mp h1).1
    have hj : ios[m]? = some ios[m] := List.getElem?_eq_getElem hm
    obtain ⟨w', e1, e2⟩ := gw m _ hj
    rw [h2] at e1
    cases e1
    obtain ⟨a', f1, f2⟩ := hat m _ hj
    rw [h1] at f1
    cases f1
    exact ⟨m, _, a, w, hj, h1, h2, e2, f2, h3⟩
  have hS0 : ∀ c ∈ feet H as ws, F c = none ∧ C.H0 c = none := fun c hc => by
    obtain ⟨m, j, a, w, _, _, _, h1, h2, h3⟩ := hS c hc
    obtain ⟨a', q, n1, _, _⟩ := r.ownF j w h1
    rw [h2] at q
    cases q
    exact n1 c h3
  have free0 : ∀ c, minus H (feet H as ws) c = none → C.H0 c = none := fun c hc => by
    by_cases h : c ∈ feet H as ws
    · exact (hS0 c h).2
    · rw [minus_out h] at hc; exact r.ext.h.free hc
  have other : ∀ (j : Nat) (d : D), j ∉ ios → ρ[j]? = some (some (true, d)) → ∃ a, σ[j]? = some (some (.ref a)) ∧ (∀ c ∈ foot H a d, c ∉ feet H as ws ∧ F c = none ∧ C.H0 c = none ∧ ∃ u, H c = some u) ∧ (foot H a d).Nodup ∧ Own C.K F H a d := fun j d hj h => by
    obtain ⟨a, q, n1, nd, o⟩ := r.ownF j d h
    refine ⟨a, q, fun c hc => ⟨fun hcs => ?_, (n1 c hc).1, (n1 c hc).2, o.foot c hc⟩, nd, o⟩
    obtain ⟨m, j', a', w, e0, _, _, h1, h2, h3⟩ := hS c hcs
    have := r.apartF j j' d w a a' c h h1 q h2 hc h3
    subst this
    exact hj (List.mem_of_getElem? e0)
  have keep : ∀ (c : Addr) (u : HO), c ∉ feet H as ws → H c = some u → H' c = some u := fun c u hc h => x.h c u (by rw [minus_out hc]; exact h)
  have kept : ∀ (j : Nat) (d : D) (a : Addr), j ∉ ios → ρ[j]? = some (some (true, d)) → σ[j]? = some (some (.ref a)) → foot H' a d = foot H a d := fun j d a hj h hs => by
    obtain ⟨a', q, n1, _, o⟩ := other j d hj h
    rw [hs] at q
    cases q
    refine foot_same o fun b hb => ?_
    obtain ⟨h1, _, _, u, hu⟩ := n1 b hb
    exact (keep b u h1 hu).trans hu.symm
  -- a changed one
  have mine : ∀ (j : Nat) (d : D), j ∈ ios → ρ'[j]? = some (some (true, d)) → ∃ m a, ios[m]? = some j ∧ as[m]? = some a ∧ zs[m]? = some d ∧ σ[j]? = some (some (.ref a)) := fun j d hj h => by
    obtain ⟨m, hm⟩ := List.mem_iff_getElem?.mp hj
    obtain ⟨z, h1, h2⟩ := p3 m j hm
    rw [h] at h2
    cases h2
    obtain ⟨a, f1, f2⟩ := hat m j hm
    exact ⟨m, a, hm, f1, h1, f2⟩
  have cross : ∀ (i j : Nat) (d e : D) (a b c : Addr), i ∈ ios → j ∉ ios → ρ'[i]? = some (some (true, d)) → ρ[j]? = some (some (true, e)) → σ[i]? = some (some (.ref a)) → σ[j]? = some (some (.ref b)) → c ∈ foot H' a d → c ∈ foot H' b e → False := fun i j d e a b c hi hj h1 h2 h3 h4 h5 h6 => by
    rw [kept j e b hj h2 h4] at h6
    obtain ⟨b', q, n1, _⟩ := other j e hj h2
    rw [h4] at q
    cases q
    obtain ⟨y1, _, _, u, hu⟩ := n1 c h6
    obtain ⟨m, a', m1, m2, m3, m4⟩ := mine i d hi h1
    rw [h3] at m4
    cases m4
    have := (o.2.2.1 c (feet_mem m2 m3 h5)).2
    rw [minus_out y1, hu] at this
    cases this
  refine ⟨⟨r.ext.f.trans x.f, fun b u h => ?_, fun b u h => ?_⟩, s, r.len.trans p1.symm, fun j d h => ?_, fun j d h => ?_, fun i j d e a b c h1 h2 h3 h4 h5 h6 => ?_, r.lend⟩
  · refine keep b u (fun hb => ?_) (r.ext.h b u h)
    rw [(hS0 b hb).2] at h
    cases h
  · rcases x.n b u h with y | y
    · exact r.ext.n b u y
    · exact .inr (free0 b y)
  · by_cases hj : j ∈ ios
    · obtain ⟨m, hm⟩ := List.mem_iff_getElem?.mp hj
      obtain ⟨z, _, h2⟩ := p3 m j hm
      rw [h] at h2
      cases h2
    · rw [p4 j hj] at h
      obtain ⟨v, q, w⟩ := r.slot j d h
      exact ⟨v, q, w.mono x.f⟩
  · by_cases hj : j ∈ ios
    · obtain ⟨m, a, m1, m2, m3, m4⟩ := mine j d hj h
      refine ⟨a, m4, fun b hb => ?_, feet_nd o.2.1 m2 m3, o.2.2.2 m a d m2 m3⟩
      obtain ⟨y1, y2⟩ := o.2.2.1 b (feet_mem m2 m3 hb)
      exact ⟨y1, free0 b y2⟩
    · rw [p4 j hj] at h
      obtain ⟨a, q, n1, nd2, ow⟩ := other j d hj h
      have ef := kept j d a hj h q
      refine ⟨a, q, fun b hb => ?_, by rw [ef]; exact nd2, ow.at x.f fun b hb u hu => keep b u (n1 b hb).1 hu⟩
      rw [ef] at hb
      obtain ⟨y1, y2, y3, u, hu⟩ := n1 b hb
      refine ⟨?_, y3⟩
      cases hF : F' b with
      | none => rfl
      | some u' =>
        rcases x.n b u' hF with z | z
        · rw [y2] at z; cases z
        · rw [minus_out y1, hu] at z; cases z
  · by_cases hi : i ∈ ios
    · by_cases hj : j ∈ ios
      · obtain ⟨m, a', m1, m2, m3, m4⟩ := mine i d hi h1
        obtain ⟨m', b', m1', m2', m3', m4'⟩ := mine j e hj h2
        rw [h3] at m4
        cases m4
        rw [h4] at m4'
        cases m4'
        have := feet_apart o.2.1 m2 m3 m2' m3' h5 h6
        subst this
        rw [m1] at m1'
        cases m1'
        rfl
      · rw [p4 j hj] at h2
        exact (cross i j d e a b c hi hj h1 h2 h3 h4 h5 h6).elim
    · rw [p4 i hi] at h1
      by_cases hj : j ∈ ios
      · exact (cross j i e d b a c hj hi h2 h1 h4 h3 h6 h5).elim
      · rw [p4 j hj] at h2
        rw [kept i d a hi h1 h3] at h5
        rw [kept j e b hj h2 h4] at h6
        exact r.apartF i j d e a b c h1 h2 h3 h4 h5 h6
/-- the kinds fit the places -/
def chkIO (n : Nat) (io ios : List Nat) (ks : List AK) : Bool :=
  decide (ks.length = n) && decide (io.length = ios.length) && (List.range n).all (fun i => match ks[i]? with
    | some (.io j) => (List.range io.length).any fun m => decide (io[m]? = some i) && decide (ios[m]? = some j)
    | some (.own j) => decide (i ∉ io) && decide (j ∉ ios)
    | some _ => decide (i ∉ io)
    | none => false) && io.all (fun i => decide (i < n)) && decide io.Nodup && decide ios.Nodup
theorem callM_ok {ks : List AK} (hk : chkIO n io ios ks = true) (hn : ∀ ds z, den ds = .ok z → ds.length = n) : ∀ σ H Q, tM C (callM den fs ios) σ H Q → tCall (spM C.K cls io n den) [] E (tAM C ks fs) σ H Q := by
  rintro σ H Q ⟨ρ, F, r, q⟩
  unfold chkIO at hk
  simp only [Bool.and_eq_true, decide_eq_true_eq] at hk
  obtain ⟨⟨⟨⟨⟨k1, k2⟩, k3⟩, k4⟩, k5⟩, k6⟩ := hk
  refine ⟨ρ, F, r, ?_⟩
  unfold callM at q
  cases hf : fs ρ with
  | bad => rw [hf] at q; exact q.elim
  | err c => rw [hf] at q; exact q.elim
  | ok ds =>
    rw [hf, bd_ok] at q
    cases hw : ioOf ρ ios with
    | none => rw [hw] at q; exact q.elim
    | some ws =>
      rw [hw] at q
      have q : (match noErr (callM2 (den ds) ios ρ) with | .ok (d, ρ') => ∀ v F' H', Same F F' → Rel C ρ' σ F' H' → Rep C.K F' d v → Q v H' | .err s => ∀ F' H', Ext F H F' H' → Same F' H' → C.XW s σ H' | .bad => False) := q
      unfold callM2 at q
      cases hden : den ds with
      | bad => rw [hden] at q; exact q.elim
      | err c => rw [hden] at q; exact q.elim
      | ok z =>
        obtain ⟨d, zs⟩ := z
        rw [hden, bd_ok] at q
        cases hput : putIO ρ ios zs with
        | none =>
          have q : (match noErr (putMK d (putIO ρ ios zs)) with | .ok (d, ρ') => ∀ v F' H', Same F F' → Rel C ρ' σ F' H' → Rep C.K F' d v → Q v H' | .err s => ∀ F' H', Ext F H F' H' → Same F' H' → C.XW s σ H' | .bad => False) := q
          rw [hput] at q
          exact q.elim
        | some ρ' =>
          have q : (match noErr (putMK d (putIO ρ ios zs)) with | .ok (d, ρ') => ∀ v F' H', Same F F' → Rel C ρ' σ F' H' → Rep C.K F' d v → Q v H' | .err s => ∀ F' H', Ext F H F' H' → Same F' H' → C.XW s σ H' | .bad => False) := q
          rw [hput] at q
          have q : ∀ v F' H', Same F F' → Rel C ρ' σ F' H' → Rep C.K F' d v → Q v H' := q
          intro vs F1 H1 x1 s1 w1
          have r1 := r.grow x1 s1
          obtain ⟨l1, gw⟩ := ioOf_get hw
          obtain ⟨a1, a2⟩ := ArgsOk.lens (ks := []) w1
          have hlen := hn ds _ hden
          -- the kinds
          have kind : ∀ i, i < n → ∃ k, ks[i]? = some k ∧ ((∃ j m, k = .io j ∧ io[m]? = some i ∧ ios[m]? = some j) ∨ (i ∉ io ∧ (∀ j, k ≠ .io j) ∧ ∀ j, k = .own j → j ∉ ios)) := fun i hi => by
            have h := List.all_eq_true.mp k3 i (List.mem_range.mpr hi)
            have hki : ks[i]? = some ks[i] := List.getElem?_eq_getElem (by omega)
            refine ⟨_, hki, ?_⟩
            rw [hki] at h
            cases hkk : ks[i] with
            | io j =>
              rw [hkk] at h
              obtain ⟨m, _, hm⟩ := List.any_eq_true.mp h
              simp only [Bool.and_eq_true, decide_eq_true_eq] at hm
              exact .inl ⟨j, m, rfl, hm.1, hm.2⟩
            | own j =>
              rw [hkk] at h
              simp only [Bool.and_eq_true, decide_eq_true_eq] at h
              exact .inr ⟨h.1, (fun _ z => by cases z), fun j' z => by cases z; exact h.2⟩
            | ln j =>
              rw [hkk] at h
              exact .inr ⟨of_decide_eq_true h, (fun _ z => by cases z), fun _ z => by cases z⟩
            | e =>
              rw [hkk] at h
              exact .inr ⟨of_decide_eq_true h, (fun _ z => by cases z), fun _ z => by cases z⟩
            | vw =>
              rw [hkk] at h
              exact .inr ⟨of_decide_eq_true h, (fun _ z => by cases z), fun _ z => by cases z⟩
          have ioat : ∀ (m i j : Nat), io[m]? = some i → ios[m]? = some j → i < n ∧ ∃ d, ds[i]? = some d ∧ ρ[j]? = some (some (true, d)) ∧ vs[i]? = some (.ref (addrAt vs i)) ∧ σ[j]? = some (some (.ref (addrAt vs i))) := fun m i j hm hj => by
            have hi : i < n := of_decide_eq_true (List.all_eq_true.mp k4 i (List.mem_of_getElem? hm))
            obtain ⟨k, hk, hc⟩ := kind i hi
            rcases hc with ⟨j', m', rfl, e1, e2⟩ | ⟨hc, _⟩
            · have : m' = m := by
                obtain ⟨u1, u2⟩ := List.getElem?_eq_some_iff.mp e1
                obtain ⟨w1, w2⟩ := List.getElem?_eq_some_iff.mp hm
                exact (List.getElem_inj k5).mp (u2.trans w2.symm)
              subst this
              rw [hj] at e2
              cases e2
              obtain ⟨d', v, f1, f2, f3, f4⟩ := w1.get hk
              obtain ⟨a, qa, _⟩ := r1.ownF j d' f3
              rw [f4] at qa
              cases qa
              have : addrAt vs i = a := by unfold addrAt; rw [f2]
              rw [this]
              exact ⟨hi, d', f1, f3, f2, f4⟩
            · exact absurd (List.mem_of_getElem? hm) hc
          have hDs : ioDs io ds = ws := by
            refine List.ext_getElem? fun m => ?_
            cases hm : io[m]? with
            | none =>
              have h1 : io.length ≤ m := List.getElem?_eq_none_iff.mp hm
              rw [List.getElem?_eq_none (by unfold ioDs; rw [List.length_map]; exact h1), List.getElem?_eq_none (by omega)]
            | some i =>
              have hm' : m < ios.length := by rw [← k2]; exact (List.getElem?_eq_some_iff.mp hm).1
              have hj : ios[m]? = some ios[m] := List.getElem?_eq_getElem hm'
              obtain ⟨_, d', e1, e2, _⟩ := ioat m i _ hm hj
              obtain ⟨w, g1, g2⟩ := gw m _ hj
              rw [e2] at g2
              cases g2
              rw [ioDs_get hm e1, g1]
          have hAs : (ioAs io vs).length = ios.length := by unfold ioAs; rw [List.length_map]; exact k2
          have hat : ∀ (m j : Nat), ios[m]? = some j → ∃ a, (ioAs io vs)[m]? = some a ∧ σ[j]? = some (some (.ref a)) := fun m j hj => by
            have hm' : m < io.length := by rw [k2]; exact (List.getElem?_eq_some_iff.mp hj).1
            have hm : io[m]? = some io[m] := List.getElem?_eq_getElem hm'
            obtain ⟨_, d', _, _, _, e3⟩ := ioat m _ j hm hj
            exact ⟨_, ioAs_get hm, e3⟩
          have key : ∀ (k : Nat) (a : Addr) (z : D), (ioAs io vs)[k]? = some a → ws[k]? = some z → ∃ j, ios[k]? = some j ∧ ρ[j]? = some (some (true, z)) ∧ σ[j]? = some (some (.ref a)) := fun k a z ha hz => by
            have hk' : k < ios.length := by rw [← hAs]; exact (List.getElem?_eq_some_iff.mp ha).1
            have hj : ios[k]? = some ios[k] := List.getElem?_eq_getElem hk'
            obtain ⟨z', g1, g2⟩ := gw k _ hj
            rw [hz] at g1
            cases g1
            obtain ⟨a', g3, g4⟩ := hat k _ hj
            rw [ha] at g3
            cases g3
            exact ⟨_, hj, g2, g4⟩
          have hS0 : ∀ c ∈ feet H1 (ioAs io vs) ws, F1 c = none ∧ C.H0 c = none := fun c hc => by
            obtain ⟨m, a, z, e1, e2, e3⟩ := feet_out hc
            obtain ⟨j, g1, g2, g3⟩ := key m a z e1 e2
            obtain ⟨a', qa, n1, _⟩ := r1.ownF j z g2
            rw [g3] at qa
            cases qa
            exact n1 c e3
          have hown : OwnAll C.K F1 H1 (fun _ => none) (ioAs io vs) ws := by
            refine ⟨by rw [hAs, l1], feet_nd_of (fun k a z ha hz => ?_) (fun k k' a a' z z' c ha hz ha' hz' c1 c2 => ?_), fun b hb => ⟨(hS0 b hb).1, rfl⟩, fun k a z ha hz => ?_⟩
            · obtain ⟨j, g1, g2, g3⟩ := key k a z ha hz
              obtain ⟨a', qa, _, nd, _⟩ := r1.ownF j z g2
              rw [g3] at qa
              cases qa
              exact nd
            · obtain ⟨j, g1, g2, g3⟩ := key k a z ha hz
              obtain ⟨j', g1', g2', g3'⟩ := key k' a' z' ha' hz'
              have := r1.apartF j j' z z' a a' c g2 g2' g3 g3' c1 c2
              subst this
              obtain ⟨u1, u2⟩ := List.getElem?_eq_some_iff.mp g1
              obtain ⟨w1, w2⟩ := List.getElem?_eq_some_iff.mp g1'
              exact (List.getElem_inj k6).mp (u2.trans w2.symm)
            · obtain ⟨j, g1, g2, g3⟩ := key k a z ha hz
              obtain ⟨a', qa, _, _, o⟩ := r1.ownF j z g2
              rw [g3] at qa
              cases qa
              exact o
          have hsub : Same F1 (minus H1 (feet H1 (ioAs io vs) ws)) := same_minus_of s1 fun b hb => (hS0 b hb).1
          have h0m : Same C.H0 (minus H1 (feet H1 (ioAs io vs) ws)) := fun b u h => by
            rw [minus_out fun hb => by rw [(hS0 b hb).2] at h; cases h]
            exact r1.ext.h b u h
          refine ⟨by rw [List.append_nil]; omega, F1, ds, ?_, ?_⟩
          · rw [List.append_nil]
            refine ⟨by rw [hDs]; exact hsub, hlen, fun i hi => ?_, by rw [hDs]; exact hown, fun i hi hio => ?_⟩
            · obtain ⟨m, hm⟩ := List.mem_iff_getElem?.mp hi
              have hm' : m < ios.length := by rw [← k2]; exact (List.getElem?_eq_some_iff.mp hm).1
              obtain ⟨h1, _, _, _, h3, _⟩ := ioat m i _ hm (List.getElem?_eq_getElem hm')
              exact ⟨h1, h3⟩
            · rw [hDs]
              obtain ⟨k, hk, hc⟩ := kind i hi
              rcases hc with ⟨j, m, _, e1, _⟩ | ⟨_, c1, c2⟩
              · exact absurd (List.mem_of_getElem? e1) hio
              · obtain ⟨d', v, f1, f2, f3⟩ := w1.get hk
                refine ⟨d', v, f1, f2, ?_⟩
                cases k with
                | io j => exact absurd rfl (c1 j)
                | e => exact Rep.view hsub f3
                | vw => exact (show View C.K C.F0 (jn C.H0 C.F0) d' v from f3).mono r1.ext.f (jn_in h0m (r1.ext.f.trans hsub))
                | ln j =>
                  obtain ⟨_, w⟩ := r1.lend j d' v f3
                  exact w.mono r1.ext.f h0m
                | own j =>
                  obtain ⟨b, g1, g2⟩ := f3
                  cases b with
                  | false =>
                    obtain ⟨v', q1, q2⟩ := r1.slot j d' g1
                    rw [g2] at q1
                    cases q1
                    exact Rep.view hsub q2
                  | true =>
                    obtain ⟨a, q1, n1, _, o⟩ := r1.ownF j d' g1
                    rw [g2] at q1
                    cases q1
                    refine (o.at (Same.refl _) fun b hb u hu => ?_).view
                    rw [minus_out fun hbs => ?_]
                    · exact hu
                    · obtain ⟨m, a', z, e1, e2, e3⟩ := feet_out hbs
                      obtain ⟨j', g1', g2', g3'⟩ := key m a' z e1 e2
                      have := r1.apartF j j' d' z a a' b g1 g2' g2 g3' hb e3
                      subst this
                      exact c2 j rfl (List.mem_of_getElem? g1')
          · rw [List.append_nil, hDs, hden]
            exact fun v F' H' x s w o => q v F' H' (x1.f.trans x.f) (r1.putIO k6 hw hAs hat x s o hput) w
theorem bodyM_len {n N : Nat} {io : List Nat} {g : List D → En → R Fl} : ∀ ds z, bodyM n N io g ds = .ok z → ds.length = n := fun ds z h => by
  unfold bodyM at h
  split at h
  · assumption
  · cases h
theorem d_callM {ks : List AK} (Fo : FnOk X.prog X.w X.K X.mg X.base CX kk fa fd ps (spM C.K cls io n den)) (hn : ∀ ds z, den ds = .ok z → ds.length = n) (hr : Room kk X.A) (hm : X.mg x = some (.ref fa)) (hk : PySem.W.keepIn X.K (.ref fa) = true) (hb : Binds X.K fd ps []) (hx : Passes CX X E)
    (ha : PA X (e :: es) (tAM C ks fs)) (hc : chkIO n io ios ks = true := by decide) (hg : Gl X x := by rfl) (hdb : (x == ("__debug__" : Str)) = false := by decide) (he : starEach (e :: es) X.env = (false, eval e X.env) :: starEach es X.env := by rfl) (hpl : (backTo pos (starEach es X.env)).any (·.1) = false := by rfl) :
    PE X (.Call (.Name x p) (e :: es) [] pos) (tM C (callM den fs ios)) := (pe_call Fo hr hg hm hk hb .nil hx ha hdb he hpl).mono (callM_ok hc hn)
/-! ### the statements -/
variable {c : En → R (D × En)}
theorem tM_of {T : Ends} {Q : VK} {w : D × En → R Fl} (r : Rel C ρ σ F H) (q : Post C T F (bd (c ρ) w)) (h : ∀ d ρ' v F' H', Post C T F' (w (d, ρ')) → Rel C ρ' σ F' H' → Rep C.K F' d v → Q v H') : tM C c σ H Q := by
  refine ⟨ρ, F, r, ?_⟩
  cases hcc : c ρ with
  | bad => rw [hcc] at q; exact q.elim
  | err s => rw [hcc] at q; exact fun F' H' x s => r.err q x s
  | ok z =>
    obtain ⟨d, ρ'⟩ := z
    rw [hcc] at q
    exact fun v F' H' s r' w => h d ρ' v F' H' (Post.up q s) r' w
theorem s_dropM (he : PE X e (tM C c)) (hs : swapsWith e none pos.line X.env = pure false := by rfl) : PS X (.Expr e pos) (tS C (sDropM c)) :=
  (ps_expr he hs).mono fun T σ H ⟨ρ, F, r, q⟩ => tM_of (w := fun r => .ok (.next r.2)) r q fun d ρ' v F' H' q r' w => q σ F' H' (Same.refl _) r'
theorem s_setM {i : Nat} {pos' : Pos} (he : PE X e (tM C c)) (hN : X.N.Nodup) (hi : X.N[i]? = some x := by rfl) (hx : Loc X.env.scope x := by first | exact .inl rfl | exact .inr rfl) (hs : swapsWith e (some (.Name x pos')) pos.line X.env = pure false := by rfl)
    (hf : X.fn x = true ∨ X.env.scope.names.lookup x = some .local := by first | exact .inl rfl | exact .inr rfl | assumption) (hl : C.ln i = none := by rfl) : PS X (.Assign [.Name x pos'] e pos) (tS C (sSetM i c)) :=
  (ps_set hN hi hx he hs hf).mono fun T σ H ⟨ρ, F, r, q⟩ => tM_of (w := fun r => .ok (.next (r.2.set i (some (false, r.1))))) r q fun d ρ' v F' H' q r' w => q _ F' H' (Same.refl _) (r'.set w hl)
theorem s_unpM {a : Expr} {gg : D → En → Option En} (he : PE X e (tM C c)) {own : List Nat} (hg : PG X a (tG C own gg)) (hs : swapsWithSole [a] e pos.line X.env = pure false := by rfl) (hw : swappedStores [a] e X.env = pure none := by rfl)
    (h1 : (assignEach [a] X.env).map (·.2) = [assign a X.env] := by rfl) : PS X (.Assign [a] e pos) (tS C (sUnpM c gg)) :=
  (ps_asg he hg hs hw h1).mono fun T σ H ⟨ρ, F, r, q⟩ => tM_of (w := fun r => match gg r.1 r.2 with | some ρ' => .ok (.next ρ') | none => .bad) r q fun d ρ' v F' H' q r' w => by
    refine ⟨ρ', F', d, r', w, ?_⟩
    cases hg : gg d ρ' with
    | none => rw [hg] at q; exact q.elim
    | some ρ1 => rw [hg] at q; exact fun σ1 _ r1 => q σ1 F' H' (Same.refl _) r1
end
end DL
/-! the D layer: a dict's keys are walked while the dict is locked -/
namespace DL
open PySem PySem.Spec PyProof.Rows L2
def itK : D → R (List D)
  | .dK kvs => .ok (kvs.map fun kv => kyD kv.1)
  | _ => .bad
def noErrF : R Fl → R Fl
  | .ok r => .ok r
  | _ => .bad
/-- for k in d -/
def sForK (f : En → R D) (g : D → En → Option En) (gb : En → R Fl) : En → R Fl := fun ρ => noErrF (bd (bd (f ρ) itK) fun ds => loopD g gb ds ρ)
/-! evaluation -/
theorem forK_at {f : En → R D} {g : D → En → Option En} {gb : En → R Fl} {ρ : En} {kvs : List (Key × D)} {x : R Fl} (h : f ρ = .ok (.dK kvs)) (hx : loopD g gb (kvs.map fun kv => kyD kv.1) ρ = x) : sForK f g gb ρ = noErrF x := by
  unfold sForK
  rw [h, bd_ok]
  show noErrF (bd (.ok _) _) = _
  rw [bd_ok, hx]
theorem noErrF_ok {r : Fl} : noErrF (.ok r) = .ok r := rfl
/-! rules -/
section
variable {K : PySem.W.Frag} {A B A' B' F F' H H' : Hp}
/-- what may be read in A may be read in B -/
structure Pass (A B : Hp) : Prop where
  l : ∀ a vs, A a = some (.lst vs) → B a = some (.lst vs)
  t : ∀ a vs, A a = some (.tup vs) → B a = some (.tup vs)
  rl : ∀ a vs, Rd A a (.lst vs) → Rd B a (.lst vs)
  k : ∀ a vs, Rd A a (.dK vs) → Rd B a (.dK vs)
  kt : ∀ a vs, Rd A a (.dT vs) → Rd B a (.dT vs)
  x : ∀ a φ, A a = some (.ext φ) → B a = some (.ext φ)
theorem Pass.seq (p : Pass A B) {a : Addr} {xs : List V} (h : SqL K A a xs) : SqL K B a xs := by
  rcases h with h | h
  · exact .inl (p.rl a xs h)
  · exact .inr h
mutual
theorem Rep.pass (p : Pass F F') : ∀ {d : D} {v : V}, Rep K F d v → Rep K F' d v
  | _, _, .non => .non
  | _, _, .bl b => .bl b
  | _, _, .int b => .int b
  | _, _, .str b => .str b
  | _, _, .lst s r => .lst (p.l _ _ s) (Reps.pass p r)
  | _, _, .scr s => .scr (p.seq s)
  | _, _, .tup s r => .tup (p.t _ _ s) (Reps.pass p r)
  | _, _, .dK s r => .dK (p.k _ _ s) (RepK.pass p r)
  | _, _, .dT s r => .dT (p.kt _ _ s) (RepT.pass p r)
  | _, _, .ref a => .ref a
  | _, _, .rows s r => .rows (p.l _ _ s) (Reps.pass p r)
  | _, _, .exn n s => .exn n (p.x _ _ s)
  | _, _, .deep d a => .deep d a
theorem Reps.pass (p : Pass F F') : ∀ {ds : List D} {vs : List V}, Reps K F ds vs → Reps K F' ds vs
  | _, _, .nil => .nil
  | _, _, .cons r t => .cons (Rep.pass p r) (Reps.pass p t)
theorem RepK.pass (p : Pass F F') : ∀ {ds : List (Key × D)} {vs : List (Key × V)}, RepK K F ds vs → RepK K F' ds vs
  | _, _, .nil => .nil
  | _, _, .cons r t => .cons (Rep.pass p r) (RepK.pass p t)
theorem RepT.pass (p : Pass F F') : ∀ {ds : List (List Key × D)} {vs : List (List Key × V)}, RepT K F ds vs → RepT K F' ds vs
  | _, _, .nil => .nil
  | _, _, .cons r t => .cons (Rep.pass p r) (RepT.pass p t)
end
theorem RowsAt.pass (pf : Pass F F') (ph : Pass H H') : ∀ {rs : List D} {vs : List V}, RowsAt K F H rs vs → RowsAt K F' H' rs vs
  | _, _, .nil => .nil
  | _, _, .cons q r t => .cons (ph.l _ _ q) (r.pass pf) (RowsAt.pass pf ph t)
theorem View.pass (pf : Pass F F') (ph : Pass H H') {d : D} {v : V} (r : View K F H d v) : View K F' H' d v := by
  cases d with
  | lst ds => obtain ⟨a, vs, e, q, r⟩ := r; exact ⟨a, vs, e, ph.l _ _ q, r.pass pf⟩
  | scr ns => obtain ⟨a, e, q⟩ := r; exact ⟨a, e, ph.seq q⟩
  | tup ds => obtain ⟨a, vs, e, q, r⟩ := r; exact ⟨a, vs, e, ph.t _ _ q, r.pass pf⟩
  | dK ds => obtain ⟨a, vs, e, q, r⟩ := r; exact ⟨a, vs, e, ph.k _ _ q, r.pass pf⟩
  | dT ds => obtain ⟨a, vs, e, q, r⟩ := r; exact ⟨a, vs, e, ph.kt _ _ q, r.pass pf⟩
  | rows ds =>
    obtain ⟨a, vs, e, q, r⟩ := r
    refine ⟨a, vs, e, ph.l _ _ q, ?_⟩
    rcases r with r | r
    · exact .inl (r.pass pf)
    · exact .inr (r.pass pf ph)
  | exn c => obtain ⟨a, C, e, n, q⟩ := r; exact ⟨a, C, e, n, ph.x _ _ q⟩
  | _ => exact r
mutual
theorem OwD.pass (pf : Pass F F') (ph : Pass H H') : ∀ {d : D} {v : V}, OwD K F H d v → OwD K F' H' d v
  | _, _, .set z r => .set z (r.pass pf)
  | _, _, .lst q t => .lst (ph.l _ _ q) (OwDs.pass pf ph t)
  | _, _, .tup z q t => .tup z (ph.t _ _ q) (OwDs.pass pf ph t)
  | _, _, .junk q l => .junk (ph.l _ _ q) l
theorem OwDs.pass (pf : Pass F F') (ph : Pass H H') : ∀ {ds : List D} {vs : List V}, OwDs K F H ds vs → OwDs K F' H' ds vs
  | _, _, .nil => .nil
  | _, _, .cons r t => .cons (OwD.pass pf ph r) (OwDs.pass pf ph t)
end
theorem Own.pass {a : Addr} {d : D} (pf : Pass F F') (ph : Pass H H') (e : H' a = H a) (o : Own K F H a d) : Own K F' H' a d := by
  cases d with
  | lst ds => obtain ⟨vs, q, r⟩ := o; exact ⟨vs, by rw [e]; exact q, r.pass pf⟩
  | dK ds => obtain ⟨vs, q, r⟩ := o; exact ⟨vs, by rw [e]; exact q, r.pass pf⟩
  | dT ds => obtain ⟨vs, q, r⟩ := o; exact ⟨vs, by rw [e]; exact q, r.pass pf⟩
  | rows ds => obtain ⟨vs, q, r⟩ := o; exact ⟨vs, by rw [e]; exact q, r.pass pf ph⟩
  | deep d => exact ⟨OwD.pass pf ph o.1, o.2⟩
  | _ => exact o.elim
/-- at d stands y in the place of x -/
def Lk (d : Addr) (x y : HO) (A B : Hp) : Prop := (∀ b, b ≠ d → B b = A b) ∧ ((A d = none ∧ B d = none) ∨ (A d = some x ∧ B d = some y))
theorem Lk.at {d : Addr} {x y : HO} (h : Lk d x y A B) (e : A d = some x) : B d = some y := by
  rcases h.2 with ⟨z, _⟩ | ⟨_, z⟩
  · rw [z] at e; cases e
  · exact z
theorem Lk.none_iff {d b : Addr} {x y : HO} (h : Lk d x y A B) : A b = none → B b = none := fun e => by
  by_cases hb : b = d
  · subst hb
    rcases h.2 with ⟨_, z⟩ | ⟨z, _⟩
    · exact z
    · rw [e] at z; cases z
  · rw [h.1 b hb]; exact e
theorem Lk.same {d : Addr} {x y : HO} (h1 : Lk d x y A B) (h2 : Lk d x y A' B') (s : Same A A') : Same B B' := fun b u e => by
  by_cases hb : b = d
  · subst hb
    rcases h1.2 with ⟨_, z⟩ | ⟨z, z'⟩
    · rw [z] at e; cases e
    · rw [z'] at e
      cases e
      exact h2.at (s _ _ z)
  · rw [h1.1 b hb] at e
    rw [h2.1 b hb]
    exact s _ _ e
theorem Lk.pass1 {d : Addr} {kvs : List (Key × V)} {o : Obj} (h : Lk d (.dK kvs) (.frz o (.dK kvs)) A B) : Pass A B := by
  have key : ∀ (a : Addr) (u : HO), A a = some u → (∀ k, u ≠ .dK k) → B a = some u := fun a u e hu => by
    by_cases hb : a = d
    · subst hb
      rcases h.2 with ⟨z, _⟩ | ⟨z, _⟩
      · rw [z] at e; cases e
      · rw [z] at e; cases e; exact absurd rfl (hu _)
    · rw [h.1 a hb]; exact e
  refine ⟨fun a vs e => key a _ e (fun _ z => by cases z), fun a vs e => key a _ e (fun _ z => by cases z), fun a vs e => ?_, fun a vs e => ?_, fun a vs e => ?_, fun a φ e => key a _ e (fun _ z => by cases z)⟩
  · rcases e with e | ⟨o', e⟩
    · exact .inl (key a _ e fun _ z => by cases z)
    · exact .inr ⟨o', key a _ e fun _ z => by cases z⟩
  · rcases e with e | ⟨o', e⟩
    · by_cases hb : a = d
      · subst hb
        rcases h.2 with ⟨z, _⟩ | ⟨z, z'⟩
        · rw [z] at e; cases e
        · rw [z] at e; cases e; exact .inr ⟨o, z'⟩
      · exact .inl (by rw [h.1 a hb]; exact e)
    · exact .inr ⟨o', key a _ e fun _ z => by cases z⟩
  · rcases e with e | ⟨o', e⟩
    · exact .inl (key a _ e fun _ z => by cases z)
    · exact .inr ⟨o', key a _ e fun _ z => by cases z⟩
theorem Lk.pass2 {d : Addr} {kvs : List (Key × V)} {o : Obj} (h : Lk d (.frz o (.dK kvs)) (.dK kvs) A B) : Pass A B := by
  have key : ∀ (a : Addr) (u : HO), A a = some u → u ≠ .frz o (.dK kvs) → B a = some u := fun a u e hu => by
    by_cases hb : a = d
    · subst hb
      rcases h.2 with ⟨z, _⟩ | ⟨z, _⟩
      · rw [z] at e; cases e
      · rw [z] at e; cases e; exact absurd rfl hu
    · rw [h.1 a hb]; exact e
  refine ⟨fun a vs e => key a _ e (fun z => by cases z), fun a vs e => key a _ e (fun z => by cases z), fun a vs e => ?_, fun a vs e => ?_, fun a vs e => ?_, fun a φ e => key a _ e (fun z => by cases z)⟩
  · rcases e with e | ⟨o', e⟩
    · exact .inl (key a _ e fun z => by cases z)
    · exact .inr ⟨o', key a _ e fun z => by cases z⟩
  · rcases e with e | ⟨o', e⟩
    · exact .inl (key a _ e fun z => by cases z)
    · by_cases hb : a = d
      · subst hb
        rcases h.2 with ⟨z, _⟩ | ⟨z, z'⟩
        · rw [z] at e; cases e
        · rw [z] at e; cases e; exact .inl z'
      · exact .inr ⟨o', by rw [h.1 a hb]; exact e⟩
  · rcases e with e | ⟨o', e⟩
    · exact .inl (key a _ e fun z => by cases z)
    · exact .inr ⟨o', key a _ e fun z => by cases z⟩
/-- a state, with y in the place of x at d -/
def Cd.at (C : Cd) (F0 H0 : Hp) : Cd := ⟨C.K, F0, H0, C.XW, C.ln, C.io⟩
theorem Lk.ext {d : Addr} {x y : HO} {F0 H0 F1 H1 F0' H0' F1' H1' : Hp} (lF0 : Lk d x y F0 F0') (e : Ext F0 H0 F1 H1) (h0 : H0 d = some x) (lH0 : Lk d x y H0 H0') (lF : Lk d x y F1 F1') (lH : Lk d x y H1 H1') : Ext F0' H0' F1' H1' := by
  refine ⟨lF0.same lF e.f, lH0.same lH e.h, fun a u z => ?_⟩
  by_cases hb : a = d
  · subst hb
    rcases lF.2 with ⟨_, w⟩ | ⟨w, w'⟩
    · rw [w] at z; cases z
    · rw [w'] at z
      cases z
      rcases e.n _ _ w with q | q
      · exact .inl (lF0.at q)
      · rw [h0] at q; cases q
  · rw [lF.1 a hb] at z
    rcases e.n _ _ z with q | q
    · exact .inl (by rw [lF0.1 a hb]; exact q)
    · exact .inr (by rw [lH0.1 a hb]; exact q)
theorem Rel.lk {C : Cd} {ρ : En} {σ : L2.St} {d : Addr} {x y : HO} {F0' H0' : Hp} (hp : ∀ A B, Lk d x y A B → Pass A B) (r : Rel C ρ σ F H) (h0 : C.H0 d = some x) (lF0 : Lk d x y C.F0 F0') (lH0 : Lk d x y C.H0 H0') (lF : Lk d x y F F') (lH : Lk d x y H H') :
    Rel (C.at F0' H0') ρ σ F' H' := by
  have away : ∀ b, C.H0 b = none → b ≠ d := fun b e z => by rw [z, h0] at e; cases e
  have feq : ∀ (i : Nat) (e : D) (a : Addr), ρ[i]? = some (some (true, e)) → σ[i]? = some (some (.ref a)) → foot H' a e = foot H a e := fun i e a h1 h2 => by
    obtain ⟨a', q, n, _, o⟩ := r.ownF i e h1
    rw [h2] at q
    cases q
    exact foot_same o fun b hb => lH.1 b (away b (n b hb).2)
  refine ⟨lF0.ext r.ext h0 lH0 lF lH, lF.same lH r.sub, r.len, fun i e h => ?_, fun i e h => ?_, fun i j e e' a b c h1 h2 h3 h4 h5 h6 => ?_, fun i e v h => ?_⟩
  · obtain ⟨v, q, w⟩ := r.slot i e h
    exact ⟨v, q, w.pass (hp _ _ lF)⟩
  · obtain ⟨a, q, n, nd, o⟩ := r.ownF i e h
    have ef := feq i e a h q
    refine ⟨a, q, fun b hb => ?_, by rw [ef]; exact nd, o.pass (hp _ _ lF) (hp _ _ lH) (lH.1 a (away a (n a foot_head).2))⟩
    rw [ef] at hb
    obtain ⟨z1, z2⟩ := n b hb
    exact ⟨lF.none_iff z1, lH0.none_iff z2⟩
  · rw [feq i e a h1 h3] at h5
    rw [feq j e' b h2 h4] at h6
    exact r.apartF i j e e' a b c h1 h2 h3 h4 h5 h6
  · obtain ⟨z1, z2⟩ := r.lend i e v h
    exact ⟨z1, z2.pass (hp _ _ lF0) (hp _ _ lH0)⟩
theorem New.lk {H0 H0' : Hp} {d : Addr} {x y : HO} (hp : ∀ A B, Lk d x y A B → Pass A B) (h0 : H0 d = some x) (lH0 : Lk d x y H0 H0') (lF : Lk d x y F F') (lH : Lk d x y H H') {e : D} {v : V} (n : New K H0 F H e v) : New K H0' F' H' e v := by
  cases hc : isC e with
  | true =>
    obtain ⟨a, rfl, n1, nd, o⟩ := n.own hc
    have ha : a ≠ d := fun z => by have := (n1 a foot_head).1; rw [z, h0] at this; cases this
    have ef : foot H' a e = foot H a e := foot_same o fun b hb => lH.1 b fun z => by have := (n1 b hb).1; rw [z, h0] at this; cases this
    refine .mk (fun b hb => ?_) (by rw [ef]; exact nd) (o.pass (hp _ _ lF) (hp _ _ lH) (lH.1 a ha))
    rw [ef] at hb
    exact ⟨lH0.none_iff (n1 b hb).1, lF.none_iff (n1 b hb).2⟩
  | false => exact .of_rep hc ((n.isRep hc).pass (hp _ _ lF))
/-- locked, unlocked -/
theorem lk_lock {d : Addr} {x y : HO} {A : Hp} (h : A d = some x) : Lk d x y A (upd A d y) := ⟨fun b hb => upd_ne hb, .inr ⟨h, upd_same⟩⟩
def lkF (d : Addr) (y : HO) (A : Hp) : Hp := fun b => if b = d then (match A d with | some _ => some y | none => none) else A b
theorem lk_F {d : Addr} {x y : HO} {A B : Hp} (s : Same A B) (h : B d = some x) : Lk d x y A (lkF d y A) := by
  refine ⟨fun b hb => if_neg hb, ?_⟩
  unfold lkF
  rw [if_pos rfl]
  cases e : A d with
  | none => exact .inl ⟨rfl, rfl⟩
  | some u =>
    have := s _ _ e
    rw [h] at this
    cases this
    exact .inr ⟨rfl, rfl⟩
end
section
variable {X : Cx} {C : Cd} {e tg : Expr} {f : En → R D} {pos : Pos} {K : PySem.W.Frag}
theorem iter_keys {B F : Hp} {d : Addr} {o : Obj} {kvs : List (Key × V)} {kds : List (Key × D)} (h : B d = some (.frz o (.dK kvs))) (r : RepK K F kds kvs) : IterOk K (Itk d o kvs) B F (kds.map fun kv => kyD kv.1) := fun i F2 H2 b f s => by
  have q := b _ _ h
  have rk := RepK.keys r
  have hl : kvs.length = kds.length := r.length
  refine ⟨fun hi => ?_, fun hi => ⟨q, by rw [List.length_map] at hi; omega⟩⟩
  rw [List.length_map] at hi
  refine ⟨⟨q, by omega⟩, fun x H3 y => ?_⟩
  obtain ⟨rfl, k, v, hk, rfl⟩ := y
  obtain ⟨d', h1, h2⟩ := rk.get' (i := i) (v := kV k) (by rw [List.getElem?_map, hk]; rfl)
  exact ⟨F2, d', h1, Ext.refl _ _, s, h2.mono f⟩
/-- a lent dict, locked -/
def Lkd (C : Cd) (ds : List D) (i : Nat) (F0 H0 : Hp) : Prop := ∃ (d : Addr) (o : Obj) (kvs : List (Key × V)) (kds : List (Key × D)), ds[i]? = some (.dK kds) ∧ C.ln i = some (.dK kds, .ref d) ∧ H0 d = some (.frz o (.dK kvs)) ∧ RepK C.K F0 kds kvs
theorem i_keysL {i : Nat} {ds : List D} {F0 H0 : Hp} (hv : PE X e (tVar i)) (hz : Lkd C ds i F0 H0) : PI X tg e (tI (C.at F0 H0) true fun ρ => bd (rdL ds i ρ) itK) :=
  (pi_keys hv).mono fun σ H R ⟨ρ, F, r, q⟩ => by
    obtain ⟨d, o, kvs, kds, h1, h2, h3, h4⟩ := hz
    obtain ⟨hσ, _⟩ := r.lend i _ _ h2
    have e1 : rdL ds i ρ = .ok (.dK kds) := by unfold rdL; rw [h1]
    have q : OutI (C.at F0 H0) true σ F H (bd (rdL ds i ρ) itK) R := q
    rw [e1] at q
    have q : OutI (C.at F0 H0) true σ F H (.ok (kds.map fun kv => kyD kv.1)) R := q
    refine ⟨_, hσ, d, o, rfl, .inl ⟨kvs, r.ext.h _ _ h3, ?_⟩⟩
    refine q _ F H (Ext.refl _ _) r.sub ?_
    rw [if_pos rfl]
    exact iter_keys (jn_r r.sub r.ext.h _ _ h3) (RepK.mono r.ext.f h4)
theorem post_noErrF {T : Ends} {B : Hp} {x : R Fl} (q : Post C T B (noErrF x)) : Post C T B x := by
  cases x with
  | ok r => exact q
  | err c => exact q.elim
  | bad => exact q
/-- a lent dict is walked -/
theorem s_forK {i : Nat} {ds : List D} {body : List Stmt} {gg : D → En → Option En} {gb : En → R Fl} {own : List Nat} (hc : X.calm = true) (hv : PE X e (tVar i)) (hg : ∀ F0 H0 : Hp, PG X tg (tG (C.at F0 H0) own gg)) (hb : ∀ F0 H0 : Hp, PSs X body (tS (C.at F0 H0) gb))
    (hp : PassesOwn (model X.prog X.w) X.A X.env X.xe) (hl : LnAt C ds i := by first | exact lnAt_of rfl (by decide) | exact lnAt_M rfl (by decide) (by decide) | exact lnAt_W rfl (by decide) (by decide)) (hio : C.io = [] := by rfl) (hs : ∀ x, foldedSetIterable e X.env x = pure x := by intro _; rfl) :
    PS X (.For tg e body [] pos) (tS C (sForK (rdL ds i) gg gb)) := by
  have core : PS X (.For tg e body [] pos) (fun T σ H => ∃ F0 H0, Lkd C ds i F0 H0 ∧ tS (C.at F0 H0) (sFor (fun ρ => bd (rdL ds i ρ) itK) gg gb) T σ H) := ⟨fun pins s σ H D I ⟨F0, H0, z, q⟩ => (s_for hc (i_keysL hv z) (hg F0 H0) (hb F0 H0) hp hs).run pins s σ H D I q⟩
  refine (PS.or core (ps_lock core)).mono fun T σ H ⟨ρ, F, r, q⟩ => ?_
  unfold sForK at q
  cases hd : ds[i]? with
  | none =>
    have e1 : rdL ds i ρ = .bad := by unfold rdL; rw [hd]
    rw [e1] at q; exact q.elim
  | some dd =>
    have e1 : rdL ds i ρ = .ok dd := by unfold rdL; rw [hd]
    have q0 := q
    rw [e1] at q
    cases dd with
    | dK kds =>
      obtain ⟨v, hln⟩ := hl _ hd
      obtain ⟨hσ, d, kvs, rfl, hr, rk⟩ := r.lend i _ _ hln
      rcases hr with hr | ⟨o, hr⟩
      · -- to be locked
        right
        have hH : H d = some (.dK kvs) := r.ext.h _ _ hr
        refine ⟨d, .dK kvs, hH, trivial, fun od => ?_⟩
        have p1 : ∀ A B, Lk d (.dK kvs) (.frz od (.dK kvs)) A B → Pass A B := fun _ _ h => h.pass1
        have p2 : ∀ A B, Lk d (.frz od (.dK kvs)) (.dK kvs) A B → Pass A B := fun _ _ h => h.pass2
        have lF : Lk d (.dK kvs) (.frz od (.dK kvs)) F (lkF d (.frz od (.dK kvs)) F) := lk_F r.sub hH
        have lF0 : Lk d (.dK kvs) (.frz od (.dK kvs)) C.F0 (lkF d (.frz od (.dK kvs)) C.F0) := lk_F (r.ext.f.trans r.sub) hH
        have lH : Lk d (.dK kvs) (.frz od (.dK kvs)) H (upd H d (.frz od (.dK kvs))) := lk_lock hH
        have lH0 : Lk d (.dK kvs) (.frz od (.dK kvs)) C.H0 (upd C.H0 d (.frz od (.dK kvs))) := lk_lock hr
        refine ⟨_, _, ⟨d, od, kvs, kds, hd, hln, upd_same, rk.pass (p1 _ _ lF0)⟩, ρ, _, Rel.lk p1 r hr lF0 lH0 lF lH, ?_⟩
        -- back
        have e0 : lkF d (.dK kvs) (lkF d (.frz od (.dK kvs)) C.F0) = C.F0 := funext fun b => by
          unfold lkF
          by_cases hb : b = d
          · subst hb
            rw [if_pos rfl, if_pos rfl]
            rcases lF0.2 with ⟨z, _⟩ | ⟨z, _⟩
            · rw [z]
            · rw [z]
          · rw [if_neg hb, if_neg hb]
        have e00 : upd (upd C.H0 d (.frz od (.dK kvs))) d (.dK kvs) = C.H0 := funext fun b => by
          by_cases hb : b = d
          · subst hb; rw [upd_same, hr]
          · rw [upd_ne hb, upd_ne hb]
        have lF0' : Lk d (.frz od (.dK kvs)) (.dK kvs) (lkF d (.frz od (.dK kvs)) C.F0) C.F0 := by
          refine ⟨fun b hb => ((lF0.1 b hb).symm), ?_⟩
          rcases lF0.2 with ⟨z, z'⟩ | ⟨z, z'⟩
          · exact .inl ⟨z', z⟩
          · exact .inr ⟨z', z⟩
        have lH0' : Lk d (.frz od (.dK kvs)) (.dK kvs) (upd C.H0 d (.frz od (.dK kvs))) C.H0 := ⟨fun b hb => (upd_ne hb).symm, .inr ⟨upd_same, hr⟩⟩
        have lF' : Lk d (.frz od (.dK kvs)) (.dK kvs) (lkF d (.frz od (.dK kvs)) F) F := by
          refine ⟨fun b hb => ((lF.1 b hb).symm), ?_⟩
          rcases lF.2 with ⟨z, z'⟩ | ⟨z, z'⟩
          · exact .inl ⟨z', z⟩
          · exact .inr ⟨z', z⟩
        have back : ∀ (ρ' : En) (σ' : L2.St) (F' H' : Hp), Same (lkF d (.frz od (.dK kvs)) F) F' → Rel (C.at (lkF d (.frz od (.dK kvs)) C.F0) (upd C.H0 d (.frz od (.dK kvs)))) ρ' σ' F' H' → H' d = some (.frz od (.dK kvs)) ∧ Same F (lkF d (.dK kvs) F') ∧ Rel C ρ' σ' (lkF d (.dK kvs) F') (upd H' d (.dK kvs)) := fun ρ' σ' F' H' s' r' => by
          have hH' : H' d = some (.frz od (.dK kvs)) := r'.ext.h _ _ upd_same
          have l1 : Lk d (.frz od (.dK kvs)) (.dK kvs) F' (lkF d (.dK kvs) F') := lk_F r'.sub hH'
          have l2 : Lk d (.frz od (.dK kvs)) (.dK kvs) H' (upd H' d (.dK kvs)) := lk_lock hH'
          have r2 : Rel ((C.at (lkF d (.frz od (.dK kvs)) C.F0) (upd C.H0 d (.frz od (.dK kvs)))).at C.F0 C.H0) ρ' σ' (lkF d (.dK kvs) F') (upd H' d (.dK kvs)) := Rel.lk p2 r' upd_same lF0' lH0' l1 l2
          exact ⟨hH', lF'.same l1 s', r2⟩
        have e2 : bd (bd (rdL ds i ρ) itK) (fun ds => loopD gg gb ds ρ) = loopD gg gb (kds.map fun kv => kyD kv.1) ρ := by rw [e1]; rfl
        have q1 : Post C T F (noErrF (loopD gg gb (kds.map fun kv => kyD kv.1) ρ)) := q
        show Post _ _ _ (sFor (fun ρ => bd (rdL ds i ρ) itK) gg gb ρ)
        have e3 : sFor (fun ρ => bd (rdL ds i ρ) itK) gg gb ρ = loopD gg gb (kds.map fun kv => kyD kv.1) ρ := e2
        rw [e3]
        cases hx : loopD gg gb (kds.map fun kv => kyD kv.1) ρ with
        | bad => rw [hx] at q1; exact q1
        | err c => rw [hx] at q1; exact q1.elim
        | ok fl =>
          rw [hx] at q1
          have q1 : Post C T F (.ok fl) := q1
          cases fl with
          | next ρ' =>
            intro σ' F' H' s' r'
            obtain ⟨z1, z2, z3⟩ := back ρ' σ' F' H' s' r'
            exact ⟨z1, q1 σ' _ _ z2 z3⟩
          | brk ρ' =>
            intro σ' F' H' s' r'
            obtain ⟨z1, z2, z3⟩ := back ρ' σ' F' H' s' r'
            exact ⟨z1, q1 σ' _ _ z2 z3⟩
          | cont ρ' =>
            intro σ' F' H' s' r'
            obtain ⟨z1, z2, z3⟩ := back ρ' σ' F' H' s' r'
            exact ⟨z1, q1 σ' _ _ z2 z3⟩
          | ret o dv =>
            intro v F' H' x' s' w
            have hH' : H' d = some (.frz od (.dK kvs)) := x'.h _ _ upd_same
            have l1 : Lk d (.frz od (.dK kvs)) (.dK kvs) F' (lkF d (.dK kvs) F') := lk_F s' hH'
            have l2 : Lk d (.frz od (.dK kvs)) (.dK kvs) H' (upd H' d (.dK kvs)) := lk_lock hH'
            refine ⟨hH', q1 v _ _ (lF0'.ext x' upd_same lH0' l1 l2) (l1.same l2 s') ?_⟩
            refine RetV.of hio ?_
            have w' : RetP (C.at (lkF d (.frz od (.dK kvs)) C.F0) (upd C.H0 d (.frz od (.dK kvs)))) F' H' o dv v := by
              unfold RetV at w
              rw [show (C.at (lkF d (.frz od (.dK kvs)) C.F0) (upd C.H0 d (.frz od (.dK kvs)))).io = [] from hio] at w
              exact w
            unfold RetP at w' ⊢
            cases o with
            | true => rw [if_pos rfl] at w' ⊢; exact New.lk p2 upd_same lH0' l1 l2 w'
            | false => rw [if_neg Bool.false_ne_true] at w' ⊢; exact Rep.pass (p2 _ _ l1) w'
      · -- locked already
        left
        refine ⟨C.F0, C.H0, ⟨d, o, kvs, kds, hd, hln, hr, rk⟩, ρ, F, r, ?_⟩
        exact post_noErrF q0
    | _ => exact q.elim
end
end DL
/-! the D layer: defs whose parameters are lent, but for those that are set anew -/
namespace DL
open PySem PySem.Spec PyProof.Rows L2
def evEnv (N : Nat) (ev : List Nat) (ds : List D) : En := (List.range N).map fun i => if i ∈ ev then (match ds[i]? with | some d => some (false, d) | none => none) else none
def bodyW (n N : Nat) (ev : List Nat) (g : List D → En → R Fl) : Den := fun ds => if ds.length = n then endD (noE (g ds (evEnv N ev ds))) else .bad
theorem bodyW_len {n N : Nat} {ev : List Nat} {g : List D → En → R Fl} : ∀ ds, bodyW n N ev g ds ≠ .bad → ds.length = n := fun ds h => by
  unfold bodyW at h
  split at h
  · assumption
  · exact absurd rfl h
theorem ap_bodyW {n N : Nat} {ev : List Nat} {g : List D → En → R Fl} {ds : List D} (h : ds.length = n) : bodyW n N ev g ds = endD (noE (g ds (evEnv N ev ds))) := by unfold bodyW; rw [if_pos h]
theorem ixR_lst {ds : List D} {d : D} {j : Int} (h0 : 0 ≤ j) (h : ds[j.toNat]? = some d) : dIxR (.lst ds) (.int j) = .ok d := by
  have hl := (List.getElem?_eq_some_iff.mp h).1
  show (match L2.atI ds j with | some d => R.ok d | none => .bad) = _
  have : L2.atI ds j = some d := by
    unfold L2.atI L2.ixN
    rw [if_pos h0, if_pos (by omega)]
    exact h
  rw [this]
/-- .. for x in rows: x.clear() -/
def rowsClrK (x : Option (Option (Bool × D))) (i j : Nat) (ρ : En) : R Fl := match x with
  | some (some (true, .rows rs)) => .ok (.next ((ρ.set i (some (true, .rows (rs.map fun _ => .lst [])))).set j none))
  | _ => .bad
def sRowsClr (i j : Nat) : En → R Fl := fun ρ => rowsClrK ρ[i]? i j ρ
theorem rowsClr_ap {i j : Nat} {ρ : En} : sRowsClr i j ρ = rowsClrK ρ[i]? i j ρ := rfl
theorem rowsClr_ok {rs : List D} {i j : Nat} {ρ : En} : rowsClrK (some (some (true, .rows rs))) i j ρ = .ok (.next ((ρ.set i (some (true, .rows (rs.map fun _ => .lst [])))).set j none)) := rfl
def itEnumL : List D → R (List D)
  | [.lst ds] => .ok (enumD ds)
  | _ => .bad
theorem itEnumL_lst {ds : List D} : itEnumL [.lst ds] = .ok (enumD ds) := rfl
/-! the rules -/
def EvOk (K : PySem.W.Frag) (F : Hp) (ev : List Nat) (ds : List D) (vs : List V) : Prop := ∀ i ∈ ev, ∃ d v, ds[i]? = some d ∧ vs[i]? = some v ∧ Rep K F d v
/-- the promise -/
def spW (K : PySem.W.Frag) (cls : Str → Addr) (ev : List Nat) (n : Nat) (den : Den) : Sp := fun vs H Q E => vs.length = n ∧ ∃ F ds, Same F H ∧ Views K F H ds vs ∧ EvOk K F ev ds vs ∧ match den ds with
  | .ok (o, d) => ∀ v F' H', Ext F H F' H' → Same F' H' → (if o = true then New K H F' H' d v else Rep K F' d v) → Q v H'
  | .err c => ∀ F' H', Ext F H F' H' → Same F' H' → E (.ref (cls c)) none H'
  | .bad => False
theorem evEnv_get {N i : Nat} {ev : List Nat} {ds : List D} {b : Bool} {d : D} (h : (evEnv N ev ds)[i]? = some (some (b, d))) : b = false ∧ i ∈ ev ∧ ds[i]? = some d := by
  unfold evEnv at h
  rw [List.getElem?_map] at h
  cases hr : (List.range N)[i]? with
  | none => rw [hr] at h; cases h
  | some j =>
    rw [hr] at h
    have hj : j = i := by
      rw [List.getElem?_eq_some_iff] at hr
      obtain ⟨h1, h2⟩ := hr
      rw [List.getElem_range] at h2
      exact h2.symm
    subst hj
    have h : some (if j ∈ ev then (match ds[j]? with | some d => some (false, d) | none => none) else none) = some (some (b, d)) := h
    by_cases hi : j ∈ ev
    · rw [if_pos hi] at h
      cases hd : ds[j]? with
      | none => rw [hd] at h; cases h
      | some d' =>
        rw [hd] at h
        cases h
        exact ⟨rfl, hi, rfl⟩
    · rw [if_neg hi] at h; cases h
theorem relW {K : PySem.W.Frag} {F H : Hp} {N : List Str} {n : Nat} {ev : List Nat} {ds : List D} {vs : List V} {XW : Str → L2.St → Hp → Prop} (s : Same F H) (r : Views K F H ds vs) (ro : EvOk K F ev ds vs) (hn : vs.length = n) (hN : n ≤ N.length) : Rel ⟨K, F, H, XW, lnW n ev ds vs, []⟩ (evEnv N.length ev ds) (L2.start N vs) F H where
  ext := Ext.refl _ _
  sub := s
  len := by
    unfold L2.start evEnv
    simp only [List.length_append, List.length_map, List.length_replicate, List.length_range, hn]
    omega
  slot := fun i d h => by
    obtain ⟨_, hi, hd⟩ := evEnv_get h
    obtain ⟨d', v, h1, h2, h3⟩ := ro i hi
    rw [hd] at h1
    cases h1
    exact ⟨v, start_get h2, h3⟩
  ownF := fun i d h => nomatch (evEnv_get h).1
  apartF := fun i j d e a b c h => nomatch (evEnv_get h).1
  lend := fun i d v h => by
    have h : lnW n ev ds vs i = some (d, v) := h
    unfold lnW at h
    by_cases hi : i ∈ ev
    · rw [if_pos hi] at h; cases h
    · rw [if_neg hi] at h
      unfold lnOf at h
      split at h
      · cases hd : ds[i]? with
        | none => rw [hd] at h; cases h
        | some d' =>
          rw [hd] at h
          obtain ⟨v', hv, w⟩ := r.get hd
          have e : vs.getD i .non = v' := by rw [List.getD_eq_getElem?_getD, hv]; rfl
          have h2 : some (d', vs.getD i .non) = some (d, v) := h
          rw [e] at h2
          cases h2
          exact ⟨start_get hv, w⟩
      · cases h
theorem ok_defW {K : PySem.W.Frag} {P : Program} {w : World} {mg : Str → Option Value} {base : Heap} {x qual : Str} {fs : Stmt} {fa : Addr} {fd : FuncData} {N ps : List Str} {k : Nat} {cls : Str → Addr} {ev : List Nat} {g : List D → En → R Fl} (Fn : Fun K x qual fs fa fd) (S : FnScope N ps (defScope fs))
    (hb : ∀ (ds : List D) (vs : List V) (cdv : Value) (A : Around) (outer : List Env) (s : Shared) (H : Hp) (E : XK) (F0 : Hp), Room k (A.deeper (envOfC qual (defScope fs) s.heap.objs.size fa cdv)) → PSs (cxOf CX0 P w K mg base N qual (defScope fs) fa cdv A outer s H E).nox (defBody fs) (tS ⟨K, F0, H, fun _ _ _ => False, lnW ps.length ev ds vs, []⟩ (g ds))) :
    FnOk P w K mg base CX0 (k + 1) fa fd ps (spW K cls ev ps.length (bodyW ps.length N.length ev g)) := by
  refine Fn.ok S (fun vs H Q E h => h.1) (fun cdv A outer s H vs Q E hr h => ?_)
  obtain ⟨hl, F, ds, sf, r, ro, q⟩ := h
  have hN : ps.length ≤ N.length := by
    have := congrArg List.length S.pre
    rw [List.length_take] at this
    omega
  refine ⟨_, hb ds vs cdv A outer s H E F hr, evEnv N.length ev ds, F, relW sf r ro hl hN, ?_⟩
  unfold bodyW at q
  rw [if_pos (by rw [← r.length]; exact hl)] at q
  cases hgg : g ds (evEnv N.length ev ds) with
  | bad => rw [hgg] at q; exact q.elim
  | err c => rw [hgg] at q; exact q.elim
  | ok fl =>
    rw [hgg] at q
    cases fl with
    | next ρ' => exact fun σ' F' H' s' r' => q .non F' H' r'.ext r'.sub .non
    | ret o d => exact fun v F' H' x s' w => q v F' H' x s' (RetV.of rfl w)
    | brk ρ' => exact q.elim
    | cont ρ' => exact q.elim
theorem ok_badW {P : Program} {w : World} {mg : Str → Option Value} {base : Heap} {K : PySem.W.Frag} {fa : Addr} {fd : FuncData} {ps : List Str} {k n : Nat} {cls : Str → Addr} {CX : CXT} {ev : List Nat} (h : ps.length = n) : FnOk P w K mg base CX k fa fd ps (spW K cls ev n (fun _ => .bad)) :=
  ⟨fun vs H Q E h' => h'.1.trans h.symm, fun A outer s H args us vs Q E _ _ _ _ h' => by
    obtain ⟨_, _, _, _, _, _, q⟩ := h'
    exact q.elim⟩
/-! arguments: read, or settled -/
inductive Mix (K : PySem.W.Frag) (F H : Hp) : List Bool → List D → List V → Prop
  | nil : Mix K F H [] [] []
  | r {d : D} {v : V} {ks : List Bool} {ds : List D} {vs : List V} : View K F H d v → Mix K F H ks ds vs → Mix K F H (false :: ks) (d :: ds) (v :: vs)
  | e {d : D} {v : V} {ks : List Bool} {ds : List D} {vs : List V} : Rep K F d v → Mix K F H ks ds vs → Mix K F H (true :: ks) (d :: ds) (v :: vs)
theorem Mix.views {K : PySem.W.Frag} {F H : Hp} (s : Same F H) : ∀ {ks : List Bool} {ds : List D} {vs : List V}, Mix K F H ks ds vs → Views K F H ds vs ∧ ds.length = ks.length
  | _, _, _, .nil => ⟨.nil, rfl⟩
  | _, _, _, .r w t => ⟨.cons w (t.views s).1, congrArg (· + 1) (t.views s).2⟩
  | _, _, _, .e w t => ⟨.cons (w.view s) (t.views s).1, congrArg (· + 1) (t.views s).2⟩
theorem Mix.get {K : PySem.W.Frag} {F H : Hp} : ∀ {ks : List Bool} {ds : List D} {vs : List V} {i : Nat}, Mix K F H ks ds vs → ks[i]? = some true → ∃ d v, ds[i]? = some d ∧ vs[i]? = some v ∧ Rep K F d v
  | _, _, _, _, .nil, h => by simp at h
  | _, _, _, 0, .r _ _, h => by simp at h
  | _, _, _, 0, .e w _, _ => ⟨_, _, rfl, rfl, w⟩
  | _, _, _, i + 1, .r _ t, h => Mix.get (i := i) t h
  | _, _, _, i + 1, .e _ t, h => Mix.get (i := i) t h
section
variable {X : Cx} {C : Cd} {e a : Expr} {es : List Expr} {f : En → R D} {fs : En → R (List D)} {pos p apos cpos : Pos} {kk n : Nat} {fa : Addr} {fd : FuncData} {ps : List Str} {x : Str} {cls : Str → Addr} {den : Den} {CX : CXT} {E : XK} {ev : List Nat} {ks : List Bool}
def OutX (C : Cd) (ks : List Bool) (σ : L2.St) (F H : Hp) (x : R (List D)) (Q : List V → Hp → Prop) : Prop := match x with
  | .ok d => ∀ v F' H', Ext F H F' H' → Same F' H' → Mix C.K F' H' ks d v → Q v H'
  | .err c => ∀ F' H', Ext F H F' H' → Same F' H' → C.XW c σ H'
  | .bad => False
def tX (C : Cd) (ks : List Bool) (f : En → R (List D)) : TA := fun σ H Q => ∃ ρ F, Rel C ρ σ F H ∧ OutX C ks σ F H (f ρ) Q
theorem OutX.later {σ : L2.St} {F H F1 H1 : Hp} {x : R (List D)} {Q : List V → Hp → Prop} (o : OutX C ks σ F H x Q) (e : Ext F H F1 H1) : OutX C ks σ F1 H1 x Q := by
  cases x with
  | ok d => exact fun v F' H' x s w => o v F' H' (e.trans x) s w
  | err c => exact fun F' H' x s => o F' H' (e.trans x) s
  | bad => exact o
theorem x_nil : PA X [] (tX C [] aNil) := pa_nil.mono fun σ H Q ⟨ρ, F, r, q⟩ => q [] F H (Ext.refl _ _) r.sub .nil
theorem x_r (ha : PE X e (tR C f)) (hr : PA X es (tX C ks fs)) (hs : starEach (e :: es) X.env = (false, eval e X.env) :: starEach es X.env := by rfl) : PA X (e :: es) (tX C (false :: ks) (aCons f fs)) :=
  (pa_cons ha hr hs).mono fun σ H Q ⟨ρ, F, r, q⟩ => by
    refine ⟨ρ, F, r, ?_⟩
    unfold aCons at q
    cases hf : f ρ with
    | bad => rw [hf] at q; exact q
    | err c => rw [hf] at q; exact q
    | ok d =>
      rw [hf] at q
      intro v F1 H1 x1 s1 w1
      refine ⟨ρ, F1, r.grow x1 s1, ?_⟩
      have q := OutX.later q x1
      rw [bd_ok] at q
      cases hg : fs ρ with
      | bad => rw [hg] at q; exact q
      | err c => rw [hg] at q; exact q
      | ok ds =>
        rw [hg] at q
        exact fun vs F2 H2 x2 s2 w2 => q (v :: vs) F2 H2 x2 s2 (.r (w1.mono x2.f x2.h) w2)
theorem x_e (ha : PE X e (tE C f)) (hr : PA X es (tX C ks fs)) (hs : starEach (e :: es) X.env = (false, eval e X.env) :: starEach es X.env := by rfl) : PA X (e :: es) (tX C (true :: ks) (aCons f fs)) :=
  (pa_cons ha hr hs).mono fun σ H Q ⟨ρ, F, r, q⟩ => by
    refine ⟨ρ, F, r, ?_⟩
    unfold aCons at q
    cases hf : f ρ with
    | bad => rw [hf] at q; exact q
    | err c => rw [hf] at q; exact q
    | ok d =>
      rw [hf] at q
      intro v F1 H1 x1 s1 w1
      refine ⟨ρ, F1, r.grow x1 s1, ?_⟩
      have q := OutX.later q x1
      rw [bd_ok] at q
      cases hg : fs ρ with
      | bad => rw [hg] at q; exact q
      | err c => rw [hg] at q; exact q
      | ok ds =>
        rw [hg] at q
        exact fun vs F2 H2 x2 s2 w2 => q (v :: vs) F2 H2 x2 s2 (.e (w1.mono x2.f) w2)
def chkW (n : Nat) (ev : List Nat) (ks : List Bool) : Bool := decide (ks.length = n) && ev.all fun i => decide (ks[i]? = some true)
theorem callW_in {ds : List D} {vs : List V} {F H : Hp} (hk : chkW n ev ks = true) (s : Same F H) (w : Mix C.K F H ks ds vs) : vs.length = n ∧ Views C.K F H ds vs ∧ EvOk C.K F ev ds vs := by
  unfold chkW at hk
  rw [Bool.and_eq_true] at hk
  obtain ⟨h1, h2⟩ := w.views s
  have hk1 := of_decide_eq_true hk.1
  exact ⟨by rw [h1.length]; omega, h1, fun i hi => w.get (of_decide_eq_true (List.all_eq_true.mp hk.2 i hi))⟩
theorem callEW_ok (hXW : ∀ c σ H, C.XW c σ H → E (.ref (cls c)) none H) (hk : chkW n ev ks = true) : ∀ σ H Q, tE C (fun ρ => bd (fs ρ) (callE den)) σ H Q → tCall (spW C.K cls ev n den) [] E (tX C ks fs) σ H Q := by
  rintro σ H Q ⟨ρ, F, r, q⟩
  have q : Out C σ F H (fun F' H' => Rep C.K F') (bd (fs ρ) (callE den)) Q := q
  refine ⟨ρ, F, r, ?_⟩
  cases hf : fs ρ with
  | bad => rw [hf] at q; exact q
  | err c => rw [hf] at q; exact q
  | ok ds =>
    rw [hf] at q
    intro vs F' H' x s w
    have q := Out.later q x
    obtain ⟨h1, h2, h3⟩ := callW_in hk s w
    rw [bd_ok] at q
    unfold callE at q
    refine ⟨by rw [List.append_nil]; exact h1, F', ds, s, by rw [List.append_nil]; exact h2, by rw [List.append_nil]; exact h3, ?_⟩
    cases hden : den ds with
    | bad => rw [hden] at q; exact q.elim
    | err c => rw [hden] at q; exact fun F2 H2 x2 s2 => hXW c σ H2 (q F2 H2 x2 s2)
    | ok z =>
      rw [hden] at q
      obtain ⟨o, d⟩ := z
      intro v F2 H2 x2 s2 w
      cases o with
      | false => exact q v F2 H2 x2 s2 (by simpa using w)
      | true =>
        have w' : New C.K H' F2 H2 d v := by simpa using w
        obtain ⟨F3, x3, _, s3, w3⟩ := w'.rep s2 x2
        exact q v F3 H2 x3 s3 w3
theorem callOW_ok (hXW : ∀ c σ H, C.XW c σ H → E (.ref (cls c)) none H) (hk : chkW n ev ks = true) : ∀ σ H Q, tO C (fun ρ => bd (fs ρ) (callO den)) σ H Q → tCall (spW C.K cls ev n den) [] E (tX C ks fs) σ H Q := by
  rintro σ H Q ⟨ρ, F, r, q⟩
  have q : Out C σ F H (fun F' H' => New C.K H F' H') (bd (fs ρ) (callO den)) Q := q
  refine ⟨ρ, F, r, ?_⟩
  cases hf : fs ρ with
  | bad => rw [hf] at q; exact q
  | err c => rw [hf] at q; exact q
  | ok ds =>
    rw [hf] at q
    intro vs F' H' x s w
    have q := Out.later q x
    obtain ⟨h1, h2, h3⟩ := callW_in hk s w
    rw [bd_ok] at q
    unfold callO at q
    refine ⟨by rw [List.append_nil]; exact h1, F', ds, s, by rw [List.append_nil]; exact h2, by rw [List.append_nil]; exact h3, ?_⟩
    cases hden : den ds with
    | bad => rw [hden] at q; exact q.elim
    | err c => rw [hden] at q; exact fun F2 H2 x2 s2 => hXW c σ H2 (q F2 H2 x2 s2)
    | ok z =>
      rw [hden] at q
      obtain ⟨o, d⟩ := z
      intro v F2 H2 x2 s2 w
      have q' : Out C σ F' H' (fun F' H' => New C.K H F' H') (grd (o || !isC d) (.ok d)) Q := q
      obtain ⟨ho, q2⟩ := grd_out q'
      cases o with
      | false => exact q2 v F2 H2 x2 s2 (New.of_rep (by simpa using ho) (by simpa using w))
      | true => exact q2 v F2 H2 x2 s2 (New.later x.h (by simpa using w))
theorem d_callEW (Fo : FnOk X.prog X.w X.K X.mg X.base CX kk fa fd ps (spW C.K cls ev n den)) (hr : Room kk X.A) (hm : X.mg x = some (.ref fa)) (hkp : PySem.W.keepIn X.K (.ref fa) = true) (hb : Binds X.K fd ps []) (hx : Passes CX X E) (hXW : ∀ c σ H, C.XW c σ H → E (.ref (cls c)) none H)
    (ha : PA X (e :: es) (tX C ks fs)) (hk : chkW n ev ks = true := by decide) (hg : Gl X x := by rfl) (hdb : (x == ("__debug__" : Str)) = false := by decide) (he : starEach (e :: es) X.env = (false, eval e X.env) :: starEach es X.env := by rfl) (hpl : (backTo pos (starEach es X.env)).any (·.1) = false := by rfl) :
    PE X (.Call (.Name x p) (e :: es) [] pos) (tE C (nop fs (callE den))) := (pe_call Fo hr hg hm hkp hb .nil hx ha hdb he hpl).mono (callEW_ok hXW hk)
theorem d_callOW (Fo : FnOk X.prog X.w X.K X.mg X.base CX kk fa fd ps (spW C.K cls ev n den)) (hr : Room kk X.A) (hm : X.mg x = some (.ref fa)) (hkp : PySem.W.keepIn X.K (.ref fa) = true) (hb : Binds X.K fd ps []) (hx : Passes CX X E) (hXW : ∀ c σ H, C.XW c σ H → E (.ref (cls c)) none H)
    (ha : PA X (e :: es) (tX C ks fs)) (hk : chkW n ev ks = true := by decide) (hg : Gl X x := by rfl) (hdb : (x == ("__debug__" : Str)) = false := by decide) (he : starEach (e :: es) X.env = (false, eval e X.env) :: starEach es X.env := by rfl) (hpl : (backTo pos (starEach es X.env)).any (·.1) = false := by rfl) :
    PE X (.Call (.Name x p) (e :: es) [] pos) (tO C (nop fs (callO den))) := (pe_call Fo hr hg hm hkp hb .nil hx ha hdb he hpl).mono (callOW_ok hXW hk)
theorem i_enumL {elts : List Expr} {k2 i : Nat} {tpos : Pos} {ds : List D} (hC : X.K = C.K) (hm : X.mg "enumerate" = none) (ha : PE X a (tVar i)) (hc : LnAt C ds i := by first | exact lnAt_of rfl (by decide) | exact lnAt_M rfl (by decide) (by decide) | exact lnAt_W rfl (by decide) (by decide)) (hg : Gl X "enumerate" := by rfl) (hs : starEach [a] X.env = [(false, eval a X.env)] := by rfl) :
    PI X (.Tuple elts k2 tpos) (.Call (.Name "enumerate" p) [a] [] pos) (tI C true (irg (aCons (rdL ds i) aNil) itEnumL)) := (pi_enum hg hm (pa_cons ha pa_nil hs) hs).mono fun σ H Q ⟨ρ, F, r, o⟩ => by
      rw [hC]
      unfold irg aCons rdL at o
      cases h1 : ds[i]? with
      | none => simp only [h1, bd_bad] at o; exact o.elim
      | some d =>
        simp only [h1, bd_ok, aNil] at o
        cases d with
        | lst es =>
          obtain ⟨v, hl⟩ := hc _ h1
          obtain ⟨hv, w⟩ := r.lend i _ v hl
          obtain ⟨l, us, e1, h2, r1⟩ := w
          subst e1
          exact ⟨_, hv, l, us, rfl, SqL.of (r.ext.h _ _ h2), o _ F H (Ext.refl _ _) r.sub (iter_enum (by rw [if_pos rfl]; exact SqL.of (jn_r r.sub r.ext.h _ _ h2)) (r1.mono r.ext.f))⟩
        | _ => exact o.elim
end
end DL
namespace DL
open PySem PySem.Spec PyProof.Rows L2
section
variable {X : Cx} {C : Cd} {a b : Expr} {f g : En → R D} {apos cpos : Pos} {kk : Nat}
/-! where a deep thing stands -/
def idxP (p : PyData) : List PyData → Nat → Option Nat
  | [], _ => none
  | z :: zs, n => if PyData.eqv z p = true then some n else idxP p zs (n + 1)
theorem idxP_ok {x : PyData} : ∀ {ys : List PyData} {n j : Nat}, idxP x ys n = some j → ∃ m z, j = n + m ∧ ys[m]? = some z ∧ PyData.eqv z x = true ∧ ∀ i z, i < m → ys[i]? = some z → PyData.eqv z x = false
  | [], _, _, h => by cases h
  | y :: ys, n, j, h => by
    unfold idxP at h
    split at h
    · rename_i hy
      cases h
      exact ⟨0, y, rfl, rfl, hy, fun i z hi => absurd hi (Nat.not_lt_zero _)⟩
    · rename_i hy
      obtain ⟨m, z, rfl, h2, h3, h4⟩ := idxP_ok h
      refine ⟨m + 1, z, by omega, by simpa using h2, h3, fun i u hi hu => ?_⟩
      cases i with
      | zero => cases hu; simpa using hy
      | succ i => exact h4 i u (by omega) (by simpa using hu)
def dIndexD : D → D → R D
  | .lst ds, x => match py x, pys ds with
    | some p, some ps => grd (SeqAt.shaped p && SeqAt.shaped (.list ps)) (match idxP p ps 0 with | some j => .ok (.int (j : Nat)) | none => .bad)
    | _, _ => .bad
  | _, _ => .bad
def idxD (f g : En → R D) : En → R D := fun ρ => bd (f ρ) fun d => match d with | .lst ds => bd (g ρ) fun e => dIndexD (.lst ds) e | _ => .bad
theorem d_indexD (hC : X.K = C.K) (hr : Room kk X.A) (ha : PE X a (tR C f)) (hb : PE X b (tR C g)) (hbase : attributeBase a "index" X.env (eval a X.env) = eval a X.env := by rfl)
    (hfew : ((backTo cpos (starEach [b] X.env)).all (fun x => !x.1) && (backToKw cpos (keywordEach [] X.env)).all (fun x => x.1.isSome)
      && decide (([b] : List Expr).length + ([] : List Keyword).length + (if ([] : List Keyword).isEmpty then 0 else 1) < 30)) = true := by rfl)
    (hline : (apos.endLine == cpos.line) = true := by rfl) (hs : starEach [b] X.env = (false, eval b X.env) :: starEach [] X.env := by rfl) (hplain : (backTo cpos (starEach [] X.env)).any (·.1) = false := by rfl) :
    PE X (.Call (.Attribute a "index" apos) [b] [] cpos) (tO C (idxD f g)) :=
  (pe_bm PySem.F.plainAttrs_list PySem.F.slot_list_index PySem.F.type_list_index (mt_indexD (eu65 hr)) ha (pa_cons hb pa_nil hs) hbase hfew hline hs hplain).mono (by
    rintro σ H Q ⟨ρ, F, rl, o⟩
    rw [hC]
    refine ⟨ρ, F, rl, o.fst fun d v F1 H1 _ o x1 s1 w1 => ?_⟩
    cases d with
    | lst ds =>
      have o := Out.later o x1
      obtain ⟨l, vs, rfl, h1, r1⟩ := w1
      refine ⟨.inl ⟨rfl, _, SqL.of h1⟩, ρ, F1, rl.grow x1 s1, o.fst fun z y F2 H2 _ o x2 s2 w2 => ?_⟩
      have o := Out.later o x2
      have o : Out C σ F2 H2 (fun F' H' => New C.K H F' H') (match py z, pys ds with
        | some p, some ps => grd (SeqAt.shaped p && SeqAt.shaped (.list ps)) (match idxP p ps 0 with | some j => .ok (.int (j : Nat)) | none => .bad)
        | _, _ => .bad) Q := o
      cases hp : py z with
      | none => rw [hp] at o; exact o.elim
      | some p =>
        cases hps : pys ds with
        | none => rw [hp, hps] at o; exact o.elim
        | some ps =>
          rw [hp, hps] at o
          obtain ⟨hf, o⟩ := grd_out o
          rw [Bool.and_eq_true] at hf
          have r2 := r1.mono x2.f
          cases hj : idxP p ps 0 with
          | none => 
            have o' : Out C σ F2 H2 (fun F' H' => New C.K H F' H') (match idxP p ps 0 with | some j => .ok (.int (j : Nat)) | none => .bad) Q := o
            rw [hj] at o'; exact o'.elim
          | some j =>
            have o' : Out C σ F2 H2 (fun F' H' => New C.K H F' H') (match idxP p ps 0 with | some j => .ok (.int (j : Nat)) | none => .bad) Q := o
            rw [hj] at o'
            obtain ⟨m, zz, e, e1, e2, e3⟩ := idxP_ok hj
            rw [Nat.zero_add] at e
            subst e
            exact ⟨l, y, p, ps, j, zz, rfl, rfl, .lst (SqL.of (x2.h _ _ h1)) (Reps.dp s2 r2 hps), View.dp s2 w2 hp, hf.2, hf.1, e1, e2, fun i z' hi hz' => e3 i z' hi hz', fin_flat o' s2 rfl⟩
    | _ => exact o.elim)
end
section
variable {prog : Program} {w : World} {A : Around} {E : Value → Shared → Prop} {s : Shared}
theorem min_default_raw {l : Addr} {its : List Value} {ns : List Int} {d : Value} {Q : Value → Shared → Prop} (hh : A.handled = none) (hl : s.heap.IsList l its.toArray) (hi : IntsAre its ns)
    (h0 : ns = [] → ∀ h' tk, (∀ b o, s.heap.get? b = some o → h'.get? b = some o) → Q d { s with heap := h', toks := tk })
    (h : ∀ h' tk M t', (∀ b o, s.heap.get? b = some o → h'.get? b = some o) → M ∈ ns → (∀ a, a ∈ ns → M ≤ a) → Q (.int M t') { s with heap := h', toks := tk }) :
    wpAny (model prog w) A (call (.builtin "min") [.ref l] [(Str.ofString "default", d)]) Q E s := by
  obtain ⟨xs, e⟩ := hi.allInts.items
  have hn : numsOf (intItems xs).toList = ns := by rw [← e]; exact hi.numsOf
  rw [nums_intItems] at hn
  subst hn
  rw [e] at hl
  have hsz : (intItems xs).size = xs.size := by simp [intItems]
  refine call_min_walkD (PySem.W.iter_listW (A := A.in1) hh hl fun s₂ e W st hfp hw hk => ?_)
  refine ⟨_, _, _, _, _, _, _, s.heap, (fun i j => decide (numAt xs i < numAt xs j)), rfl, W, st, hfp, hw, hk, fun hz s' m => ?_, fun hp => ⟨fun i j vi vj s' Q' E' _ hi hj hq => CmpOf.ints_lt (numAt xs) (fun _ _ => intItems_at) i j vi vj s' Q' E' hi hj hq, fun v s' hP m => ?_⟩⟩
  · obtain ⟨h', tk, rfl, hk'⟩ := PySem.W.moved_old e rfl m
    refine h0 (List.eq_nil_of_length_eq_zero ?_) h' tk hk'
    rw [List.length_map, Array.length_toList]
    omega
  · obtain ⟨h', tk, rfl, hk'⟩ := PySem.W.moved_old e rfl m
    rw [hsz] at hP hp
    obtain ⟨t, rfl⟩ := intItems_at hP
    obtain ⟨h1, h2⟩ := argBest_lt (numAt xs) (xs.size - 1)
    refine h h' tk _ t hk' ?_ fun a ha => ?_
    · rw [numAt_eq]; exact PySem.getD_mem (by rw [List.length_map, Array.length_toList]; omega)
    · obtain ⟨j, hj, rfl⟩ := mem_getD ha
      rw [List.length_map, Array.length_toList] at hj
      rw [← numAt_eq]; exact h2 j (by omega)
end
section
variable {X : Cx} {C : Cd} {a b : Expr} {f g : En → R D} {pos p kpos : Pos} {K : PySem.W.Frag} {F H : Hp}
/-- the least of a list, None of none -/
def minO (ns : List Int) : Option Int := if ns = [] then none else some (mnL ns)
theorem minO_of {ns : List Int} {M : Int} (hm : M ∈ ns) (h : ∀ a, a ∈ ns → M ≤ a) : minO ns = some M := by
  have hn : ns ≠ [] := fun e => by rw [e] at hm; cases hm
  unfold minO
  rw [if_neg hn]
  obtain ⟨h1, h2⟩ := mnL_mem hn
  have := h _ h1
  have := h2 _ hm
  congr 1
  omega
def optV : Option Int → V
  | none => .non
  | some n => .int n
def optR : Option Int → D
  | none => .non
  | some n => .int n
def rMinDef (K : PySem.W.Frag) : List V → List V → Hp → VK → Prop := fun vs zs H Q => ∃ (a : Addr) (ns : List Int), vs = [V.ref a] ∧ zs = [.non] ∧ SqL K H a (ns.map V.int) ∧ Q (optV (minO ns)) H
theorem cr_minDef (hc : X.calm = true) : CallRK X (.builtin "min") [Str.ofString "default"] (rMinDef X.K) := by
  intro pins s σ H vs zs us ws Q I r rz h
  obtain ⟨a, ns, rfl, rfl, hs, q⟩ := h
  obtain rfl := Vals.ref1 r
  obtain ⟨w1, rfl, e1⟩ := vals1 rz
  obtain rfl : w1 = .none := e1
  obtain ⟨its, rv, hl, _⟩ := I.list hs
  refine min_default_raw (I.ok.hd hc) hl.isList rv.ints (fun hn h' tk hk => ?_) fun h' tk m t' hk h1 h2 => ?_
  · subst hn
    exact ⟨.non, H, I.kept hk, rfl, q⟩
  · rw [minO_of h1 h2] at q
    exact ⟨.int _, H, I.kept hk, ⟨_, rfl⟩, q⟩
def dMinDef : D → D → R D
  | .lst ds, .non => match asInts ds with | some ns => .ok (optR (minO ns)) | none => .bad
  | _, _ => .bad
theorem d_minDef (hc : X.calm = true) (hC : X.K = C.K) (hm : X.mg "min" = none) (ha : PE X a (tR C f)) (hb : PE X b (tR C g)) (hg : Gl X "min" := by rfl)
    (hs : starEach [a] X.env = (false, eval a X.env) :: starEach [] X.env := by rfl)
    (he : backTo pos (starEach [a] X.env) = (false, eval a X.env) :: backTo pos (starEach [] X.env) := by rfl) (hpl : (backTo pos (starEach [a] X.env)).any (·.1) = false := by rfl)
    (hall : (backToKw pos (keywordEach [⟨some "default", b, kpos⟩] X.env)).all (·.1.isSome) = true := by rfl) (hnone : (backToKw pos (keywordEach [⟨some "default", b, kpos⟩] X.env)).any (·.1.isNone) = false := by rfl) (hks : (backToKw pos (keywordEach [⟨some "default", b, kpos⟩] X.env)).filterMap (·.1) = [Str.ofString "default"] := by rfl) :
    PE X (.Call (.Name "min" p) [a] [⟨some "default", b, kpos⟩] pos) (tO C (bop f g dMinDef)) :=
  (pe_callBK (hC ▸ cr_minDef hc) hg hm (by decide +kernel) (pa_cons ha pa_nil hs) (pk_cons hb pk_nil) (by decide) (by decide) he hpl hall hnone hks).mono (two (r := fun x y H Q => rMinDef C.K [x] [y] H Q) (by
    intro σ F H Q d e x y o s w1 w2
    unfold dMinDef at o
    split at o
    · obtain ⟨p, vs, rfl, h, r⟩ := w1
      cases w2
      split at o
      · rename_i ns hn
        refine ⟨p, ns, rfl, rfl, by rw [← Reps.asInts r hn]; exact SqL.of h, ?_⟩
        cases hq : minO ns with
        | none => rw [hq] at o; exact fin_flat o s rfl
        | some m => rw [hq] at o; exact fin_flat o s rfl
      · exact o.elim
    · exact o.elim))
theorem minDef_ints {ns : List Int} : dMinDef (.lst (ns.map D.int)) .non = .ok (optR (minO ns)) := by
  show (match asInts (ns.map D.int) with | some ns => R.ok (optR (minO ns)) | none => .bad) = _
  rw [asInts_map]
end
end DL
/-! the D layer: sorted by length -/
namespace DL
open PySem PySem.Spec PyProof.Rows L2
section
variable {X : Cx} {C : Cd} {a : Expr} {f : En → R D} {t : TE} {pos p p2 kpos : Pos} {K : PySem.W.Frag} {F H : Hp} {kk : Nat}
def lenK (b : Nat × V) : Int := b.1
def rSortLen (K : PySem.W.Frag) : V → Hp → VK → Prop := fun x H Q => ∃ (l : Addr) (bs : List (Nat × V)), x = V.ref l ∧ SqL K H l (bs.map (·.2)) ∧ (∀ b ∈ bs, ∃ m ys, b.2 = V.ref m ∧ SqL K H m ys ∧ ys.length = b.1) ∧
  ∀ q, H q = none → Q (.ref q) (upd H q (.lst ((bs.mergeSort fun a b => decide (a.1 ≤ b.1)).map (·.2))))
theorem each_of {s : Shared} {pins : List (Addr × Obj)} {σ : L2.St} (I : Inv X pins σ H s) : ∀ {bs : List (Nat × V)} {its : List Value}, Vals (bs.map (·.2)) its → (∀ b ∈ bs, ∃ m ys, b.2 = V.ref m ∧ SqL X.K H m ys ∧ ys.length = b.1) →
    PySem.W.EachIs (fun (v : Value) (b : Nat × V) => RelV b.2 v ∧ ∃ (m : Addr) (items : Array Value), v = .ref m ∧ s.heap.IsList m items ∧ items.size = b.1 ∧ b.1 ≤ sizeLine) its bs
  | [], its, r, _ => by cases r; exact .nil
  | b :: bs, its, r, h => by
    cases r with
    | cons r rt =>
      refine .cons ⟨r, ?_⟩ (each_of I rt fun b hb => h b (List.mem_cons_of_mem _ hb))
      obtain ⟨m, ys, e, hs, hl⟩ := h b List.mem_cons_self
      obtain ⟨ys', rv, hL, hz⟩ := I.list hs
      have r2 : RelV b.2 _ := r
      rw [e] at r2
      have r2 : _ = Value.ref m := r2
      refine ⟨m, ys'.toArray, r2, hL.isList, ?_, by omega⟩
      rw [List.size_toArray, ← rv.length]
      exact hl
theorem vals_of_each {R : Value → Nat × V → Prop} (hR : ∀ v b, R v b → RelV b.2 v) : ∀ {out : List Value} {bs : List (Nat × V)}, PySem.W.EachIs R out bs → Vals (bs.map (·.2)) out
  | _, _, .nil => .nil
  | _, _, .cons r t => .cons (hR _ _ r) (vals_of_each hR t)
theorem pe_sortLen (hr : Room kk X.A) (hm : X.mg "sorted" = none) (hm2 : X.mg "len" = none) (ha : PE X a t) (hg : Gl X "sorted" := by rfl) (hg2 : Gl X "len" := by rfl)
    (hs : starEach [a] X.env = (false, eval a X.env) :: starEach [] X.env := by rfl)
    (he : backTo pos (starEach [a] X.env) = (false, eval a X.env) :: backTo pos (starEach [] X.env) := by rfl) (hpl : (backTo pos (starEach [a] X.env)).any (·.1) = false := by rfl)
    (hall : (backToKw pos (keywordEach [⟨some "key", .Name "len" p2, kpos⟩] X.env)).all (·.1.isSome) = true := by rfl) (hnone : (backToKw pos (keywordEach [⟨some "key", .Name "len" p2, kpos⟩] X.env)).any (·.1.isNone) = false := by rfl) (hks : (backToKw pos (keywordEach [⟨some "key", .Name "len" p2, kpos⟩] X.env)).filterMap (·.1) = [Str.ofString "key"] := by rfl) :
    PE X (.Call (.Name "sorted" p) [a] [⟨some "key", .Name "len" p2, kpos⟩] pos) (fun σ H Q => t σ H fun x H1 => rSortLen X.K x H1 Q) := by
  refine ⟨fun pins s σ H Q I h => ?_⟩
  refine wpAny_Call_Name_kw (ld_blt (u := .builtin "sorted") I hg hm (by decide +kernel) ?_)
  refine PyProof.Rows.callWith_kw (thn ((pa_cons ha pa_nil hs).run pos pins s σ H (fun vs H1 => match vs with | [x] => rSortLen X.K x H1 Q | _ => False) I h) fun us s1 ⟨vs, H1, I1, r1, q1⟩ => ?_) he hpl hall hnone
  rw [hks]
  show wpAny _ _ (evalAll ((do let v ← eval (.Name "len" p2) X.env; standAt pos; pure v) :: (backToKw pos (keywordEach [] X.env)).map (·.2))) _ _ s1
  refine wpAny_evalAll_cons (wpAny_bind (ld_blt (u := .builtin "len") I1 hg2 hm2 (by decide +kernel) (wpAny_bind (wpAny_standAt (wpAny_pure ?_)))))
  refine wpAny_evalAll_nil ?_
  match vs, r1, q1 with
  | [x], r1, q1 =>
    obtain ⟨l, bs, rfl, hl, hb, q⟩ := q1
    obtain rfl := Vals.ref1 r1
    obtain ⟨its, rv, hL, hz⟩ := I1.list hl
    have hbl : bs.length ≤ sizeLine := by rw [List.length_map] at hz; exact hz
    have hu := eu65 hr
    show wpAny _ _ (call (.builtin "sorted") [.ref l] [(Str.ofString "key", .builtin "len")]) _ _ s1
    refine PySem.W.sorted_key_data (b := false) (fun b : Nat × V => PyData.int (lenK b)) hL.isList (each_of I1 rv hb) (PySem.W.AllAlike.of fun _ _ => by simp [PySem.W.alike]) (PySem.W.Sortable.others fun _ => ⟨by simp, by simp⟩) hbl (fun b _ => by simp only [PyData.depth]; omega) (PyProof.Rows.ksk_s1 _ _) (fun _ => PyProof.Rows.ksk_l1 _ _) (fun _ => PyProof.Rows.ksk_t4 _ _) (fun v b hv _ h tk kp => ?_) fun out c h' tk kp fr hD hol eo => ?_
    · obtain ⟨_, m, items, rfl, hI, hsz, hzz⟩ := hv
      obtain ⟨o, ho, hc, n, hd⟩ := hI
      have hsl := sizeLine_eq
      refine PySem.Calls.call_len_list (items := items) ⟨o, kp _ _ ho, hc, n, hd⟩ (by rw [hsl] at hzz; omega) ?_
      exact ⟨h, _, rfl, fun _ _ e => e, by rw [show (items.size : Int) = lenK b by unfold lenK; rw [hsz]]; exact .int _ _⟩
    · rw [PySem.W.dataLe_int] at eo
      have hv := vals_of_each (fun v b h => h.1) eo
      have hlen : ((bs.mergeSort fun a b => decide (lenK a ≤ lenK b)).map (·.2)).length ≤ sizeLine := by rw [List.length_map, List.length_mergeSort]; exact hbl
      have hle : (bs.mergeSort fun a b => decide (lenK a ≤ lenK b)) = bs.mergeSort fun a b => decide (a.1 ≤ b.1) := by
        congr 1
        funext a b
        unfold lenK
        rw [decide_eq_decide]
        omega
      rw [hle] at hv hlen
      exact ⟨.ref _, upd H1 (s1.heap.objs.size + 1) (.lst ((bs.mergeSort fun a b => decide (a.1 ≤ b.1)).map (·.2))), I1.laid (t' := tk) kp (Nat.le_succ _) ⟨hlen, _, c, hv, hD⟩, rfl, q _ (I1.hok.fresh (Nat.le_succ _))⟩
def dSortL1 : D → R D
  | .lst ds => grd (ds.all isLst) (.ok (.lst (ds.mergeSort fun a b => decide (lenL a ≤ lenL b))))
  | _ => .bad
theorem reps_zip2 : ∀ {ps : List (D × V)}, (∀ p ∈ ps, Rep K F p.1 p.2) → Reps K F (ps.map (·.1)) (ps.map (·.2))
  | [], _ => .nil
  | p :: ps, h => .cons (h p List.mem_cons_self) (reps_zip2 fun q hq => h q (List.mem_cons_of_mem _ hq))
theorem zip_reps : ∀ {ds : List D} {vs : List V}, Reps K F ds vs → (ds.zip vs).map (·.1) = ds ∧ (ds.zip vs).map (·.2) = vs ∧ ∀ p ∈ ds.zip vs, Rep K F p.1 p.2
  | _, _, .nil => ⟨rfl, rfl, fun _ h => by cases h⟩
  | _, _, .cons (d := d) (v := v) r t => by
    obtain ⟨h1, h2, h3⟩ := zip_reps t
    refine ⟨?_, ?_, fun p hp => ?_⟩
    · rw [List.zip_cons_cons, List.map_cons, h1]
    · rw [List.zip_cons_cons, List.map_cons, h2]
    · rw [List.zip_cons_cons] at hp
      rcases List.mem_cons.mp hp with rfl | hp
      · exact r
      · exact h3 p hp
theorem d_sortLen (hr : Room kk X.A) (hC : X.K = C.K) (hm : X.mg "sorted" = none) (hm2 : X.mg "len" = none) (ha : PE X a (tR C f)) (hg : Gl X "sorted" := by rfl) (hg2 : Gl X "len" := by rfl)
    (hs : starEach [a] X.env = (false, eval a X.env) :: starEach [] X.env := by rfl)
    (he : backTo pos (starEach [a] X.env) = (false, eval a X.env) :: backTo pos (starEach [] X.env) := by rfl) (hpl : (backTo pos (starEach [a] X.env)).any (·.1) = false := by rfl)
    (hall : (backToKw pos (keywordEach [⟨some "key", .Name "len" p2, kpos⟩] X.env)).all (·.1.isSome) = true := by rfl) (hnone : (backToKw pos (keywordEach [⟨some "key", .Name "len" p2, kpos⟩] X.env)).any (·.1.isNone) = false := by rfl) (hks : (backToKw pos (keywordEach [⟨some "key", .Name "len" p2, kpos⟩] X.env)).filterMap (·.1) = [Str.ofString "key"] := by rfl) :
    PE X (.Call (.Name "sorted" p) [a] [⟨some "key", .Name "len" p2, kpos⟩] pos) (tO C (uop f dSortL1)) :=
  (pe_sortLen hr hm hm2 ha hg hg2 hs he hpl hall hnone hks).mono (one (r := rSortLen X.K) (by
    intro σ F H Q d x o s w
    rw [hC]
    unfold dSortL1 at o
    split at o
    · rename_i ds
      obtain ⟨q, vs, rfl, h1, r1⟩ := w
      obtain ⟨hl, o⟩ := grd_out o
      obtain ⟨z1, z2, z3⟩ := zip_reps r1
      have e0 : ((ds.zip vs).map fun p => (lenL p.1, p.2)).map (·.2) = vs := by rw [List.map_map]; exact z2
      have em : ((ds.zip vs).map fun p => (lenL p.1, p.2)).mergeSort (fun a b => decide (a.1 ≤ b.1)) = ((ds.zip vs).mergeSort fun a b => decide (lenL a.1 ≤ lenL b.1)).map fun p => (lenL p.1, p.2) := (List.map_mergeSort (f := fun p : D × V => (lenL p.1, p.2)) (r := fun a b => decide (lenL a.1 ≤ lenL b.1)) (s := fun a b => decide (a.1 ≤ b.1)) fun _ _ _ _ => rfl).symm
      have ed : ds.mergeSort (fun a b => decide (lenL a ≤ lenL b)) = ((ds.zip vs).mergeSort fun a b => decide (lenL a.1 ≤ lenL b.1)).map (·.1) := by
        conv => lhs; rw [← z1]
        exact (List.map_mergeSort (f := fun p : D × V => p.1) (r := fun a b => decide (lenL a.1 ≤ lenL b.1)) (s := fun a b => decide (lenL a ≤ lenL b)) fun _ _ _ _ => rfl).symm
      refine ⟨q, (ds.zip vs).map fun p => (lenL p.1, p.2), rfl, by rw [e0]; exact SqL.of h1, fun b hb => ?_, fun p hp => ?_⟩
      · obtain ⟨⟨d, v⟩, hp, rfl⟩ := List.mem_map.mp hb
        have hd : isLst d = true := List.all_eq_true.mp hl d (List.of_mem_zip hp).1
        have hw := z3 _ hp
        cases d with
        | lst es =>
          cases hw with
          | lst ha rr => exact ⟨_, _, rfl, SqL.of (s _ _ ha), rr.length⟩
        | _ => cases hd
      · rw [em, List.map_map]
        rw [ed] at o
        exact fin_lst o s (Same.refl _) (reps_zip2 fun p hp => z3 p (List.mem_mergeSort.mp hp)) hp
    · exact o.elim))
end
end DL
/-! the D layer: texts cut in parts, numbers read out of texts -/
namespace DL
open PySem PySem.Spec PyProof.Rows L2
section
variable {X : Cx} {C : Cd} {e a b c tg : Expr} {f g k : En → R D} {pos p p1 apos cpos : Pos} {kk : Nat} {es : List Expr} {fs : En → R (List D)}
/-- a text of these signs -/
def ofL (l : List Nat) : Str := ⟨l.toArray⟩
/-- x.split(y) -/
def splitL (x y : Str) : List Str := (TL.spl (TL.tl y) 0 [] (TL.tl x)).map ofL
def dSplit (x : Str) : D → R D
  | .str y => grd (decide (0 < y.length) && y.cps.all (· < 256) && decide (x.length + 2 ≤ sizeLine)) (.ok (.lst ((splitL x y).map .str)))
  | _ => .bad
/-- a method of a text -/
def txop (f g : En → R D) (w : Str → D → R D) : En → R D := fun ρ => bd (f ρ) fun d => match d with
  | .str z => bd (g ρ) (w z)
  | _ => .bad
theorem splitL_eq {x y : Str} (h1 : 0 < y.length) (h2 : y.cps.all (· < 256) = true) : Txt.split x y = splitL x y := by
  refine TL.map_tl_inj ?_
  have hy : TL.tl y ≠ [] := fun e => by rw [TL.len_tl, e] at h1; exact absurd h1 (Nat.lt_irrefl 0)
  rw [TL.split_spl x y hy (TL.kind_ok h2)]
  unfold splitL
  rw [List.map_map]
  have : (TL.tl ∘ ofL) = id := rfl
  rw [this, List.map_id]
theorem d_split (ha : PE X a (tR C f)) (hb : PE X b (tR C g)) (hs : starEach [b] X.env = [(false, eval b X.env)] := by rfl) (hbase : attributeBase a "split" X.env (eval a X.env) = eval a X.env := by rfl) (hline : (apos.endLine == pos.line) = true := by rfl) :
    PE X (.Call (.Attribute a "split" apos) [b] [] pos) (tO C (txop f g dSplit)) := (pe_split ha hb hs hbase hline).mono fun σ H Q ⟨ρ, F, rl, o⟩ => by
  unfold txop at o
  refine ⟨ρ, F, rl, o.fst fun d v F1 H1 _ o x1 s1 w1 => ?_⟩
  cases d with
  | str x =>
    obtain rfl : v = V.str _ := w1
    have o : Out C σ F H (fun F' H' => New C.K H F' H') (bd (g ρ) (dSplit x)) Q := o
    have o := Out.later o x1
    refine ⟨⟨x, rfl⟩, ρ, F1, rl.grow x1 s1, o.fst fun e y F2 H2 _ o x2 s2 w2 => ?_⟩
    have o := (Out.later o x2).newer (x1.h.trans x2.h)
    cases e with
    | str z =>
      obtain rfl : y = V.str _ := w2
      obtain ⟨hz, o⟩ := grd_out (c := decide (0 < z.length) && z.cps.all (· < 256) && decide (x.length + 2 ≤ sizeLine)) o
      rw [Bool.and_eq_true, Bool.and_eq_true] at hz
      have h1 := of_decide_eq_true hz.1.1
      refine ⟨x, z, rfl, rfl, ?_, of_decide_eq_true hz.2, fun q hq => ?_⟩
      · rw [beq_eq_false_iff_ne]; omega
      · rw [splitL_eq h1 hz.1.2]
        exact fin_lst o s2 (Same.refl _) (Reps.of_strs _) hq
    | _ => exact o.elim
  | _ => exact False.elim o
/-- x.partition(y) -/
def partL (x y : Str) : Str × Str × Str := match TL.par (TL.tl y) [] (TL.tl x) with
  | some (u, v) => (ofL u, y, ofL v)
  | none => (x, Str.empty, Str.empty)
def dPart (x : Str) : D → R D
  | .str y => grd (decide (0 < y.length) && decide (x.length ≤ sizeLine)) (.ok (.tup [.str (partL x y).1, .str (partL x y).2.1, .str (partL x y).2.2]))
  | _ => .bad
theorem partL_eq {x y : Str} (h1 : 0 < y.length) : Txt.partition x y = partL x y := by
  have hy : TL.tl y ≠ [] := fun e => by rw [TL.len_tl, e] at h1; exact absurd h1 (Nat.lt_irrefl 0)
  rw [TL.partition_par x y hy]
  unfold partL
  cases TL.par (TL.tl y) [] (TL.tl x) with
  | none => rfl
  | some u => rfl
theorem d_partition (ha : PE X a (tR C f)) (hb : PE X b (tR C g)) (hs : starEach [b] X.env = [(false, eval b X.env)] := by rfl) (hbase : attributeBase a "partition" X.env (eval a X.env) = eval a X.env := by rfl) (hline : (apos.endLine == pos.line) = true := by rfl) :
    PE X (.Call (.Attribute a "partition" apos) [b] [] pos) (tO C (txop f g dPart)) := (pe_partition ha hb hs hbase hline).mono fun σ H Q ⟨ρ, F, rl, o⟩ => by
  unfold txop at o
  refine ⟨ρ, F, rl, o.fst fun d v F1 H1 _ o x1 s1 w1 => ?_⟩
  cases d with
  | str x =>
    obtain rfl : v = V.str _ := w1
    have o : Out C σ F H (fun F' H' => New C.K H F' H') (bd (g ρ) (dPart x)) Q := o
    have o := Out.later o x1
    refine ⟨⟨x, rfl⟩, ρ, F1, rl.grow x1 s1, o.fst fun e y F2 H2 _ o x2 s2 w2 => ?_⟩
    have o := (Out.later o x2).newer (x1.h.trans x2.h)
    cases e with
    | str z =>
      obtain rfl : y = V.str _ := w2
      obtain ⟨hz, o⟩ := grd_out (c := decide (0 < z.length) && decide (x.length ≤ sizeLine)) o
      rw [Bool.and_eq_true] at hz
      have h1 := of_decide_eq_true hz.1
      refine ⟨x, z, rfl, rfl, ?_, of_decide_eq_true hz.2, fun q hq => ?_⟩
      · rw [beq_eq_false_iff_ne]; omega
      · rw [partL_eq h1]
        exact fin_tup o s2 (.cons (.str _) (.cons (.str _) (.cons (.str _) .nil))) hq
    | _ => exact o.elim
  | _ => exact False.elim o
/-- int(x) of a text -/
def isDig (l : List Nat) : Bool := !l.isEmpty && l.all fun c => decide (48 ≤ c) && decide (c ≤ 57)
def dIntT : List D → R D
  | [.str x] => grd (isDig (TL.tl x) && decide (x.length ≤ 640)) (.ok (.int ((NumText.digitsVal (TL.tl x) : Nat) : Int)))
  | ds => dIntB ds
theorem isDig_ok {l : List Nat} (h : isDig l = true) : l ≠ [] ∧ NumText.AllDigits l := by
  unfold isDig at h
  rw [Bool.and_eq_true, List.all_eq_true] at h
  refine ⟨fun e => by rw [e] at h; exact absurd h.1 Bool.false_ne_true, fun c hc => ?_⟩
  have := h.2 c hc
  rw [Bool.and_eq_true] at this
  exact ⟨of_decide_eq_true this.1, of_decide_eq_true this.2⟩
theorem isDig_of {l : List Nat} (h : l ≠ []) (h2 : ∀ c ∈ l, 48 ≤ c ∧ c ≤ 57) : isDig l = true := by
  unfold isDig
  rw [Bool.and_eq_true, List.all_eq_true]
  refine ⟨by cases l with | nil => exact absurd rfl h | cons => rfl, fun c hc => ?_⟩
  rw [decide_eq_true (h2 c hc).1, decide_eq_true (h2 c hc).2]; rfl
theorem intT_ok : OpL C (fun xs H Q => (∃ x n, xs = [.str x] ∧ intText? x = some n ∧ x.length ≤ 640 ∧ Q (.int n) H) ∨ ((∃ i, xs = [.int i] ∧ Q (.int i) H) ∨ ∃ k, xs = [.bl k] ∧ Q (.int (if k then 1 else 0)) H)) dIntT := by
  intro σ F H Q ds vs o s w
  unfold dIntT at o
  split at o
  · rename_i x
    obtain ⟨v, rfl, h⟩ := w.one
    cases h
    obtain ⟨hz, o⟩ := grd_out o
    rw [Bool.and_eq_true] at hz
    obtain ⟨h1, h2⟩ := isDig_ok hz.1
    have h3 := of_decide_eq_true hz.2
    exact .inl ⟨x, _, rfl, intText_digits h2 h1 (by omega), h3, fin_flat o s rfl⟩
  · exact .inr (intB_ok σ F H Q ds vs o s w)
theorem call_intT : CallR X (.type "int") (fun xs H Q => (∃ x n, xs = [.str x] ∧ intText? x = some n ∧ x.length ≤ 640 ∧ Q (.int n) H) ∨ ((∃ i, xs = [.int i] ∧ Q (.int i) H) ∨ ∃ k, xs = [.bl k] ∧ Q (.int (if k then 1 else 0)) H)) := CallR.or call_int_str call_int1
theorem d_intT (hm : X.mg "int" = none) (ha : PA X (e :: es) (tV C fs)) (hg : Gl X "int" := by rfl)
    (he : starEach (e :: es) X.env = (false, eval e X.env) :: starEach es X.env := by rfl) (hpl : (backTo pos (starEach es X.env)).any (·.1) = false := by rfl) : PE X (.Call (.Name "int" p) (e :: es) [] pos) (tO C (nop fs dIntT)) :=
  d_callTy call_intT intT_ok hm (by decide +kernel) ha hg (by decide) (by decide) he hpl
end
/-! evaluation -/
section
variable {f g : En → R D} {ρ : En} {x y : Str} {e : D} {w : Str → D → R D}
def txK (a b : R D) (w : Str → D → R D) : R D := bd a fun d => match d with
  | .str z => bd b (w z)
  | _ => .bad
theorem ap_txop : txop f g w ρ = txK (f ρ) (g ρ) w := rfl
theorem tx_ok : txK (.ok (.str x)) (.ok e) w = w x e := rfl
theorem ap_jopS : jop f g ρ = txK (f ρ) (g ρ) dJoin := rfl
theorem split_ok (h1 : 0 < y.length) (h2 : y.cps.all (· < 256) = true) (h3 : x.length ≤ 16000000) : dSplit x (.str y) = .ok (.lst ((splitL x y).map .str)) := by
  show grd (decide (0 < y.length) && y.cps.all (· < 256) && decide (x.length + 2 ≤ sizeLine)) _ = _
  rw [decide_eq_true h1, h2, decide_eq_true (show x.length + 2 ≤ sizeLine by rw [sizeLine_eq]; omega)]
  rfl
theorem part_ok (h1 : 0 < y.length) (h3 : x.length ≤ 16000000) : dPart x (.str y) = .ok (.tup [.str (partL x y).1, .str (partL x y).2.1, .str (partL x y).2.2]) := by
  show grd (decide (0 < y.length) && decide (x.length ≤ sizeLine)) _ = _
  rw [decide_eq_true h1, decide_eq_true (show x.length ≤ sizeLine by rw [sizeLine_eq]; omega)]
  rfl
theorem ofL_tl (x : Str) : ofL (TL.tl x) = x := TL.ext_tl rfl
/-- a joined text, split -/
theorem split_join {s : Nat} {S : List Nat} (ey : TL.tl y = s :: S) {parts : List Str} (hne : parts ≠ []) (hp : ∀ p ∈ parts, s ∉ TL.tl p) : splitL (Str.join y parts) y = parts := by
  unfold splitL
  rw [TL.tl_join, ey, TL.spl_join (fun e => hne (List.map_eq_nil_iff.mp e)) fun p h => by
    obtain ⟨z, hz, rfl⟩ := List.mem_map.mp h
    exact hp z hz]
  rw [List.map_map]
  have : (ofL ∘ TL.tl) = id := funext ofL_tl
  rw [this, List.map_id]
theorem part_app {s : Nat} {S : List Nat} (ey : TL.tl y = s :: S) {a b : Str} (h : s ∉ TL.tl a) : partL (a ++ y ++ b) y = (a, y, b) := by
  unfold partL
  rw [TL.tl_append, TL.tl_append, List.append_assoc, ey, TL.par_part1 h]
  show (ofL ([] ++ TL.tl a), y, ofL (TL.tl b)) = _
  rw [List.nil_append, ofL_tl, ofL_tl]
theorem part_no {s : Nat} {S : List Nat} (ey : TL.tl y = s :: S) {a : Str} (h : s ∉ TL.tl a) : partL a y = (a, Str.empty, Str.empty) := by
  unfold partL
  rw [ey, TL.par_none1 h]
theorem intT_str (h1 : isDig (TL.tl x) = true) (h2 : x.length ≤ 640) : dIntT [.str x] = .ok (.int ((NumText.digitsVal (TL.tl x) : Nat) : Int)) := by
  show grd (isDig (TL.tl x) && decide (x.length ≤ 640)) _ = _
  rw [h1, decide_eq_true h2]
  rfl
end
end DL
/-! the D layer: what is raised, and what is caught -/
namespace DL
open PySem PySem.Spec PyProof.Rows L2
/-- the class that a global name holds -/
def clsOf (K : PySem.W.Frag) (c : Str) : Addr := match PySem.W.nsIn K mainGlobals c with
  | some (some (.ref C)) => C
  | _ => 0
abbrev veB : List Value := [.type "ValueError", .type "Exception", .type "BaseException", .type "object"]
/-- what the text says of an exception class of its own -/
structure ExcT (K : PySem.W.Frag) (mg : Str → Option Value) (c : Str) : Prop where
  n : PySem.W.nsIn K mainGlobals c = some (some (.ref (clsOf K c)))
  g : mg c = some (.ref (clsOf K c))
  x : PySem.W.excIn K (clsOf K c) veB "ValueError.__new__" = true
  k : PySem.W.keepIn K (.ref (clsOf K c)) = true
  s : PySem.W.subIn K (.ref (clsOf K c)) (.type "BaseException") = some true
  t : PySem.W.typeIn K (.ref (clsOf K c)) = some (.type "type")
theorem clsOf_eq {K : PySem.W.Frag} {c : Str} {C : Addr} (h : PySem.W.nsIn K mainGlobals c = some (some (.ref C))) : clsOf K c = C := by unfold clsOf; rw [h]
theorem ExcT.of {K : PySem.W.Frag} {mg : Str → Option Value} {c : Str} {C : Addr} (n : PySem.W.nsIn K mainGlobals c = some (some (.ref C))) (g : mg c = some (.ref C)) (x : PySem.W.excIn K C veB "ValueError.__new__" = true) (k : PySem.W.keepIn K (.ref C) = true)
    (s : PySem.W.subIn K (.ref C) (.type "BaseException") = some true) (t : PySem.W.typeIn K (.ref C) = some (.type "type")) : ExcT K mg c := by
  have e := clsOf_eq n
  subst e
  exact ⟨n, g, x, k, s, t⟩
theorem passN {X : Cx} : Passes CX0 X (fun _ _ _ => True) := fun _ _ _ _ _ _ _ h => False.elim h
section
variable {X : Cx} {C : Cd} {W : WX} {e a b : Expr} {f g : En → R D} {fs : En → R (List D)} {es : List Expr} {pos p p1 p2 : Pos} {kk : Nat} {fa : Addr} {fd : FuncData} {ps : List Str} {x : Str} {cls : Str → Addr} {n : Nat} {den : Den}
/-! ### raise -/
def sRaise (c : Str) : En → R Fl := fun _ => .err c
theorem s_raise {c m : Str} {j : Nat} (hc : X.calm = true) (tk : Takes X W) (T : ExcT X.K X.mg c) (hW : ∀ σ H, C.XW c σ H → W (.ref (clsOf X.K c)) none σ H) (hg : Gl X c := by rfl) (hdb : (c == ("__debug__" : Str)) = false := by decide) :
    PS X (.Raise (some (.Call (.Name c p) [.Constant (.str m) j p2] [] p1)) none pos) (tS C (sRaise c)) :=
  (ps_raise hc tk (pmk_own F.excBase_ValueError T.x T.g T.k (raises_own T.s T.t) hg hdb)).mono fun D σ H ⟨ρ, F, r, q⟩ => hW σ H (q ρ σ F H r)
/-! ### calls of what may raise -/
theorem callES_ok (hXW : ∀ c σ H, C.XW c σ H → W (.ref (cls c)) none σ H) (hn : ∀ ds, den ds ≠ .bad → ds.length = n) : ∀ σ H Q, tE C (fun ρ => bd (fs ρ) (callE den)) σ H Q → tCallS (spD C.K cls n den) (WE W) (tA C fs) σ H Q := by
  rintro σ H Q ⟨ρ, F, r, q⟩
  refine out_args r q fun ds vs F' H' hd q x s rp => ?_
  unfold callE at q
  have hnb : den ds ≠ .bad := fun z => by rw [z] at q; exact q
  refine ⟨by rw [rp.length]; exact hn ds hnb, F', ds, s, rp, ?_⟩
  cases hden : den ds with
  | bad => exact hnb hden
  | err c => rw [hden] at q; exact fun F2 H2 x2 s2 => hXW c σ H2 (q F2 H2 x2 s2)
  | ok z =>
    rw [hden] at q
    obtain ⟨o, d⟩ := z
    intro v F2 H2 x2 s2 w
    cases o with
    | false => exact q v F2 H2 x2 s2 (by simpa using w)
    | true =>
      have w' : New C.K H' F2 H2 d v := by simpa using w
      obtain ⟨F3, x3, _, s3, w3⟩ := w'.rep s2 x2
      exact q v F3 H2 x3 s3 w3
theorem callOS_ok (hXW : ∀ c σ H, C.XW c σ H → W (.ref (cls c)) none σ H) (hn : ∀ ds, den ds ≠ .bad → ds.length = n) : ∀ σ H Q, tO C (fun ρ => bd (fs ρ) (callO den)) σ H Q → tCallS (spD C.K cls n den) (WE W) (tA C fs) σ H Q := by
  rintro σ H Q ⟨ρ, F, r, q⟩
  refine out_args r q fun ds vs F' H' hd q x s rp => ?_
  unfold callO at q
  have hnb : den ds ≠ .bad := fun z => by rw [z] at q; exact q
  refine ⟨by rw [rp.length]; exact hn ds hnb, F', ds, s, rp, ?_⟩
  cases hden : den ds with
  | bad => exact hnb hden
  | err c => rw [hden] at q; exact fun F2 H2 x2 s2 => hXW c σ H2 (q F2 H2 x2 s2)
  | ok z =>
    rw [hden] at q
    obtain ⟨o, d⟩ := z
    intro v F2 H2 x2 s2 w
    have q' : Out C σ F' H' (fun F' H' => New C.K H F' H') (grd (o || !isC d) (.ok d)) Q := q
    obtain ⟨ho, q2⟩ := grd_out q'
    cases o with
    | false => exact q2 v F2 H2 x2 s2 (New.of_rep (by simpa using ho) (by simpa using w))
    | true => exact q2 v F2 H2 x2 s2 (New.later x.h (by simpa using w))
theorem d_callEX (Fo : FnOk X.prog X.w X.K X.mg X.base (L2.CX X.prog X.w) kk fa fd ps (spD C.K cls n den)) (hn : ∀ ds, den ds ≠ .bad → ds.length = n) (hr : Room kk X.A) (hm : X.mg x = some (.ref fa)) (hk : PySem.W.keepIn X.K (.ref fa) = true) (hb : Binds X.K fd ps []) (tk : Takes X W) (hXW : ∀ c σ H, C.XW c σ H → W (.ref (cls c)) none σ H)
    (ha : PA X (e :: es) (tA C fs)) (hg : Gl X x := by rfl) (hdb : (x == ("__debug__" : Str)) = false := by decide) (he : starEach (e :: es) X.env = (false, eval e X.env) :: starEach es X.env := by rfl) (hpl : (backTo pos (starEach es X.env)).any (·.1) = false := by rfl) :
    PE X (.Call (.Name x p) (e :: es) [] pos) (tE C (nop fs (callE den))) := (pe_callS Fo hr hg hm hk hb (passAt tk) ha hdb he hpl).mono (callES_ok hXW hn)
theorem d_callOX (Fo : FnOk X.prog X.w X.K X.mg X.base (L2.CX X.prog X.w) kk fa fd ps (spD C.K cls n den)) (hn : ∀ ds, den ds ≠ .bad → ds.length = n) (hr : Room kk X.A) (hm : X.mg x = some (.ref fa)) (hk : PySem.W.keepIn X.K (.ref fa) = true) (hb : Binds X.K fd ps []) (tk : Takes X W) (hXW : ∀ c σ H, C.XW c σ H → W (.ref (cls c)) none σ H)
    (ha : PA X (e :: es) (tA C fs)) (hg : Gl X x := by rfl) (hdb : (x == ("__debug__" : Str)) = false := by decide) (he : starEach (e :: es) X.env = (false, eval e X.env) :: starEach es X.env := by rfl) (hpl : (backTo pos (starEach es X.env)).any (·.1) = false := by rfl) :
    PE X (.Call (.Name x p) (e :: es) [] pos) (tO C (nop fs (callO den))) := (pe_callS Fo hr hg hm hk hb (passAt tk) ha hdb he hpl).mono (callOS_ok hXW hn)
end
/-! ### defs that may raise -/
theorem ok_defX {P : Program} {w : World} {K : PySem.W.Frag} {mg : Str → Option Value} {base : Heap} {x qual : Str} {fs : Stmt} {fa : Addr} {fd : FuncData} {N ps : List Str} {k : Nat} {cls : Str → Addr} {g : En → R Fl} (Fn : Fun K x qual fs fa fd) (S : FnScope N ps (defScope fs))
    (hb : ∀ (cdv : Value) (A : Around) (outer : List Env) (s : Shared) (H : Hp) (E : XK) (F0 : Hp), Room k (A.deeper (envOfC qual (defScope fs) s.heap.objs.size fa cdv)) → Takes (cxOf (L2.CX P w) P w K mg base N qual (defScope fs) fa cdv A outer s H E) (fun c d _ H => E c d H) →
      PSs (cxOf (L2.CX P w) P w K mg base N qual (defScope fs) fa cdv A outer s H E) (defBody fs) (tS ⟨K, F0, H, fun c _ H' => E (.ref (cls c)) none H', fun _ => none, []⟩ g)) :
    FnOk P w K mg base (L2.CX P w) (k + 1) fa fd ps (spD K cls ps.length (bodyD ps.length N.length g)) := by
  refine Fn.okX S (fun vs H Q E h => h.1) (fun cdv A outer s H vs Q E hr h => ?_)
  obtain ⟨hl, F, ds, sf, r, q⟩ := h
  refine ⟨_, hb cdv A outer s H E F hr (takes_of rfl rfl rfl rfl), args N.length ds, F, args_rel sf r, ?_⟩
  unfold bodyD at q
  rw [if_pos (by rw [← r.length]; exact hl)] at q
  cases hgg : g (args N.length ds) with
  | bad => rw [hgg] at q; exact q.elim
  | err c => rw [hgg] at q; exact fun ρ σ F' H' r' => q F' H' r'.ext r'.sub
  | ok fl =>
    rw [hgg] at q
    cases fl with
    | next ρ' => exact fun σ' F' H' s' r' => q .non F' H' r'.ext r'.sub .non
    | ret o d => exact fun v F' H' x s' w => q v F' H' x s' (RetV.of rfl w)
    | brk ρ' => exact q.elim
    | cont ρ' => exact q.elim
/-! ### try -/
/-- what is wished of an exception, at the slots -/
def Cd.wx (C : Cd) (W : WX) : Cd := { C with XW := fun c σ H => W (.ref (clsOf C.K c)) none σ H }
theorem Rel.wx {C : Cd} {W : WX} {ρ : En} {σ : L2.St} {F H : Hp} (r : Rel C ρ σ F H) : Rel (C.wx W) ρ σ F H := ⟨r.ext, r.sub, r.len, r.slot, r.ownF, r.apartF, r.lend⟩
/-- what becomes of an error: the clauses by the class, in their order -/
def catchD (tbl : List (Str × Nat)) (hs : List (En → R Fl)) (c : Str) (ρ : En) : R Fl := match tbl.lookup c with
  | some i => match hs[i]? with
    | some h => h ρ
    | none => .err c
  | none => .bad
/-- try: one statement that reads f and goes on with k; except ..: .. -/
def sTryE (f : En → R D) (k : D → En → R Fl) (tbl : List (Str × Nat)) (hs : List (En → R Fl)) : En → R Fl := fun ρ => match f ρ with
  | .ok d => k d ρ
  | .err c => catchD tbl hs c ρ
  | .bad => .bad
/-- the clauses -/
inductive HdsD (X : Cx) (C : Cd) : List ExceptHandler → List (Value × (Addr → Value → Option Addr → TS)) → List (En → R Fl) → Prop
  | nil : HdsD X C [] [] []
  | cons {x : Str} {c : Addr} {h : En → R Fl} {b₀ : Stmt} {suite : List Stmt} {np pos' : Pos} {hds : List ExceptHandler} {l : List (Value × (Addr → Value → Option Addr → TS))} {hs : List (En → R Fl)} (hc : Names X x (.ref c))
      (hsu : ∀ (a : Addr) (pn : List (Addr × Obj)), PSs (X.suite a pn) (b₀ :: suite) (tS C h)) (r : HdsD X C hds l hs) :
      HdsD X C (.ExceptHandler (some (.Name x np)) none (b₀ :: suite) pos' :: hds) ((.ref c, fun _ _ _ => tS C h) :: l) (h :: hs)
theorem HdsD.ok {X : Cx} {C : Cd} {hds : List ExceptHandler} {l : List (Value × (Addr → Value → Option Addr → TS))} {hs : List (En → R Fl)} (h : HdsD X C hds l hs) : HdsOk X hds l := by
  induction h with
  | nil => exact .nil
  | cons hc hsu _ ih => exact .cons hc (fun a oe cls d pn _ _ => hsu a ((a, oe) :: pn)) ih
/-- the table tells of each class which clause takes it -/
def takenBy (K : PySem.W.Frag) (c : Str) : List (Value × (Addr → Value → Option Addr → TS)) → Nat → Prop
  | [], _ => True
  | (v, _) :: _, 0 => PySem.W.exmOne K (.ref (clsOf K c)) v = some true
  | (v, _) :: l, i + 1 => PySem.W.exmOne K (.ref (clsOf K c)) v = some false ∧ takenBy K c l i
theorem many_ok {X : Cx} {C : Cd} {Wout : WX} (hK : X.K = C.K) (hout : ∀ c σ H, C.XW c σ H → Wout (.ref (clsOf C.K c)) none σ H) {hds : List ExceptHandler} {l : List (Value × (Addr → Value → Option Addr → TS))} {hs : List (En → R Fl)} (hd : HdsD X C hds l hs) :
    ∀ (i : Nat) {c : Str} {T : Ends} {σ : L2.St} {F H : Hp} {ρ : En}, Rel C ρ σ F H → takenBy C.K c l i → Post C T F (match hs[i]? with | some h => h ρ | none => .err c) → wMany X.K Wout T l (.ref (clsOf C.K c)) none σ H := by
  induction hd with
  | nil => exact fun i c T σ F H ρ r _ q => hout c σ H (q ρ σ F H r)
  | @cons x cc h b₀ suite np pos' hds l hs hc hsu _ ih =>
    intro i c T σ F H ρ r tb q
    rw [hK]
    cases i with
    | zero => exact ⟨true, tb, fun _ a _ => ⟨ρ, F, r, q⟩, fun z => by cases z⟩
    | succ i =>
      refine ⟨false, tb.1, (fun z => by cases z), fun _ => ?_⟩
      have := ih i r tb.2 q
      rw [hK] at this
      exact this
section
variable {X : Cx} {C : Cd} {e : Expr} {f : En → R D} {pos pos1 : Pos} {h₀ : ExceptHandler} {hds : List ExceptHandler} {l : List (Value × (Addr → Value → Option Addr → TS))} {hs : List (En → R Fl)} {tbl : List (Str × Nat)} {Wout : WX}
/-- what the body's expression reads, where its errors are caught -/
theorem try_out {W : WX} {T : Ends} {σ : L2.St} {F H : Hp} {ρ : En} {P : Hp → Hp → D → V → Prop} {k : D → En → R Fl} {Q : VK} (r : Rel C ρ σ F H) (q : Post C T F (sTryE f k tbl hs ρ))
    (hok : ∀ d v F' H', Post C T F' (k d ρ) → Ext F H F' H' → Same F' H' → Rel C ρ σ F' H' → P F' H' d v → Q v H')
    (herr : ∀ c i F' H', tbl.lookup c = some i → Rel C ρ σ F' H' → Post C T F' (match hs[i]? with | some h => h ρ | none => .err c) → W (.ref (clsOf C.K c)) none σ H') : Out (C.wx W) σ F H P (f ρ) Q := by
  unfold sTryE at q
  cases hf : f ρ with
  | bad => rw [hf] at q; exact q.elim
  | ok d => rw [hf] at q; exact fun v F' H' x s w => hok d v F' H' (Post.up q x.f) x s (r.grow x s) w
  | err c =>
    rw [hf] at q
    have q : Post C T F (catchD tbl hs c ρ) := q
    unfold catchD at q
    cases ht : tbl.lookup c with
    | none => rw [ht] at q; exact q.elim
    | some i =>
      rw [ht] at q
      exact fun F' H' x s => herr c i F' H' ht (r.grow x s) (Post.up q x.f)
theorem s_tryDrop (hst : X.stack = X.env :: X.outer) (hfr : X.env.frame = some X.env.locals) (tk : Takes X Wout) (hK : X.K = C.K) (hout : ∀ c σ H, C.XW c σ H → Wout (.ref (clsOf C.K c)) none σ H)
    (he : ∀ (W : WX) (pn : List (Addr × Obj)) (xe : Value → Shared → Prop), Takes (X.tr pn xe) W → PE (X.tr pn xe) e (tR (C.wx W) f)) (hd : HdsD X C (h₀ :: hds) l hs) (htb : ∀ c i, tbl.lookup c = some i → takenBy C.K c l i)
    (hs1 : swapsWith e none pos1.line X.env = pure false := by rfl) : PS X (.Try [.Expr e pos1] (h₀ :: hds) [] [] pos) (tS C (sTryE f (fun _ ρ => .ok (.next ρ)) tbl hs)) :=
  (ps_try_many (tb := fun W T σ H => tR (C.wx W) f σ H fun _ H' => T.nx σ H') hst hfr tk (fun W pn xe tk' _ => pss_one ((ps_expr (he W pn xe tk') hs1).mono fun T σ H h => h)) hd.ok).mono fun T σ H ⟨ρ, F, r, q⟩ =>
    ⟨ρ, F, r.wx, try_out r q (fun d v F' H' q x s r' _ => q σ F' H' (Same.refl _) r') fun c i F' H' ht r' q' => many_ok hK hout hd i r' (htb c i ht) q'⟩
theorem s_trySet {i : Nat} {x : Str} {pos' : Pos} (hst : X.stack = X.env :: X.outer) (hfr : X.env.frame = some X.env.locals) (tk : Takes X Wout) (hK : X.K = C.K) (hout : ∀ c σ H, C.XW c σ H → Wout (.ref (clsOf C.K c)) none σ H)
    (he : ∀ (W : WX) (pn : List (Addr × Obj)) (xe : Value → Shared → Prop), Takes (X.tr pn xe) W → PE (X.tr pn xe) e (tE (C.wx W) f)) (hd : HdsD X C (h₀ :: hds) l hs) (htb : ∀ c i, tbl.lookup c = some i → takenBy C.K c l i) (hN : X.N.Nodup) (hi : X.N[i]? = some x := by rfl) (hx : Loc X.env.scope x := by first | exact .inl rfl | exact .inr rfl)
    (hs1 : swapsWith e (some (.Name x pos')) pos1.line X.env = pure false := by rfl) (hf : X.fn x = true ∨ X.env.scope.names.lookup x = some .local := by first | exact .inl rfl | exact .inr rfl | assumption) (hl : C.ln i = none := by rfl) : PS X (.Try [.Assign [.Name x pos'] e pos1] (h₀ :: hds) [] [] pos) (tS C (sTryE f (stE i) tbl hs)) :=
  (ps_try_many (tb := fun W T σ H => tE (C.wx W) f σ H fun v H' => T.nx (σ.set i (some v)) H') hst hfr tk (fun W pn xe tk' _ => pss_one ((ps_set (X := X.tr pn xe) hN hi hx (he W pn xe tk') hs1 hf).mono fun T σ H h => h)) hd.ok).mono fun T σ H ⟨ρ, F, r, q⟩ =>
    ⟨ρ, F, r.wx, try_out r q (fun d v F' H' q x s r' w => q _ F' H' (Same.refl _) (r'.set w hl)) fun c i F' H' ht r' q' => many_ok hK hout hd i r' (htb c i ht) q'⟩
end
end DL
/-! the D layer: an exception that is caught by a name is a value -/
namespace DL
open PySem PySem.Spec PyProof.Rows L2
section
variable {X : Cx} {pins : List (Addr × Obj)} {σ : L2.St} {H : Hp} {s : Shared}
/-- an object that nobody tracked is tracked from now on -/
theorem Inv_track {a : Addr} {φ : Heap → Prop} (I : Inv X pins σ H s) (hn : H a = none) (h0 : X.s_0.heap.get? a = none) (nL : a ≠ X.env.locals) (nC : ∀ y c, X.env.cells.lookup y = some c → c ≠ a) (nP : ∀ q ∈ X.pn ++ pins, q.1 ≠ a)
    (new : ObjOk X.prog X.w (upd H a (.ext φ)) s.heap a (.ext φ)) : Inv X pins σ (upd H a (.ext φ)) s where
  ok := I.ok
  os := I.os
  bare := I.bare
  base := {
    keep := I.base.keep
    slot := I.base.slot
    free := fun b o e n hx => by
      rw [upd_ne (fun (z : b = a) => by rw [z, h0] at e; cases e)]
      exact I.base.free b o e n hx
    there := I.base.there
    tups := fun b xs e => by
      have q := I.base.tups b xs e
      rw [upd_ne (ne_of_none q hn)]; exact q
    frzs := fun b o u e => by
      have q := I.base.frzs b o u e
      rw [upd_ne (ne_of_none q hn)]; exact q
    tbls := fun b tb e => by
      obtain ⟨more, q⟩ := I.base.tbls b tb e
      exact ⟨more, by rw [upd_ne (ne_of_none q hn)]; exact q⟩ }
  loc := I.loc
  cell := I.cell
  free := by rw [upd_ne (Ne.symm nL)]; exact I.free
  freeC := fun y c e => by rw [upd_ne (nC y c e)]; exact I.freeC y c e
  pin := fun q hq => by
    obtain ⟨g1, g2, g3⟩ := I.pin q hq
    exact ⟨g1, by rw [upd_ne (nP q hq)]; exact g2, g3⟩
  hok := fun b u e => by
    by_cases hb : b = a
    · subst hb
      rw [upd_same] at e
      cases e
      exact new
    · rw [upd_ne hb] at e
      exact (I.hok b u e).stay (fun _ _ _ q => q) (fun c q => by rw [upd_ne (ne_of_none q hn)]; exact q) fun c xs q => by rw [upd_ne (ne_of_none q hn)]; exact q
  len := I.len
theorem Inv_into (I : Inv X pins σ H s) (a : Addr) : Inv (X.suite a (X.pn ++ pins)) [] σ H s :=
  ⟨I.ok.suite _ _, I.os, I.bare, I.base, I.loc, I.cell, I.free, I.freeC, fun q hq => I.pin q (by rw [List.append_nil] at hq; exact hq), I.hok, I.len⟩
theorem Inv_outof {a : Addr} {qs : List (Addr × Obj)} (I : Inv (X.suite a (X.pn ++ pins)) qs σ H s) (ok : X.Ok) : Inv X pins σ H s :=
  ⟨ok, I.os, I.bare, I.base, I.loc, I.cell, I.free, I.freeC, fun q hq => I.pin q (List.mem_append_left _ hq), I.hok, I.len⟩
end
/-- what the clause wishes: the exception is tracked, slot i holds it in the suite -/
def wKept (K : PySem.W.Frag) (c : Value) (i : Nat) (ts : Addr → Addr → TS) (Wout : WX) (D : Ends) : WX := fun cls d σ H =>
  ∃ b, PySem.W.exmOne K cls c = some b ∧ (b = true → ∃ C, cls = .ref C ∧ d = none ∧ ∀ a, H a = none → ts C a { nx := fun σ' H' => D.nx (σ'.set i none) H', rt := D.rt, bk := fun σ' H' => D.bk (σ'.set i none) H', ct := fun σ' H' => D.ct (σ'.set i none) H' } (σ.set i (some (.ref a))) (upd H a (exK C a))) ∧ (b = false → Wout cls d σ H)
section
variable {X : Cx} {x n : Str} {c : Value} {i : Nat} {body suite : List Stmt} {b₀ : Stmt} {np pos pos' : Pos} {tb : WX → TS} {ts : Addr → Addr → TS} {Wout : WX}
theorem ps_try_kept (hst : X.stack = X.env :: X.outer) (hfm : X.env.frame = some X.env.locals) (hN : X.N.Nodup) (hi : X.N[i]? = some n) (hlo : X.env.kindOf n = some .local) (hc : Names X x c) (hex : X.ex = []) (tk : Takes X Wout)
    (hb : ∀ (W : WX) (pn : List (Addr × Obj)) (xe : Value → Shared → Prop), Takes (X.tr pn xe) W → PassesOwn (model X.prog X.w) X.A X.env xe → PSs (X.tr pn xe) body (tb W))
    (hsu : ∀ (C a : Addr) (pn : List (Addr × Obj)), PSs (X.suite a pn) (b₀ :: suite) (ts C a)) :
    PS X (.Try body [.ExceptHandler (some (.Name x np)) (some n) (b₀ :: suite) pos'] [] [] pos) (fun D σ H => tb (wKept X.K c i ts Wout D) D σ H) := by
  refine ⟨fun pins s σ H D I hw => ?_⟩
  have okX := I.ok
  have frm : X.A.frames = some (X.env :: X.outer) := by rw [okX.frames, hst]
  refine wpAny_Try_except ?_
  refine wpAny_mono ((hb (wKept X.K c i ts Wout D) (X.pn ++ pins) (fun u t1 => wpAny (model X.prog X.w) X.A (noteFrame u X.env) (fun _ t2 => wpAny (model X.prog X.w) X.A (setFlight u none)
    (fun _ t3 => wpAny (model X.prog X.w) X.A (handleBy u X.env [.ExceptHandler (some (.Name x np)) (some n) (b₀ :: suite) pos']) (SP X pins D) X.xe t3) X.xe t2) X.xe t1) (fun u t fly => ?caught) PassesOwn.looking).run [] s σ H D (I.toTry _) hw) (fun fl t after => ?thru) (fun _ _ z => z)
  case thru =>
    cases fl with
    | next =>
      obtain ⟨σ1, H1, I1, q⟩ := after
      exact wpAny_execs_nil ⟨σ1, H1, I1.ofTry okX, q⟩
    | brk =>
      obtain ⟨σ1, H1, I1, q⟩ := after
      exact ⟨σ1, H1, I1.ofTry okX, q⟩
    | cont =>
      obtain ⟨σ1, H1, I1, q⟩ := after
      exact ⟨σ1, H1, I1.ofTry okX, q⟩
    | ret w =>
      obtain ⟨v, σ1, H1, I1, r, q⟩ := after
      exact ⟨v, σ1, H1, I1.ofTry okX, r, q⟩
  case caught =>
    obtain ⟨a, B, s1, pins1, σ1, H1, cls, dd, rfl, Ib, inB, upS, air, fresh, hos, hgens, b, hmatch, yes, no⟩ := fly
    have I1 : Inv X pins σ1 H1 s1 := Ib.ofTry okX
    have air' : Sky B (X.env :: X.outer) a (Zc cls dd) X.env.locals t.heap := by rw [← hst]; exact air
    have aB : B.get? a = none := by
      rcases air' with ⟨_, z, _⟩ | z | z
      · exact z
      · exact z.2.1
      · exact z.2.1
    show wpAny (model X.prog X.w) X.A (noteFrame (.ref a) X.env) _ _ _
    refine Sky.land Zc.steady frm hfm air' fun ha flyA upA => ?_
    have IA : Inv X pins σ1 H1 { t with heap := ha } := I1.landed inB flyA.1 (upS.trans upA) hos hgens
    have offFr : ∀ {h : Heap} {o : Obj} {vs : Array Value}, h.FunFrames B (X.env :: X.outer) → h.get? a = some o → o.data = .fields vs → a ∉ frs (X.env :: X.outer) := fun {h o vs} ff e e2 hm => by
      obtain ⟨_, o2, e3, no2⟩ := ff.mem hm
      rw [e] at e3
      cases e3
      exact no2 _ e2
    obtain ⟨oa, va, ea, za, da⟩ := flyA.there
    have aFr := offFr flyA.2.2.1 ea da
    have aL : a ≠ X.env.locals := fun z => aFr (List.mem_filterMap.mpr ⟨X.env, List.mem_cons_self, by rw [hfm, z]⟩)
    have aFs : a ∉ X.fs := fun hm => by
      obtain ⟨e, he, q⟩ := List.mem_filterMap.mp hm
      exact aFr (List.mem_filterMap.mpr ⟨e, List.mem_cons_of_mem _ he, q⟩)
    have a1 : s1.heap.get? a = none := by
      cases e : s1.heap.get? a with
      | none => rfl
      | some o =>
        have := inB a o e (by rw [hst]; exact aFr)
        rw [aB] at this
        cases this
    have a0 : X.s_0.heap.get? a = none := by
      cases e : X.s_0.heap.get? a with
      | none => rfl
      | some o =>
        obtain ⟨o2, e2⟩ := I1.base.there a o e (by rw [hex]; exact fun z => nomatch z)
        rw [a1] at e2
        cases e2
    have aC : ∀ y cc, X.env.cells.lookup y = some cc → cc ≠ a := fun y cc e z => by
      obtain ⟨_, o, e2, _⟩ := I1.cell y cc e
      rw [z, a1] at e2
      cases e2
    have aP : ∀ q ∈ X.pn ++ pins, q.1 ≠ a := fun q hq z => by
      have e2 := (I1.pin q hq).1
      rw [z, a1] at e2
      cases e2
    have SA := Inv_into IA a
    refine wpAny_handleBy_cons (codeAny_handlers_test ?_) (fun z => by cases z)
    have looksT : PySem.W.Looks (model X.prog X.w) ha (typeOf (.ref a)) cls := fun _ _ _ _ k q => wpAny_typeOf_ref (k _ _ ea) (by rw [za.1]; exact q)
    have looksM := PySem.W.exm_one (M := model X.prog X.w) IA.kIn looksT hmatch
    have named : ∀ {Q : Value → Shared → Prop} {E : Value → Shared → Prop}, Q c { t with heap := ha } → wpAny (model X.prog X.w) (X.A.mark (some (.ref a))) (eval (.Name x np) X.env) Q E { t with heap := ha } := fun {Q E} q => by
      obtain ⟨g1, g2, g3 | ⟨g3, g4, g5⟩⟩ := hc
      · exact ld_glob (X := X.suite a (X.pn ++ pins)) SA g1 g3 q g2
      · exact ld_blt (X := X.suite a (X.pn ++ pins)) SA g1 g3 g4 q g5 g2
    refine named (looksM.here ?_)
    cases b with
    | false =>
      show wpAny _ X.A (handleBy (.ref a) X.env []) _ _ _
      refine wpAny_handleBy_nil ?_
      obtain ⟨_, _, _, oe, vs, T, _, _, he, _, hd, h1, _⟩ := id flyA
      unfold PySem.passOn
      refine wpAny_bind (wpAny_field he hd h1 ?_)
      rw [if_neg (show ¬ ((Value.ref T == Value.none) = true) by simp)]
      have up2 : wpAny (model X.prog X.w) X.A (setFlight (.ref a) X.env.frame) (fun _ t4 => wpAny (model X.prog X.w) X.A (throw (.ref a) : Sem Flow) (SP X pins D) X.xe t4) X.xe { t with heap := ha } := by
        rw [hfm]
        exact HandSPX.setFlight_upZ flyA fun hb' held upB => wpAny_throw (tk _ _ ⟨a, B, s1, pins, σ1, H1, cls, dd, rfl, I1, inB, (upS.trans upA).trans upB, .inr (.inr (by rw [hst]; exact held)), fresh, hos, hgens, no rfl⟩)
      first
        | exact wpAny_bind (wpAny_pure (wpAny_bind up2))
        | exact wpAny_bind up2
    | true =>
      obtain ⟨C, rfl, rfl, yes2⟩ := yes rfl
      refine codeAny_handlers_suite_as (HandSPX.lands_againZ flyA fun hb' flyB upB => ?_)
      have IB : Inv X pins σ1 H1 { t with heap := hb' } := I1.landed inB flyB.1 ((upS.trans upA).trans upB) hos hgens
      obtain ⟨ob, vb, eb, zb, db⟩ := flyB.there
      have IT : Inv X pins σ1 (upd H1 a (exK C a)) { t with heap := hb' } := Inv_track IB fresh a0 aL aC aP ⟨⟨ob, eb, zb.1, zb.2, vb, db⟩, ⟨ob, eb⟩, fun _ _ ⟨o, e, r⟩ k => ⟨o, k o e, r⟩⟩
      refine store_ok (X := X.suite a (X.pn ++ pins)) (v := .ref a) (Inv_into IT a) hN hi (.inl hlo) rfl (fun t5 I5 => ?_) (.inr hlo)
      have out : ∀ {σ6 : L2.St} {H6 : Hp} {t6 : Shared} {Q : Shared → Prop}, Inv (X.suite a (X.pn ++ pins)) [] σ6 H6 t6 → (∀ t7, Inv X pins (σ6.set i none) H6 t7 → Q t7) → wpAny (model X.prog X.w) X.A (do bindName X.env n .none; unbindBehindTheSuite X.env n pos') (fun _ t7 => Q t7) X.xe t6 := fun I6 hq => gone_ok (Inv_outof I6 okX) hN hi hlo hq
      refine wpAny_mono ((hsu C a (X.pn ++ pins)).run [] t5 _ _ _ I5 (yes2 a fresh)) (fun fl t6 after => ?_) (fun _ _ z => False.elim z)
      cases fl with
      | next =>
        obtain ⟨σ6, H6, I6, q⟩ := after
        exact out I6 fun t7 I7 => ⟨_, _, I7, q⟩
      | brk =>
        obtain ⟨σ6, H6, I6, q⟩ := after
        exact out I6 fun t7 I7 => ⟨_, _, I7, q⟩
      | cont =>
        obtain ⟨σ6, H6, I6, q⟩ := after
        exact out I6 fun t7 I7 => ⟨_, _, I7, q⟩
      | ret w =>
        obtain ⟨v, σ6, H6, I6, r, q⟩ := after
        exact out I6 fun t7 I7 => ⟨_, _, _, I7, r, q⟩
end
/-! ### try: .. except X as n: .. -/
/-- the suite's name is gone behind it -/
def gone (i : Nat) : R Fl → R Fl
  | .ok (.next ρ) => .ok (.next (ρ.set i none))
  | .ok (.brk ρ) => .ok (.brk (ρ.set i none))
  | .ok (.cont ρ) => .ok (.cont (ρ.set i none))
  | r => r
def catchAs (i : Nat) (tbl : List (Str × Bool)) (h : En → R Fl) (c : Str) (ρ : En) : R Fl := match tbl.lookup c with
  | some true => gone i (h (ρ.set i (some (false, .exn c))))
  | some false => .err c
  | none => .bad
def sTryAs (i : Nat) (f : En → R D) (k : D → En → R Fl) (tbl : List (Str × Bool)) (h : En → R Fl) : En → R Fl := fun ρ => match f ρ with
  | .ok d => k d ρ
  | .err c => catchAs i tbl h c ρ
  | .bad => .bad
section
variable {X : Cx} {C : Cd} {e : Expr} {f : En → R D} {h : En → R Fl} {pos pos1 pos' np : Pos} {tbl : List (Str × Bool)} {Wout : WX} {i : Nat} {x n : Str} {dc : Addr} {b₀ : Stmt} {suite : List Stmt}
theorem Rel.caught {ρ : En} {σ : L2.St} {F H : Hp} {a : Addr} {c : Str} (r : Rel C ρ σ F H) (na : H a = none) (hn : PySem.W.nsIn C.K mainGlobals c = some (some (.ref (clsOf C.K c)))) (hl : C.ln i = none) :
    Rel C (ρ.set i (some (false, .exn c))) (σ.set i (some (.ref a))) (upd F a (exK (clsOf C.K c) a)) (upd H a (exK (clsOf C.K c) a)) := by
  have nf : F a = none := r.sub.free na
  have g : Ext F H (upd F a (exK (clsOf C.K c) a)) (upd H a (exK (clsOf C.K c) a)) := ⟨same_upd nf, same_upd na, fun b o e => by
    by_cases hb : b = a
    · rw [hb]; exact .inr na
    · rw [upd_ne hb] at e; exact .inl e⟩
  refine (r.grow g fun b o e => ?_).set (.exn hn upd_same) hl
  by_cases hb : b = a
  · rw [hb, upd_same] at e
    rw [hb, upd_same]; exact e
  · rw [upd_ne hb] at e
    rw [upd_ne hb]; exact r.sub b o e
theorem post_gone {T : Ends} {B : Hp} {z : R Fl} (hl : C.ln i = none) (q : Post C T B (gone i z)) : Post C { nx := fun σ' H' => T.nx (σ'.set i none) H', rt := T.rt, bk := fun σ' H' => T.bk (σ'.set i none) H', ct := fun σ' H' => T.ct (σ'.set i none) H' } B z := by
  cases z with
  | bad => exact q
  | err c => exact q
  | ok fl =>
    cases fl with
    | next ρ => exact fun σ F H s r => q _ F H s (r.forget i none hl)
    | brk ρ => exact fun σ F H s r => q _ F H s (r.forget i none hl)
    | cont ρ => exact fun σ F H s r => q _ F H s (r.forget i none hl)
    | ret o d => exact q
theorem tryAs_out {W : WX} {T : Ends} {σ : L2.St} {F H : Hp} {ρ : En} {P : Hp → Hp → D → V → Prop} {k : D → En → R Fl} {Q : VK} (r : Rel C ρ σ F H) (q : Post C T F (sTryAs i f k tbl h ρ))
    (hok : ∀ d v F' H', Post C T F' (k d ρ) → Ext F H F' H' → Same F' H' → Rel C ρ σ F' H' → P F' H' d v → Q v H')
    (herr : ∀ c F' H', Rel C ρ σ F' H' → Post C T F' (catchAs i tbl h c ρ) → W (.ref (clsOf C.K c)) none σ H') : Out (C.wx W) σ F H P (f ρ) Q := by
  unfold sTryAs at q
  cases hf : f ρ with
  | bad => rw [hf] at q; exact q.elim
  | ok d => rw [hf] at q; exact fun v F' H' x s w => hok d v F' H' (Post.up q x.f) x s (r.grow x s) w
  | err c => rw [hf] at q; exact fun F' H' x s => herr c F' H' (r.grow x s) (Post.up q x.f)
theorem kept_ok (hK : X.K = C.K) (hout : ∀ c σ H, C.XW c σ H → Wout (.ref (clsOf C.K c)) none σ H) (htb : ∀ c b, tbl.lookup c = some b → PySem.W.nsIn C.K mainGlobals c = some (some (.ref (clsOf C.K c))) ∧ PySem.W.exmOne C.K (.ref (clsOf C.K c)) (.ref dc) = some b) (hl : C.ln i = none)
    {c : Str} {T : Ends} {σ : L2.St} {F H : Hp} {ρ : En} (r : Rel C ρ σ F H) (q : Post C T F (catchAs i tbl h c ρ)) : wKept X.K (.ref dc) i (fun _ _ => tS C h) Wout T (.ref (clsOf C.K c)) none σ H := by
  unfold catchAs at q
  cases ht : tbl.lookup c with
  | none => rw [ht] at q; exact q.elim
  | some b =>
    rw [ht] at q
    obtain ⟨h1, h2⟩ := htb c b ht
    rw [hK]
    refine ⟨b, h2, fun hb => ?_, fun hb => ?_⟩
    · subst hb
      refine ⟨_, rfl, rfl, fun a na => ⟨_, _, r.caught na h1 hl, post_gone hl (Post.up q (same_upd (r.sub.free na)))⟩⟩
    · subst hb
      exact hout c σ H (q ρ σ F H r)
theorem s_tryDropAs (hst : X.stack = X.env :: X.outer) (hfr : X.env.frame = some X.env.locals) (hex : X.ex = []) (hc : Names X x (.ref dc)) (tk : Takes X Wout) (hK : X.K = C.K) (hout : ∀ c σ H, C.XW c σ H → Wout (.ref (clsOf C.K c)) none σ H)
    (he : ∀ (W : WX) (pn : List (Addr × Obj)) (xe : Value → Shared → Prop), Takes (X.tr pn xe) W → PE (X.tr pn xe) e (tR (C.wx W) f)) (hsu : ∀ (a : Addr) (pn : List (Addr × Obj)), PSs (X.suite a pn) (b₀ :: suite) (tS C h))
    (htb : ∀ c b, tbl.lookup c = some b → PySem.W.nsIn C.K mainGlobals c = some (some (.ref (clsOf C.K c))) ∧ PySem.W.exmOne C.K (.ref (clsOf C.K c)) (.ref dc) = some b) (hN : X.N.Nodup)
    (hi : X.N[i]? = some n := by rfl) (hlo : X.env.kindOf n = some .local := by rfl) (hs1 : swapsWith e none pos1.line X.env = pure false := by rfl) (hl : C.ln i = none := by rfl) :
    PS X (.Try [.Expr e pos1] [.ExceptHandler (some (.Name x np)) (some n) (b₀ :: suite) pos'] [] [] pos) (tS C (sTryAs i f (fun _ ρ => .ok (.next ρ)) tbl h)) :=
  (ps_try_kept (tb := fun W T σ H => tR (C.wx W) f σ H fun _ H' => T.nx σ H') (ts := fun _ _ => tS C h) hst hfr hN hi hlo hc hex tk (fun W pn xe tk' _ => pss_one ((ps_expr (he W pn xe tk') hs1).mono fun T σ H h => h)) (fun _ a pn => hsu a pn)).mono fun T σ H ⟨ρ, F, r, q⟩ =>
    ⟨ρ, F, r.wx, tryAs_out r q (fun d v F' H' q x s r' _ => q σ F' H' (Same.refl _) r') fun c F' H' r' q' => kept_ok hK hout htb hl r' q'⟩
theorem s_trySetAs {j : Nat} {y : Str} {py : Pos} (hst : X.stack = X.env :: X.outer) (hfr : X.env.frame = some X.env.locals) (hex : X.ex = []) (hc : Names X x (.ref dc)) (tk : Takes X Wout) (hK : X.K = C.K) (hout : ∀ c σ H, C.XW c σ H → Wout (.ref (clsOf C.K c)) none σ H)
    (he : ∀ (W : WX) (pn : List (Addr × Obj)) (xe : Value → Shared → Prop), Takes (X.tr pn xe) W → PE (X.tr pn xe) e (tE (C.wx W) f)) (hsu : ∀ (a : Addr) (pn : List (Addr × Obj)), PSs (X.suite a pn) (b₀ :: suite) (tS C h))
    (htb : ∀ c b, tbl.lookup c = some b → PySem.W.nsIn C.K mainGlobals c = some (some (.ref (clsOf C.K c))) ∧ PySem.W.exmOne C.K (.ref (clsOf C.K c)) (.ref dc) = some b) (hN : X.N.Nodup)
    (hi : X.N[i]? = some n := by rfl) (hlo : X.env.kindOf n = some .local := by rfl) (hj : X.N[j]? = some y := by rfl) (hx : Loc X.env.scope y := by first | exact .inl rfl | exact .inr rfl) (hs1 : swapsWith e (some (.Name y py)) pos1.line X.env = pure false := by rfl) (hf : X.fn y = true ∨ X.env.scope.names.lookup y = some .local := by first | exact .inl rfl | exact .inr rfl | assumption)
    (hl : C.ln i = none := by rfl) (hl2 : C.ln j = none := by rfl) :
    PS X (.Try [.Assign [.Name y py] e pos1] [.ExceptHandler (some (.Name x np)) (some n) (b₀ :: suite) pos'] [] [] pos) (tS C (sTryAs i f (stE j) tbl h)) :=
  (ps_try_kept (tb := fun W T σ H => tE (C.wx W) f σ H fun v H' => T.nx (σ.set j (some v)) H') (ts := fun _ _ => tS C h) hst hfr hN hi hlo hc hex tk (fun W pn xe tk' _ => pss_one ((ps_set (X := X.tr pn xe) hN hj hx (he W pn xe tk') hs1 hf).mono fun T σ H h => h)) (fun _ a pn => hsu a pn)).mono fun T σ H ⟨ρ, F, r, q⟩ =>
    ⟨ρ, F, r.wx, tryAs_out r q (fun d v F' H' q x s r' w => q _ F' H' (Same.refl _) (r'.set w hl2)) fun c F' H' r' q' => kept_ok hK hout htb hl r' q'⟩
end
/-! ### isinstance of a caught one -/
def rIsK (K : PySem.W.Frag) : List V → Hp → VK → Prop := fun xs H Q => ∃ (c : V) (cv : Value) (b : Bool) (a C : Addr), xs = [.ref a, c] ∧ H a = some (exK C a) ∧ ExcC K C ∧ (∀ u, RelV c u → u = cv) ∧ PySem.W.kitOne K (.ref C) cv = some b ∧ Q (.bl b) H
theorem call_isK {X : Cx} : CallR X (.builtin "isinstance") (rIsK X.K) := by
  intro pins s σ H xs us Q I r hq
  obtain ⟨c, cv, b, a, C, rfl, ha, E, hcv, e, q⟩ := hq
  cases r with
  | cons r1 r2 =>
    cases r2 with
    | cons r3 r4 =>
      cases r4
      cases r1
      have z := hcv _ r3
      subst z
      obtain ⟨⟨oe, g1, g2, g3, vs, g4⟩, _⟩ := I.hok a _ ha
      have J : PySem.W.InstAt s.heap a oe C none := by
        obtain ⟨oc, od, oda, osl⟩ := oe
        dsimp only at g2 g3 g4
        subst g2 g3 g4
        exact ⟨g1, rfl, rfl, trivial⟩
      exact PySem.W.kia_one (PySem.W.handS_kitx_exc E.hg E.hk E.hs E.hd E.ha E.hn E.ht E.hm) I.kIn J e (fun z => nomatch z) fun tk => ⟨.bl b, H, I.kept (t' := tk) fun _ _ z => z, rfl, q⟩
/-- whether a caught exception is of a class -/
def isED (tb : List (Str × Bool)) : D → R D
  | .exn c => match tb.lookup c with
    | some b => .ok (.bl b)
    | none => .bad
  | .non => .ok (.bl false)
  | _ => .bad
section
variable {X : Cx} {C : Cd} {a b : Expr} {f : En → R D} {pos p : Pos}
theorem d_isE {cV : V} {cv : Value} {tb : List (Str × Bool)} (hC : X.K = C.K) (ha : PE X a (tR C f)) (hb : PE X b (tC cV)) (hcl : ClsV cV cv) (htb : ∀ c bb, tb.lookup c = some bb → ExcC C.K (clsOf C.K c) ∧ PySem.W.kitOne C.K (.ref (clsOf C.K c)) cv = some bb) (hnon : PySem.W.kitOne C.K (.type "NoneType") cv = some false) (hm : X.mg "isinstance" = none) (hg : Gl X "isinstance" := by rfl)
    (hs2 : starEach [b] X.env = (false, eval b X.env) :: starEach [] X.env := by rfl)
    (he : starEach [a, b] X.env = (false, eval a X.env) :: starEach [b] X.env := by rfl) (hpl : (backTo pos (starEach [b] X.env)).any (·.1) = false := by rfl) :
    PE X (.Call (.Name "isinstance" p) [a, b] [] pos) (tO C (uop f (isED tb))) :=
  (pe_callB (CallR.or call_isi call_isK) hg hm (by decide +kernel) (pa_cons ha (pa_cons hb pa_nil hs2) he) (by decide) (by decide) he hpl).mono (by
    rintro σ H Q ⟨ρ, F, rl, q⟩
    refine ⟨ρ, F, rl, q.fst fun d v F1 H1 _ q x1 s1 w1 => ?_⟩
    have q := Out.later q x1
    rw [hC]
    cases d with
    | non =>
      obtain rfl : v = V.non := w1
      exact .inl ⟨.non, cV, .type "NoneType", cv, false, rfl, hcl, .base .non, hnon, fin_flat q s1 rfl⟩
    | exn c =>
      obtain ⟨a, CC, rfl, hn, hH⟩ := w1
      have ec := clsOf_eq hn
      unfold isED at q
      cases ht : tb.lookup c with
      | none => simp only [ht] at q; exact q.elim
      | some bb =>
        simp only [ht] at q
        obtain ⟨t1, t2⟩ := htb c bb ht
        rw [ec] at t1 t2
        exact .inr ⟨cV, cv, bb, a, CC, rfl, hH, t1, fun u r => hcl.eq r, t2, fin_flat q s1 rfl⟩
    | _ => exact q.elim)
end
/-! words for the generator -/
theorem lk_nil {β : Type} {P : Str → β → Prop} : ∀ c i, ([] : List (Str × β)).lookup c = some i → P c i := fun _ _ h => by cases h
theorem lk_cons {β : Type} {P : Str → β → Prop} {r : Str} {j : β} {t : List (Str × β)} (h : P r j) (ht : ∀ c i, t.lookup c = some i → P c i) : ∀ c i, ((r, j) :: t).lookup c = some i → P c i := fun c i e => by
  rw [List.lookup_cons] at e
  cases hc : (c == r) with
  | true =>
    rw [hc] at e
    cases e
    rw [beq_iff_eq.mp hc]; exact h
  | false => rw [hc] at e; exact ht c i e
theorem exm_at {K : PySem.W.Frag} {r x : Str} {a b : Addr} {t : Bool} (h1 : PySem.W.nsIn K mainGlobals r = some (some (.ref a))) (h2 : PySem.W.nsIn K mainGlobals x = some (some (.ref b))) (h : PySem.W.exmOne K (.ref a) (.ref b) = some t) : PySem.W.exmOne K (.ref (clsOf K r)) (.ref (clsOf K x)) = some t := by
  rw [clsOf_eq h1, clsOf_eq h2]; exact h
theorem kit_at {K : PySem.W.Frag} {r x : Str} {a b : Addr} {t : Bool} (h1 : PySem.W.nsIn K mainGlobals r = some (some (.ref a))) (h2 : PySem.W.nsIn K mainGlobals x = some (some (.ref b))) (h : PySem.W.kitOne K (.ref a) (.ref b) = some t) : PySem.W.kitOne K (.ref (clsOf K r)) (.ref (clsOf K x)) = some t := by
  rw [clsOf_eq h1, clsOf_eq h2]; exact h
theorem kitB_at {K : PySem.W.Frag} {r : Str} {a : Addr} {n : String} {t : Bool} (h1 : PySem.W.nsIn K mainGlobals r = some (some (.ref a))) (h : PySem.W.kitOne K (.ref a) (.type n) = some t) : PySem.W.kitOne K (.ref (clsOf K r)) (.type n) = some t := by
  rw [clsOf_eq h1]; exact h
theorem kitN_at {K : PySem.W.Frag} {x : Str} {b : Addr} {t : Bool} (h2 : PySem.W.nsIn K mainGlobals x = some (some (.ref b))) (h : PySem.W.kitOne K (.type "NoneType") (.ref b) = some t) : PySem.W.kitOne K (.type "NoneType") (.ref (clsOf K x)) = some t := by
  rw [clsOf_eq h2]; exact h
theorem excC_at {K : PySem.W.Frag} {r : Str} {D : Addr} (h1 : PySem.W.nsIn K mainGlobals r = some (some (.ref D)))
    (hg : PySem.W.findIn K (.ref D) "__getattribute__" = some (some (.builtin "BaseException.__getattribute__"))) (hk : PySem.W.findIn K (.ref D) "__getattr__" = some none) (hs : PySem.W.subIn K (.ref D) (.type "BaseException") = some true) (hd : PySem.W.hasDictIn K D = true)
    (ha : PySem.W.findIn K (.ref D) "__class__" = some (some (.builtin "object.__class__"))) (hn : PySem.W.specialIn K (.builtin "object.__class__") "__get__" = some (some (.builtin "getset_descriptor.__get__"))) (ht : PySem.W.takesIn K (.builtin "object.__class__") = some true) (hm : PySem.W.mroIn K D (.type "object") = some true) : ExcC K (clsOf K r) := by
  rw [clsOf_eq h1]; exact ⟨hg, hk, hs, hd, ha, hn, ht, hm⟩
theorem names_own {X : Cx} {x : Str} (E : ExcT X.K X.mg x) (hg : Gl X x := by rfl) (hd : (x == ("__debug__" : Str)) = false := by decide) : Names X x (.ref (clsOf X.K x)) := ⟨hg, hd, .inl E.g⟩
/-! evaluation -/
section
variable {ρ : En} {f : En → R D} {k : D → En → R Fl} {tbl : List (Str × Nat)} {tb : List (Str × Bool)} {hs : List (En → R Fl)} {h : En → R Fl} {i n N : Nat} {d : D} {ds : List D} {c : Str} {g : En → R Fl}
def tryK (x : R D) (k : D → En → R Fl) (tbl : List (Str × Nat)) (hs : List (En → R Fl)) (ρ : En) : R Fl := match x with
  | .ok d => k d ρ
  | .err c => catchD tbl hs c ρ
  | .bad => .bad
theorem ap_try : sTryE f k tbl hs ρ = tryK (f ρ) k tbl hs ρ := rfl
theorem try_ok : tryK (.ok d) k tbl hs ρ = k d ρ := rfl
theorem try_err : tryK (.err c) k tbl hs ρ = catchD tbl hs c ρ := rfl
def tryAsK (x : R D) (i : Nat) (k : D → En → R Fl) (tbl : List (Str × Bool)) (h : En → R Fl) (ρ : En) : R Fl := match x with
  | .ok d => k d ρ
  | .err c => catchAs i tbl h c ρ
  | .bad => .bad
theorem ap_tryAs : sTryAs i f k tb h ρ = tryAsK (f ρ) i k tb h ρ := rfl
theorem tryAs_ok : tryAsK (.ok d) i k tb h ρ = k d ρ := rfl
theorem tryAs_err : tryAsK (.err c) i k tb h ρ = catchAs i tb h c ρ := rfl
theorem stE_ap : stE i d ρ = .ok (.next (ρ.set i (some (false, d)))) := rfl
theorem gone_next : gone i (.ok (.next ρ)) = .ok (.next (ρ.set i none)) := rfl
theorem ap_raise : sRaise c ρ = .err c := rfl
theorem ap_bodyD (h : ds.length = n) : bodyD n N g ds = endD (g (args N ds)) := by unfold bodyD; rw [if_pos h]
theorem end_err : endD (.err c) = .err c := rfl
theorem callE_err {den : Den} (h : den ds = .err c) : callE den ds = .err c := by unfold callE; rw [h]; rfl
theorem isE_exn {b : Bool} (h : tb.lookup c = some b) : isED tb (.exn c) = .ok (.bl b) := by
  show (match tb.lookup c with | some b => R.ok (D.bl b) | none => .bad) = _
  rw [h]
theorem isE_non : isED tb .non = .ok (.bl false) := rfl
theorem catchAs_t (e : tb.lookup c = some true) : catchAs i tb h c ρ = gone i (h (ρ.set i (some (false, .exn c)))) := by unfold catchAs; rw [e]
theorem look_one {β : Type} {c : Str} {b : β} : [(c, b)].lookup c = some b := by rw [List.lookup_cons, beq_self_eq_true]
end
end DL
/-! the D layer: lent rows are walked by a name -/
namespace DL
open PySem PySem.Spec PyProof.Rows L2
/-- one name more that is lent -/
def Cd.lnAt (C : Cd) (j : Nat) (d : D) (v : V) : Cd := ⟨C.K, C.F0, C.H0, C.XW, fun k => if k = j then some (d, v) else C.ln k, C.io⟩
def rowsR : D → R (List D)
  | .rows rs => .ok rs
  | .lst rs => .ok rs
  | _ => .bad
def loopR (j : Nat) (gb : D → En → R Fl) : List D → En → R Fl
  | [], ρ => .ok (.next ρ)
  | d :: ds, ρ => bd (gb d (ρ.set j none)) fun r => match r with
    | .next ρ' => loopR j gb ds ρ'
    | .cont ρ' => loopR j gb ds ρ'
    | .brk ρ' => .ok (.next ρ')
    | .ret o d => .ok (.ret o d)
/-- for x in rows: x is read as it is lent -/
def sForR (j : Nat) (f : En → R D) (gb : D → En → R Fl) : En → R Fl := fun ρ => bd (bd (f ρ) rowsR) fun ds => loopR j gb ds ρ
theorem forR_at {j : Nat} {f : En → R D} {gb : D → En → R Fl} {ρ : En} {d : D} {rs : List D} (h : f ρ = .ok d) (hr : rowsR d = .ok rs) : sForR j f gb ρ = loopR j gb rs ρ := by
  unfold sForR
  rw [h, bd_ok, hr, bd_ok]
/-- the loop by the turn -/
theorem loopR_at {α : Type} {j : Nat} {gb : D → En → R Fl} (F : α → D) : ∀ (xs : List α) (I : Nat → En → Prop) (ρ : En), I 0 ρ →
    (∀ i a ρ, xs[i]? = some a → I i ρ → ∃ ρ', gb (F a) (ρ.set j none) = .ok (.next ρ') ∧ I (i + 1) ρ') → ∃ ρ', loopR j gb (xs.map F) ρ = .ok (.next ρ') ∧ I xs.length ρ'
  | [], I, ρ, h0, _ => ⟨ρ, rfl, h0⟩
  | a :: xs, I, ρ, h0, h => by
    obtain ⟨ρ', h2, h3⟩ := h 0 a ρ rfl h0
    rw [List.map_cons]
    unfold loopR
    rw [h2, bd_ok]
    dsimp only
    exact loopR_at F xs (fun i => I (i + 1)) ρ' h3 fun i b ρ hb => h (i + 1) b ρ (by simpa using hb)
section
variable {X : Cx} {C : Cd} {e : Expr} {pos p : Pos} {ρ : En} {σ : L2.St} {F H : Hp} {i j : Nat} {d : D} {v : V} {ds : List D} {x : Str} {dd : D} {vv : V}
theorem Rel.lnIn (r : Rel C ρ σ F H) (hl : C.ln j = none) (w : View C.K C.F0 C.H0 d v) (hj : j < σ.length) : Rel (C.lnAt j d v) (ρ.set j none) (σ.set j (some v)) F H := by
  have r' := r.forget j (some v) hl
  refine ⟨r'.ext, r'.sub, r'.len, r'.slot, r'.ownF, r'.apartF, fun k e u h => ?_⟩
  have h : (if k = j then some (d, v) else C.ln k) = some (e, u) := h
  by_cases hk : k = j
  · rw [if_pos hk] at h
    cases h
    refine ⟨?_, w⟩
    rw [hk, List.getElem?_set_self hj]
  · rw [if_neg hk] at h
    exact r'.lend k e u h
theorem Rel.lnOut (r : Rel (C.lnAt j d v) ρ σ F H) (hl : C.ln j = none) : Rel C ρ σ F H := by
  refine ⟨r.ext, r.sub, r.len, r.slot, r.ownF, r.apartF, fun k e u h => ?_⟩
  have hk : k ≠ j := fun z => by rw [z, hl] at h; cases h
  exact r.lend k e u (by show (if k = j then some (d, v) else C.ln k) = _; rw [if_neg hk]; exact h)
theorem lnAt_in {dd : D} (h : LnAt C ds i) (hn : i ≠ j) : LnAt (C.lnAt j dd v) ds i := fun d hd => by
  obtain ⟨u, e⟩ := h d hd
  exact ⟨u, by show (if i = j then some (dd, v) else C.ln i) = _; rw [if_neg hn]; exact e⟩
/-- the name is read -/
theorem v_LC (h : PE X e (tVar j)) : PE X e (tR (C.lnAt j d v) (cst d)) := h.mono fun σ H Q ⟨ρ, F, r, q⟩ => by
  obtain ⟨hv, w⟩ := r.lend j d v (by show (if j = j then some (d, v) else C.ln j) = _; rw [if_pos rfl])
  exact ⟨_, hv, q _ F H (Ext.refl _ _) r.sub (w.mono r.ext.f r.ext.h)⟩
/-- what was there at first is joined with what was settled at first -/
def Cd.jd (C : Cd) : Cd := ⟨C.K, C.F0, jn C.H0 C.F0, C.XW, C.ln, C.io⟩
theorem jn_none {A B : Hp} {a : Addr} (h1 : A a = none) (h2 : B a = none) : jn A B a = none := by unfold jn; rw [h1]; exact h2
theorem jn_no {A B : Hp} {a : Addr} (h : jn A B a = none) : A a = none := by
  cases e : A a with
  | none => rfl
  | some o => rw [jn_l _ _ e] at h; cases h
theorem Ext.jnIn {F0 H0 : Hp} (x : Ext F0 H0 F H) (s : Same F H) : Ext F0 (jn H0 F0) F H := by
  refine ⟨x.f, jn_in x.h (x.f.trans s), fun a o h => ?_⟩
  cases e : F0 a with
  | some u => exact .inl ((x.f _ _ e).symm.trans h)
  | none =>
    rcases x.n a o h with q | q
    · rw [e] at q; cases q
    · exact .inr (jn_none q e)
theorem Ext.jnOut {F0 H0 : Hp} (x : Ext F0 (jn H0 F0) F H) : Ext F0 H0 F H := ⟨x.f, jn_l.trans x.h, fun a o h => (x.n a o h).imp id jn_no⟩
theorem Rel.jnIn (r : Rel C ρ σ F H) : Rel C.jd ρ σ F H := by
  refine ⟨r.ext.jnIn r.sub, r.sub, r.len, r.slot, fun i d h => ?_, r.apartF, fun i d v h => ?_⟩
  · obtain ⟨a, q, n, nd, o⟩ := r.ownF i d h
    refine ⟨a, q, fun b hb => ⟨(n b hb).1, jn_none (n b hb).2 ?_⟩, nd, o⟩
    cases e : C.F0 b with
    | none => rfl
    | some u => have := r.ext.f _ _ e; rw [(n b hb).1] at this; cases this
  · obtain ⟨h1, h2⟩ := r.lend i d v h
    exact ⟨h1, h2.mono (Same.refl _) jn_l⟩
theorem Rel.jnOut (hv : ∀ i d v, C.ln i = some (d, v) → View C.K C.F0 C.H0 d v) (r : Rel C.jd ρ σ F H) : Rel C ρ σ F H := by
  refine ⟨r.ext.jnOut, r.sub, r.len, r.slot, fun i d h => ?_, r.apartF, fun i d v h => ⟨(r.lend i d v h).1, hv i d v h⟩⟩
  obtain ⟨a, q, n, nd, o⟩ := r.ownF i d h
  exact ⟨a, q, fun b hb => ⟨(n b hb).1, jn_no (n b hb).2⟩, nd, o⟩
theorem view_rows {K : PySem.W.Frag} {d : D} {v : V} {rs : List D} (s : Same F H) (w : View K F H d v) (h : rowsR d = .ok rs) : ∃ a vs, v = V.ref a ∧ H a = some (.lst vs) ∧ vs.length = rs.length ∧ ∀ (k : Nat) (d : D), rs[k]? = some d → ∃ u : V, vs[k]? = some u ∧ View K F H d u := by
  have one : ∀ {rs : List D} {vs : List V}, Reps K F rs vs → ∀ (k : Nat) (d : D), rs[k]? = some d → ∃ u : V, vs[k]? = some u ∧ View K F H d u := fun r k d h => by
    obtain ⟨u, h1, h2⟩ := r.get h
    exact ⟨u, h1, h2.view s⟩
  cases d with
  | lst ds =>
    cases h
    obtain ⟨a, vs, e, q, r⟩ := w
    exact ⟨a, vs, e, q, r.length, one r⟩
  | rows ds =>
    cases h
    obtain ⟨a, vs, e, q, r⟩ := w
    rcases r with r | r
    · exact ⟨a, vs, e, q, r.length, one r⟩
    · refine ⟨a, vs, e, q, r.length, fun k d h => ?_⟩
      obtain ⟨b, us, xs, h1, h2, h3, h4⟩ := r.get h
      subst h2
      exact ⟨_, h1, b, us, rfl, h3, h4⟩
  | _ => cases h
theorem retv_jn {o : Bool} (h : RetV (C.jd.lnAt j d v) F H o dd vv) (hio : C.io = []) : RetV C F H o dd vv := by
  refine RetV.of hio ?_
  have w : RetP (C.jd.lnAt j d v) F H o dd vv := by
    unfold RetV at h
    rw [show (C.jd.lnAt j d v).io = [] from hio] at h
    exact h
  unfold RetP at w ⊢
  cases o with
  | true => rw [if_pos rfl] at w ⊢; exact New.later jn_l w
  | false => rw [if_neg Bool.false_ne_true] at w ⊢; exact w
/-- a target that is one of the names there are -/
theorem pg_len (hN : X.N.Nodup) (hi : X.N[j]? = some x) (hx : Loc X.env.scope x) (hf : X.fn x = true ∨ X.env.scope.names.lookup x = some .local) : PG X (.Name x p) (fun v σ H Q => j < σ.length → Q (σ.set j (some v)) H) :=
  ⟨fun pins s σ H v u Q I r h => (pg_name hN hi hx hf).run pins s σ H v u Q I r (h (by rw [I.len]; exact (List.getElem?_eq_some_iff.mp hi).1))⟩
theorem s_forR {body : List Stmt} {gb : D → En → R Fl} (hc : X.calm = true) (hC : X.K = C.K) (hN : X.N.Nodup) (hv : PE X e (tVar i)) (hb : ∀ d v, PSs X body (tS (C.jd.lnAt j d v) (gb d)))
    (hp : PassesOwn (model X.prog X.w) X.A X.env X.xe) (hl : LnAt C ds i := by first | exact lnAt_of rfl (by decide) | exact lnAt_M rfl (by decide) (by decide) | exact lnAt_W rfl (by decide) (by decide)) (hcj : C.ln j = none := by rfl) (hio : C.io = [] := by rfl) (hj : X.N[j]? = some x := by rfl) (hx : Loc X.env.scope x := by first | exact .inl rfl | exact .inr rfl) (hf : X.fn x = true ∨ X.env.scope.names.lookup x = some .local := by first | exact .inl rfl | exact .inr rfl | assumption) (hs : ∀ x, foldedSetIterable e X.env x = pure x := by intro _; rfl) :
    PS X (.For (.Name x p) e body [] pos) (tS C (sForR j (rdL ds i) gb)) :=
  (ps_for hp hc (pi_list hv) (pg_len hN hj hx hf) (tb := fun T σ H => ∃ d v, tS (C.jd.lnAt j d v) (gb d) T σ H) ⟨fun pins s σ H T I ⟨d, v, q⟩ => (hb d v).run pins s σ H T I q⟩ hs).mono fun T σ H ⟨ρ, F, r, q⟩ => by
    unfold sForR at q
    cases hd : ds[i]? with
    | none =>
      have e1 : rdL ds i ρ = .bad := by unfold rdL; rw [hd]
      rw [e1] at q; exact q.elim
    | some dd =>
      have e1 : rdL ds i ρ = .ok dd := by unfold rdL; rw [hd]
      rw [e1, bd_ok] at q
      cases hr : rowsR dd with
      | bad => rw [hr] at q; exact q.elim
      | err c => cases dd <;> cases hr
      | ok rs =>
        rw [hr, bd_ok] at q
        obtain ⟨v, hln⟩ := hl dd hd
        obtain ⟨hσ, w⟩ := r.lend i _ _ hln
        have hvs : ∀ i d v, C.ln i = some (d, v) → View C.K C.F0 C.H0 d v := fun i d v h => (r.lend i d v h).2
        have sj : Same C.F0 (jn C.H0 C.F0) := jn_r r.ext.h (r.ext.f.trans r.sub)
        obtain ⟨a, vs, rfl, ha, hlen, hget⟩ := view_rows sj (w.mono (Same.refl _) jn_l) hr
        have hH : ∀ {F' H' : Hp} {ρ' : En} {σ' : L2.St}, Rel C ρ' σ' F' H' → SqL X.K H' a vs := fun r' => SqL.of ((r'.ext.jnIn r'.sub).h _ _ ha)
        refine ⟨_, hσ, a, rfl, ⟨vs, hH r⟩, ?_⟩
        refine ⟨fun k m σ H => m = rs.length - k ∧ k ≤ rs.length ∧ ∃ ρ F', Rel C ρ σ F' H ∧ Same F F' ∧ Post C T F (loopR j gb (rs.drop k) ρ), ⟨_, rfl, Nat.zero_le _, ρ, F, r, Same.refl _, q⟩, ?_⟩
        rintro k m σ H ⟨rfl, hk, ρ, F', r, sf, q⟩
        by_cases hlt : k < rs.length
        · obtain ⟨u, hu, wu⟩ := hget k rs[k] (List.getElem?_eq_getElem hlt)
          have ed : rs.drop k = rs[k] :: rs.drop (k + 1) := List.drop_eq_getElem_cons hlt
          rw [ed] at q
          refine .inr ⟨⟨vs, u, hH r, hu⟩, fun σ' H' => ∃ ρ F', Rel C ρ σ' F' H' ∧ Same F F' ∧ Post C T F (loopR j gb (rs.drop (k + 1)) ρ), fun σ' H' p2 => ⟨_, by omega, rfl, hlt, p2⟩, fun xx H' yy => ?_⟩
          obtain ⟨rfl, yy⟩ := yy
          have e := (yy vs (hH r)).symm.trans hu
          cases e
          intro hjl
          refine ⟨rs[k], u, ρ.set j none, F', Rel.lnIn (C := C.jd) r.jnIn hcj wu hjl, ?_⟩
          unfold loopR at q
          cases hbd : gb rs[k] (ρ.set j none) with
          | bad => rw [hbd] at q; exact q.elim
          | err c => rw [hbd] at q; exact fun ρ' σ' F2 H2 r2 => q ρ' σ' F2 H2 ((r2.lnOut hcj).jnOut hvs)
          | ok fl =>
            rw [hbd, bd_ok] at q
            cases fl with
            | next ρ' => exact fun σ' F2 H' s' r' => ⟨ρ', F2, (r'.lnOut hcj).jnOut hvs, sf.trans s', q⟩
            | cont ρ' => exact fun σ' F2 H' s' r' => ⟨ρ', F2, (r'.lnOut hcj).jnOut hvs, sf.trans s', q⟩
            | brk ρ' => exact fun σ' F2 H' s' r' => q σ' F2 H' (sf.trans s') ((r'.lnOut hcj).jnOut hvs)
            | ret o d => exact fun v F2 H2 x2 s2 w2 => q v F2 H2 x2.jnOut s2 (retv_jn w2 hio)
        · have e : k = rs.length := by omega
          subst e
          rw [List.drop_length] at q
          exact .inl ⟨⟨vs, hH r, by omega⟩, q σ F' H sf r⟩
/-! ### a row of lent rows is walked -/
def rowL (d e : D) : R (List D) := match rowsR d with
  | .ok rs => match e with
    | .int i => match atI rs i with
      | some (.lst xs) => .ok xs
      | _ => .bad
    | _ => .bad
  | _ => .bad
def itRow (f g : En → R D) : En → R (List D) := fun ρ => bd (f ρ) fun d => bd (g ρ) fun e => rowL d e
theorem itRow_at {f g : En → R D} {d e : D} {xs : List D} (h1 : f ρ = .ok d) (h2 : g ρ = .ok e) (h : rowL d e = .ok xs) : itRow f g ρ = .ok xs := by
  unfold itRow
  rw [h1, bd_ok, h2, bd_ok, h]
theorem rowL_rows {rs xs : List D} {i : Int} (h : atI rs i = some (.lst xs)) : rowL (.rows rs) (.int i) = .ok xs := by
  unfold rowL rowsR
  dsimp only
  rw [h]
theorem rowL_lst {rs xs : List D} {i : Int} (h : atI rs i = some (.lst xs)) : rowL (.lst rs) (.int i) = .ok xs := by
  unfold rowL rowsR
  dsimp only
  rw [h]
theorem rowL_inv {d e : D} {xs : List D} (h : rowL d e = .ok xs) : ∃ rs i, rowsR d = .ok rs ∧ e = .int i ∧ atI rs i = some (.lst xs) := by
  unfold rowL at h
  cases hr : rowsR d with
  | bad => rw [hr] at h; cases h
  | err c => rw [hr] at h; cases h
  | ok rs =>
    rw [hr] at h
    cases e with
    | int i =>
      dsimp only at h
      cases ha : atI rs i with
      | none => rw [ha] at h; cases h
      | some z =>
        rw [ha] at h
        cases z <;> cases h
        exact ⟨rs, i, rfl, rfl, ha⟩
    | _ => cases h
theorem rowL_noerr {d e : D} {c : Str} (h : rowL d e = .err c) : False := by
  unfold rowL at h
  split at h
  · split at h
    · split at h <;> cases h
    · cases h
  · cases h
theorem i_rowL {a b tg : Expr} {g : En → R D} (hC : X.K = C.K) (ha : PE X a (tVar i)) (hb : PE X b (tR C g)) (hl : LnAt C ds i := by first | exact lnAt_of rfl (by decide) | exact lnAt_M rfl (by decide) (by decide) | exact lnAt_W rfl (by decide) (by decide)) (hs : PlainIx b := by exact fun _ _ => rfl) : PI X tg (.Subscript a b pos) (tI C true (itRow (rdL ds i) g)) :=
  (pi_list (pe_ix (hC ▸ ix_seq) ha hb hs)).mono fun σ H Q ⟨ρ, F, r, q⟩ => by
    unfold itRow at q
    cases hd : ds[i]? with
    | none =>
      have e1 : rdL ds i ρ = .bad := by unfold rdL; rw [hd]
      rw [e1] at q; exact q.elim
    | some d =>
      have e1 : rdL ds i ρ = .ok d := by unfold rdL; rw [hd]
      rw [e1, bd_ok] at q
      obtain ⟨v, hln⟩ := hl d hd
      obtain ⟨hσ, w⟩ := r.lend i _ _ hln
      have sj : Same C.F0 (jn C.H0 C.F0) := jn_r r.ext.h (r.ext.f.trans r.sub)
      refine ⟨v, hσ, ρ, F, r, ?_⟩
      cases hg : g ρ with
      | bad => rw [hg] at q; exact q.elim
      | err c => rw [hg] at q; exact q
      | ok e =>
        rw [hg, bd_ok] at q
        intro y F1 H1 x1 s1 wy
        cases hr : rowL d e with
        | bad => rw [hr] at q; exact q.elim
        | err c => exact (rowL_noerr hr).elim
        | ok xs =>
          rw [hr] at q
          obtain ⟨rs, k, h1, rfl, h3⟩ := rowL_inv hr
          obtain rfl : y = V.int k := wy
          obtain ⟨a, vs, rfl, ha, hlen, hget⟩ := view_rows sj (w.mono (Same.refl _) jn_l) h1
          have h4 := h3
          unfold atI at h4
          cases hx : ixN rs.length k with
          | none => rw [hx] at h4; cases h4
          | some m =>
            rw [hx] at h4
            obtain ⟨u, hu, bb, us, rfl, hb1, hb2⟩ := hget m _ h4
            have sH : Same (jn C.H0 C.F0) H1 := (r.ext.jnIn r.sub).h.trans x1.h
            have s2 : Same (jn C.H0 C.F0) (jn F1 C.H0) := jn_in (jn_r s1 (r.ext.h.trans x1.h)) ((r.ext.f.trans x1.f).trans jn_l)
            refine .inl ⟨a, vs, k, .ref bb, rfl, rfl, SqL.of (sH _ _ ha), ?_, bb, rfl, ⟨us, SqL.of (sH _ _ hb1)⟩, ?_⟩
            · unfold atI
              rw [hlen, hx]
              exact hu
            · rw [hC]
              exact q _ F1 H1 x1 s1 (iter_list (SqL.of (by rw [if_pos rfl]; exact s2 _ _ hb1)) (hb2.mono (r.ext.f.trans x1.f)))
end
end DL
/-! the D layer: every row of one's own rows is cleared -/
namespace DL
open PySem PySem.Spec PyProof.Rows L2
def clrD (k : Nat) (rs : List D) : List D := (rs.take k).map (fun _ => .lst []) ++ rs.drop k
theorem set_self {α : Type} {l : List α} {i : Nat} {a : α} (h : l[i]? = some a) : l.set i a = l := by
  apply List.ext_getElem?
  intro k
  by_cases hk : i = k
  · subst hk
    rw [List.getElem?_set_self (List.getElem?_eq_some_iff.mp h).1, h]
  · rw [List.getElem?_set_ne hk]
theorem clr_zero {rs : List D} : clrD 0 rs = rs := rfl
theorem clr_all {rs : List D} : clrD rs.length rs = rs.map fun _ => .lst [] := by
  unfold clrD
  rw [List.take_length, List.drop_length, List.append_nil]
theorem clr_at {rs : List D} {k : Nat} (h : k < rs.length) : (clrD k rs)[k]? = some rs[k] := by
  unfold clrD
  have hl : ((rs.take k).map fun _ => D.lst []).length = k := by rw [List.length_map, List.length_take]; omega
  rw [List.getElem?_append_right (by omega), hl, Nat.sub_self, List.getElem?_drop, Nat.add_zero, List.getElem?_eq_getElem h]
theorem clr_len {rs : List D} {k : Nat} : (clrD k rs).length = rs.length := by
  unfold clrD
  rw [List.length_append, List.length_map, List.length_take, List.length_drop]; omega
theorem clr_set {rs : List D} {k : Nat} (h : k < rs.length) : (clrD k rs).set k (.lst []) = clrD (k + 1) rs := by
  unfold clrD
  have hl : ((rs.take k).map fun _ => D.lst []).length = k := by rw [List.length_map, List.length_take]; omega
  rw [List.set_append_right _ _ (by omega), hl, Nat.sub_self, List.drop_eq_getElem_cons h, List.set_cons_zero, List.take_succ_eq_append_getElem h, List.map_append, List.append_assoc]
  rfl
section
variable {X : Cx} {C : Cd} {e o : Expr} {pos p apos cpos : Pos} {σ : L2.St} {F H : Hp} {i j : Nat} {x : Str}
def clrE (i j k : Nat) (rs : List D) (ρ : En) : En := (ρ.set i (some (true, .rows (clrD k rs)))).set j none
theorem s_rowsClr (hc : X.calm = true) (hC : X.K = C.K) (hN : X.N.Nodup) (hv : PE X e (tVar i)) (ho : PE X o (tVar j)) (hp : PassesOwn (model X.prog X.w) X.A X.env X.xe) (hij : i ≠ j := by decide) (hcj : C.ln j = none := by rfl) (hj : X.N[j]? = some x := by rfl) (hx : Loc X.env.scope x := by first | exact .inl rfl | exact .inr rfl) (hf : X.fn x = true ∨ X.env.scope.names.lookup x = some .local := by first | exact .inl rfl | exact .inr rfl | assumption)
    (hbase : attributeBase o "clear" X.env (eval o X.env) = eval o X.env := by rfl) (hline : (apos.endLine == cpos.line) = true := by rfl)
    (hsw : swapsWith (.Call (.Attribute o "clear" apos) [] [] cpos) none pos.line X.env = pure false := by rfl) (hs : ∀ x, foldedSetIterable e X.env x = pure x := by intro _; rfl) :
    PS X (.For (.Name x p) e [.Expr (.Call (.Attribute o "clear" apos) [] [] cpos) pos] [] p2) (tS C (sRowsClr i j)) :=
  (ps_for hp hc (pi_list hv) (pg_len hN hj hx hf) (pss_one (ps_expr (pe_bm0 PySem.F.plainAttrs_list PySem.F.slot_list_clear PySem.F.type_list_clear mt_clear ho hbase hline) hsw)) hs).mono fun T σ H ⟨ρ, F, r, q⟩ => by
    rw [rowsClr_ap] at q
    cases hd : ρ[i]? with
    | none => rw [hd] at q; exact q.elim
    | some s =>
      rw [hd] at q
      cases s with
      | none => exact q.elim
      | some bd =>
        obtain ⟨b, d⟩ := bd
        have key : b = true ∧ ∃ rs, d = .rows rs := by cases b <;> cases d <;> first | exact q.elim | exact ⟨rfl, _, rfl⟩
        obtain ⟨rfl, rs, rfl⟩ := key
        rw [rowsClr_ok] at q
        have q : ∀ σ' F' H', Same F F' → Rel C (clrE i j rs.length rs ρ) σ' F' H' → T.nx σ' H' := fun σ' F' H' s' r' => q σ' F' H' s' (by unfold clrE at r'; rw [clr_all] at r'; exact r')
        obtain ⟨l, hl, n, nd, own⟩ := r.ownF i _ hd
        obtain ⟨vs, hH, ra⟩ := own
        have hi : i < ρ.length := (List.getElem?_eq_some_iff.mp hd).1
        have hlen := ra.length
        have ef : foot H l (.rows rs) = l :: vs.filterMap refOf := by rw [foot_rows, kids_at hH]
        rw [ef] at nd
        have nd2 := List.nodup_cons.mp nd
        -- the name of the turn is forgotten
        have r0 : Rel C (clrE i j 0 rs ρ) σ F H := by
          have h1 : ρ.set i (some (true, .rows (clrD 0 rs))) = ρ := by
            rw [clr_zero]
            exact set_self hd
          unfold clrE
          rw [h1]
          by_cases hjl : j < σ.length
          · have := r.forget j σ[j] hcj
            rwa [set_self (List.getElem?_eq_getElem hjl)] at this
          · have := r.forget j none hcj
            rwa [show σ.set j none = σ from List.set_eq_of_length_le (by omega)] at this
        refine ⟨.ref l, hl, l, rfl, ⟨vs, SqL.of hH⟩, ?_⟩
        refine ⟨fun k m σ H => m = rs.length - k ∧ k ≤ rs.length ∧ σ[i]? = some (some (.ref l)) ∧ H l = some (.lst vs) ∧ Rel C (clrE i j k rs ρ) σ F H, ⟨_, rfl, Nat.zero_le _, hl, hH, r0⟩, ?_⟩
        rintro k m σ H ⟨rfl, hk, hσ, hH, rk⟩
        have hei : (clrE i j k rs ρ)[i]? = some (some (true, .rows (clrD k rs))) := by
          unfold clrE
          rw [List.getElem?_set_ne hij.symm, List.getElem?_set_self hi]
        by_cases hlt : k < rs.length
        · obtain ⟨l', hl', n', nd', own'⟩ := rk.ownF i _ hei
          rw [hσ] at hl'
          cases hl'
          obtain ⟨vs', hH', ra'⟩ := own'
          rw [hH] at hH'
          cases hH'
          obtain ⟨b, us, xs, h1, h2, h3, h4⟩ := ra'.get (clr_at hlt)
          have hbl : b ≠ l := fun z => nd2.1 (z ▸ filterMap_mem h1)
          refine .inr ⟨⟨vs, .ref b, SqL.of hH, h1⟩, fun σ' H' => σ'[i]? = some (some (.ref l)) ∧ H' l = some (.lst vs) ∧ Rel C (clrE i j (k + 1) rs ρ) σ' F H', fun σ' H' ⟨p1, p2, p3⟩ => ⟨_, by omega, rfl, hlt, p1, p2, p3⟩, fun xx H' yy => ?_⟩
          obtain ⟨rfl, yy⟩ := yy
          have e := (yy vs (SqL.of hH)).symm.trans h1
          cases e
          intro hjl
          have r1 : Rel C (clrE i j k rs ρ) (σ.set j (some (.ref b))) F H' := by
            have := rk.forget j (some (.ref b)) hcj
            have e2 : (clrE i j k rs ρ).set j none = clrE i j k rs ρ := by unfold clrE; rw [List.set_set]
            rwa [e2] at this
          have hσ2 : (σ.set j (some (.ref b)))[i]? = some (some (.ref l)) := by rw [List.getElem?_set_ne hij.symm]; exact hσ
          have r2 := r1.writeRow hei hσ2 hH h1 (xs' := []) (us' := []) .nil
          refine ⟨.ref b, List.getElem?_set_self hjl, .inl ⟨rfl, _, SqL.of h3⟩, b, us, rfl, rfl, h3, hσ2, by rw [upd_ne hbl.symm]; exact hH, ?_⟩
          have e3 : (clrE i j k rs ρ).set i (some (true, .rows ((clrD k rs).set k (.lst [])))) = clrE i j (k + 1) rs ρ := by
            rw [clr_set hlt]
            unfold clrE
            rw [List.set_comm _ _ hij.symm, List.set_set]
          rwa [e3] at r2
        · have e : k = rs.length := by omega
          subst e
          exact .inl ⟨⟨vs, SqL.of hH, by omega⟩, q σ F H (Same.refl _) rk⟩
/-! ### a row of lent rows is lent to an in-out def -/
theorem ixR_inv {d e z : D} (h : dIxR d e = .ok z) : ∃ rs i, rowsR d = .ok rs ∧ e = .int i ∧ atI rs i = some z := by
  unfold dIxR at h
  split at h
  · rename_i rs i
    cases ha : atI rs i with
    | none => rw [ha] at h; cases h
    | some y => rw [ha] at h; cases h; exact ⟨rs, i, rfl, rfl, ha⟩
  · rename_i rs i
    cases ha : atI rs i with
    | none => rw [ha] at h; cases h
    | some y => rw [ha] at h; cases h; exact ⟨rs, i, rfl, rfl, ha⟩
  · cases h
theorem am_row {a b : Expr} {es : List Expr} {g : En → R D} {fs : En → R (List D)} {ks : List AK} {ds : List D} (hC : X.K = C.K) (ha : PE X a (tVar i)) (hb : PE X b (tR C g)) (hr : PA X es (tAM C ks fs)) (hl : LnAt C ds i := by first | exact lnAt_of rfl (by decide) | exact lnAt_M rfl (by decide) (by decide) | exact lnAt_W rfl (by decide) (by decide)) (hs : PlainIx b := by exact fun _ _ => rfl)
    (hst : starEach (.Subscript a b pos :: es) X.env = (false, eval (.Subscript a b pos) X.env) :: starEach es X.env := by rfl) : PA X (.Subscript a b pos :: es) (tAM C (.vw :: ks) (aCons (bop (rdL ds i) g dIxR) fs)) :=
  am_cons (pe_ix (hC ▸ ix_seq) ha hb hs) hr hst fun σ ρ F H Q r ⟨z, hz, q⟩ => by
    unfold bop at hz
    cases hd : ds[i]? with
    | none =>
      have e1 : rdL ds i ρ = .bad := by unfold rdL; rw [hd]
      rw [e1] at hz; cases hz
    | some d =>
      have e1 : rdL ds i ρ = .ok d := by unfold rdL; rw [hd]
      rw [e1, bd_ok] at hz
      obtain ⟨v, hln⟩ := hl d hd
      obtain ⟨hσ, w⟩ := r.lend i _ _ hln
      have sj : Same C.F0 (jn C.H0 C.F0) := jn_r r.ext.h (r.ext.f.trans r.sub)
      refine ⟨v, hσ, ρ, F, r, ?_⟩
      cases hg : g ρ with
      | bad => rw [hg] at hz; cases hz
      | err c => rw [hg] at hz; cases hz
      | ok e =>
        rw [hg, bd_ok] at hz
        intro y F1 H1 x1 s1 wy
        obtain ⟨rs, k, h1, rfl, h3⟩ := ixR_inv hz
        obtain rfl : y = V.int k := wy
        obtain ⟨a, vs, rfl, ha, hlen, hget⟩ := view_rows sj (w.mono (Same.refl _) jn_l) h1
        have h4 := h3
        unfold atI at h4
        cases hx : ixN rs.length k with
        | none => rw [hx] at h4; cases h4
        | some m =>
          rw [hx] at h4
          obtain ⟨u, hu, wu⟩ := hget m _ h4
          have sH : Same (jn C.H0 C.F0) H1 := (r.ext.jnIn r.sub).h.trans x1.h
          refine .inl ⟨a, vs, k, u, rfl, rfl, SqL.of (sH _ _ ha), ?_, q _ F1 H1 x1 s1 wu⟩
          unfold atI
          rw [hlen, hx]
          exact hu
end
end DL
/-! the D layer: a tuple of texts that the module holds -/
namespace DL
open PySem PySem.Spec PyProof.Rows L2
structure TupC (K : PySem.W.Frag) (mg : Str → Option Value) (x : Str) (a : Addr) (ss : List Str) : Prop where
  g : mg x = some (.ref a)
  t : ∀ H, SqT K H a (ss.map V.str)
theorem TupC.of {K : PySem.W.Frag} {mg : Str → Option Value} {x : Str} {a : Addr} {ss : List Str} {o : Obj} {its : Array Value} {n : Nat} (g : mg x = some (.ref a)) (l : K.lookup a = some o) (c : o.cls = .type "tuple") (d : o.data = .seq its n) (hs : its.size ≤ sizeLine) (v : Vals (ss.map V.str) its.toList) : TupC K mg x a ss :=
  ⟨g, fun H => .inr ⟨o, its, n, l, c, d, hs, v⟩⟩
/-- the object of such a tuple -/
def TupO (o : Obj) (ss : List Str) : Prop := o.cls = .type "tuple" ∧ ∃ its n, o.data = .seq its n ∧ its.size ≤ sizeLine ∧ Vals (ss.map V.str) its.toList
theorem TupC.mk' {K : PySem.W.Frag} {mg : Str → Option Value} {x : Str} {a : Addr} {ss : List Str} {o : Obj} (g : mg x = some (.ref a)) (l : K.lookup a = some o) (h : TupO o ss) : ∃ a, TupC K mg x a ss := by
  obtain ⟨c, its, n, d, hs, v⟩ := h
  exact ⟨a, .of g l c d hs v⟩
theorem vs_nil : Vals (([] : List Str).map V.str) [] := .nil
theorem vs_cons {s : Str} {t : Tok} {ss : List Str} {us : List Value} (h : Vals (ss.map V.str) us) : Vals ((s :: ss).map V.str) (.str s t :: us) := .cons ⟨t, rfl⟩ h
def dInK (ss : List Str) (neg : Bool) : D → R D
  | .str x => .ok (.bl (xorB neg (decide (x ∈ ss))))
  | _ => .bad
theorem inK_str {ss : List Str} {neg : Bool} {x : Str} : dInK ss neg (.str x) = .ok (.bl (xorB neg (decide (x ∈ ss)))) := rfl
theorem inV_strs (x : Str) : ∀ ss : List Str, inV (.str x) (ss.map V.str) = decide (x ∈ ss)
  | [] => rfl
  | s :: ss => by
    have ih := inV_strs x ss
    unfold inV at ih ⊢
    rw [List.map_cons, List.any_cons, ih]
    show ((s == x) || decide (x ∈ ss)) = _
    rw [Bool.eq_iff_iff, Bool.or_eq_true, beq_iff_eq, decide_eq_true_eq, decide_eq_true_eq, List.mem_cons]
    exact ⟨fun h => h.imp Eq.symm id, fun h => h.imp Eq.symm id⟩
section
variable {X : Cx} {C : Cd} {a : Expr} {f : En → R D} {pos p : Pos} {x : Str} {ad : Addr} {ss : List Str}
theorem d_inK (hC : X.K = C.K) (ha : PE X a (tR C f)) (hK : TupC X.K X.mg x ad ss) (hg : Gl X x := by rfl) (hdb : (x == ("__debug__" : Str)) = false := by decide) (hm : behindInMarks .In (.Name x p) = false := by rfl) : PE X (.Compare a [.In] [.Name x p] pos) (tO C (uop f (dInK ss false))) :=
  (pe_cmpR op_in_seq ha (pe_glob (v := .ref ad) (u := .ref ad) hg hK.g rfl hdb) hm).mono fun σ H Q ⟨ρ, F, r, q⟩ => by
    refine ⟨ρ, F, r, q.fst fun d v F1 H1 _ q x1 s1 w1 => ?_⟩
    have q := Out.later q x1
    cases d with
    | str z =>
      obtain rfl : v = V.str z := w1
      refine ⟨ad, ss.map V.str, rfl, .inr (hK.t H1), rfl, ?_, ?_⟩
      · rw [List.all_map]; exact List.all_eq_true.mpr fun _ _ => rfl
      · rw [inV_strs]
        exact fin_flat q s1 rfl
    | _ => exact q.elim
theorem dt_inK (hC : X.K = C.K) (ha : PE X a (tR C f)) (hK : TupC X.K X.mg x ad ss) (hg : Gl X x := by rfl) (hdb : (x == ("__debug__" : Str)) = false := by decide) (hm : behindInMarks .In (.Name x p) = false := by rfl) : PT X (.Compare a [.In] [.Name x p] pos) (tT C (tst (uop f (dInK ss false)))) :=
  (pt_cmpR op_in_seq ha (pe_glob (v := .ref ad) (u := .ref ad) hg hK.g rfl hdb) hm).mono fun σ H Q h => by
    obtain ⟨ρ, F, r, q⟩ := t_to_o h
    refine ⟨ρ, F, r, q.fst fun d v F1 H1 _ q x1 s1 w1 => ?_⟩
    have q := Out.later q x1
    cases d with
    | str z =>
      obtain rfl : v = V.str z := w1
      refine ⟨ad, ss.map V.str, rfl, .inr (hK.t H1), rfl, ?_, ?_⟩
      · rw [List.all_map]; exact List.all_eq_true.mpr fun _ _ => rfl
      · rw [inV_strs]
        exact fin_flat q s1 rfl
    | _ => exact q.elim
end
end DL
/-! the D layer: trees that a def of flat arguments tells are new throughout; their lists may be changed -/
namespace DL
open PySem PySem.Spec PyProof.Rows L2
section
variable {K : PySem.W.Frag} {F F' H H' : Hp}
mutual
/-- each place of a tree holds a part with lists -/
theorem OwD.node (s : Same F' H') : ∀ {d : D} {v : V}, Rep K F' d v → dat1 d = true → ∀ b ∈ rch H' d v, ∃ d1, tO1 d1 = false ∧ dat1 d1 = true ∧ Rep K F' d1 (.ref b)
  | _, _, .lst (a := a) (vs := vs) (ds := ds) q t, z, b, hb => by
    simp only [rch, s _ _ q] at hb
    rcases List.mem_cons.mp hb with rfl | hb
    · exact ⟨.lst ds, rfl, z, .lst q t⟩
    · exact OwDs.node s t z b hb
  | _, _, .tup (a := a) (vs := vs) (ds := ds) q t, z, b, hb => by
    simp only [rch, s _ _ q] at hb
    split at hb
    · exact nomatch hb
    · rename_i h
      rcases List.mem_cons.mp hb with rfl | hb
      · exact ⟨.tup ds, Bool.eq_false_iff.mpr h, z, .tup q t⟩
      · exact OwDs.node s t z b hb
  | _, _, .non, _, b, hb => by simp only [rch] at hb; exact nomatch hb
  | _, _, .bl _, _, b, hb => by simp only [rch] at hb; exact nomatch hb
  | _, _, .int _, _, b, hb => by simp only [rch] at hb; exact nomatch hb
  | _, _, .str _, _, b, hb => by simp only [rch] at hb; exact nomatch hb
  | _, _, .scr _, z, _, _ => nomatch z
  | _, _, .dK _ _, z, _, _ => nomatch z
  | _, _, .dT _ _, z, _, _ => nomatch z
  | _, _, .ref _, z, _, _ => nomatch z
  | _, _, .rows _ _, z, _, _ => nomatch z
  | _, _, .exn _ _, z, _, _ => nomatch z
  | _, _, .deep _ _, z, _, _ => nomatch z
theorem OwDs.node (s : Same F' H') : ∀ {ds : List D} {vs : List V}, Reps K F' ds vs → dats ds = true → ∀ b ∈ rchs H' ds vs, ∃ d1, tO1 d1 = false ∧ dat1 d1 = true ∧ Rep K F' d1 (.ref b)
  | _, _, .nil, _, b, hb => by simp only [rchs] at hb; exact nomatch hb
  | _, _, .cons r t, z, b, hb => by
    have z := Bool.and_eq_true_iff.mp z
    simp only [rchs] at hb
    rcases List.mem_append.mp hb with hb | hb
    · exact OwD.node s r z.1 b hb
    · exact OwDs.node s t z.2 b hb
end
mutual
/-- one place holds a list within, or none -/
theorem Rep.same : ∀ {d : D} {v : V}, Rep K F d v → tO1 d = true → ∀ {d' : D}, Rep K F d' v → dat1 d' = true → tO1 d' = true
  | _, _, .non, _, _, r, z => by cases r; rfl
  | _, _, .bl b, _, _, r, z => by cases r; rfl
  | _, _, .int b, _, _, r, z => by cases r; rfl
  | _, _, .str b, _, _, r, z => by cases r; rfl
  | _, _, .tup q t, y, d', r, z => by
    cases r with
    | tup q' t' =>
      rw [q] at q'
      cases q'
      exact Reps.same t y t' z
    | lst q' t' => rw [q] at q'; cases q'
    | rows q' t' => exact nomatch z
    | scr q' => exact nomatch z
    | dK q' t' => exact nomatch z
    | dT q' t' => exact nomatch z
    | ref => exact nomatch z
    | exn q' t' => exact nomatch z
    | deep _ _ => exact nomatch z
  | _, _, .lst _ _, z, _, _, _ => nomatch z
  | _, _, .scr _, z, _, _, _ => nomatch z
  | _, _, .dK _ _, z, _, _, _ => nomatch z
  | _, _, .dT _ _, z, _, _, _ => nomatch z
  | _, _, .ref _, z, _, _, _ => nomatch z
  | _, _, .rows _ _, z, _, _, _ => nomatch z
  | _, _, .exn _ _, z, _, _, _ => nomatch z
  | _, _, .deep _ _, z, _, _, _ => nomatch z
theorem Reps.same : ∀ {ds : List D} {vs : List V}, Reps K F ds vs → tOs ds = true → ∀ {ds' : List D}, Reps K F ds' vs → dats ds' = true → tOs ds' = true
  | _, _, .nil, _, _, r, _ => by cases r; rfl
  | _, _, .cons q t, y, _, r, z => by
    cases r with
    | cons q' t' =>
      have y := Bool.and_eq_true_iff.mp y
      have z := Bool.and_eq_true_iff.mp z
      exact Bool.and_eq_true_iff.mpr ⟨Rep.same q y.1 q' z.1, Reps.same t y.2 t' z.2⟩
end
/-- settled parts side by side -/
def unF (A B : Hp) : Hp := fun a => match A a with | some o => some o | none => B a
theorem unF_l {A B : Hp} : Same A (unF A B) := fun a o h => by show (match A a with | some o => some o | none => B a) = _; rw [h]
theorem unF_h {A B : Hp} (h1 : Same A H) (h2 : Same B H) : Same (unF A B) H := fun a o h => by
  have h : (match A a with | some o => some o | none => B a) = some o := h
  split at h
  · rename_i e; cases h; exact h1 _ _ e
  · exact h2 _ _ h
theorem unF_r {A B : Hp} (h1 : Same A H) (h2 : Same B H) : Same B (unF A B) := fun a o h => by
  show (match A a with | some o => some o | none => B a) = _
  split
  · rename_i e
    have := h1 _ _ e
    rw [h2 _ _ h] at this
    exact this.symm
  · exact h
theorem unF_of {A B : Hp} {a : Addr} {o : HO} (h : unF A B a = some o) : A a = some o ∨ B a = some o := by
  have h : (match A a with | some o => some o | none => B a) = some o := h
  split at h
  · rename_i e; cases h; exact .inl e
  · exact .inr h
/-- a settled part of tuples alone -/
def TupF (K : PySem.W.Frag) (A : Hp) : Prop := ∀ a o, A a = some o → ∃ d0, tO1 d0 = true ∧ Rep K A d0 (.ref a)
theorem TupF.none : TupF K (fun _ => none) := fun _ _ h => nomatch h
theorem TupF.un {A B : Hp} (h1 : Same A H) (h2 : Same B H) (a : TupF K A) (b : TupF K B) : TupF K (unF A B) := fun c o h => by
  rcases unF_of h with h | h
  · obtain ⟨d0, z, r⟩ := a c o h
    exact ⟨d0, z, r.mono unF_l⟩
  · obtain ⟨d0, z, r⟩ := b c o h
    exact ⟨d0, z, r.mono (unF_r h1 h2)⟩
mutual
/-- a tree of tuples, settled: a part of the settled heap that holds tuples alone -/
theorem Rep.tpart : ∀ {d : D} {v : V}, Rep K F d v → tO1 d = true → ∃ A, Same A F ∧ TupF K A ∧ Rep K A d v
  | _, _, .non, _ => ⟨fun _ => none, (fun _ _ h => nomatch h), TupF.none, .non⟩
  | _, _, .bl b, _ => ⟨fun _ => none, (fun _ _ h => nomatch h), TupF.none, .bl b⟩
  | _, _, .int b, _ => ⟨fun _ => none, (fun _ _ h => nomatch h), TupF.none, .int b⟩
  | _, _, .str b, _ => ⟨fun _ => none, (fun _ _ h => nomatch h), TupF.none, .str b⟩
  | _, _, .tup (a := a) (vs := vs) (ds := ds) q t, z => by
    obtain ⟨A, h1, h2, h3⟩ := Reps.tpart t z
    have hB : Same (fun b => if b = a then some (.tup vs) else none : Hp) F := fun b o h => by
      have h : (if b = a then some (HO.tup vs) else none) = some o := h
      by_cases e : b = a
      · subst e; rw [if_pos rfl] at h; rw [q]; exact h
      · rw [if_neg e] at h; cases h
    have hr : Rep K (unF A (fun b => if b = a then some (.tup vs) else none)) (.tup ds) (.ref a) := .tup (unF_r h1 hB _ _ (if_pos rfl)) (h3.mono unF_l)
    refine ⟨_, unF_h h1 hB, fun b o h => ?_, hr⟩
    rcases unF_of h with h | h
    · obtain ⟨d0, y, r⟩ := h2 _ _ h
      exact ⟨d0, y, r.mono unF_l⟩
    · have h : (if b = a then some (HO.tup vs) else none) = some o := h
      by_cases e : b = a
      · subst e
        exact ⟨.tup ds, z, hr⟩
      · rw [if_neg e] at h; cases h
  | _, _, .lst _ _, z => nomatch z
  | _, _, .scr _, z => nomatch z
  | _, _, .dK _ _, z => nomatch z
  | _, _, .dT _ _, z => nomatch z
  | _, _, .ref _, z => nomatch z
  | _, _, .rows _ _, z => nomatch z
  | _, _, .exn _ _, z => nomatch z
  | _, _, .deep _ _, z => nomatch z
theorem Reps.tpart : ∀ {ds : List D} {vs : List V}, Reps K F ds vs → tOs ds = true → ∃ A, Same A F ∧ TupF K A ∧ Reps K A ds vs
  | _, _, .nil, _ => ⟨fun _ => none, (fun _ _ h => nomatch h), TupF.none, .nil⟩
  | _, _, .cons r t, z => by
    have z := Bool.and_eq_true_iff.mp z
    obtain ⟨A, h1, h2, h3⟩ := Rep.tpart r z.1
    obtain ⟨B, g1, g2, g3⟩ := Reps.tpart t z.2
    exact ⟨unF A B, unF_h h1 g1, h2.un h1 g1 g2, .cons (h3.mono unF_l) (g3.mono (unF_r h1 g1))⟩
end
mutual
/-- what holds no list is settled anew beside the rest -/
theorem OwD.mix (s1 : Same F H') (s2 : Same F' H') : ∀ {d : D} {v : V}, Rep K F' d v → dat1 d = true → (∃ A, Same A F' ∧ TupF K A ∧ OwD K A H' d v)
  | _, _, .non, _ => ⟨fun _ => none, (fun _ _ h => nomatch h), TupF.none, .set rfl .non⟩
  | _, _, .bl b, _ => ⟨fun _ => none, (fun _ _ h => nomatch h), TupF.none, .set rfl (.bl b)⟩
  | _, _, .int b, _ => ⟨fun _ => none, (fun _ _ h => nomatch h), TupF.none, .set rfl (.int b)⟩
  | _, _, .str b, _ => ⟨fun _ => none, (fun _ _ h => nomatch h), TupF.none, .set rfl (.str b)⟩
  | _, _, .lst (ds := ds) q t, z => by
    obtain ⟨A, a1, a2, a3⟩ := OwDs.mix s1 s2 t z
    exact ⟨A, a1, a2, .lst (s2 _ _ q) a3⟩
  | _, _, .tup (ds := ds) q t, z => by
    cases h : tOs ds with
    | true =>
      obtain ⟨B, b1, b2, b3⟩ := Rep.tpart (.tup q t) (show tO1 (.tup ds) = true from h)
      exact ⟨B, b1, b2, .set h b3⟩
    | false =>
      obtain ⟨A, a1, a2, a3⟩ := OwDs.mix s1 s2 t z
      exact ⟨A, a1, a2, .tup h (s2 _ _ q) a3⟩
  | _, _, .scr _, z => nomatch z
  | _, _, .dK _ _, z => nomatch z
  | _, _, .dT _ _, z => nomatch z
  | _, _, .ref _, z => nomatch z
  | _, _, .rows _ _, z => nomatch z
  | _, _, .exn _ _, z => nomatch z
  | _, _, .deep _ _, z => nomatch z
theorem OwDs.mix (s1 : Same F H') (s2 : Same F' H') : ∀ {ds : List D} {vs : List V}, Reps K F' ds vs → dats ds = true → (∃ A, Same A F' ∧ TupF K A ∧ OwDs K A H' ds vs)
  | _, _, .nil, _ => ⟨fun _ => none, (fun _ _ h => nomatch h), TupF.none, .nil⟩
  | _, _, .cons r t, z => by
    have z := Bool.and_eq_true_iff.mp z
    obtain ⟨A, a1, a2, a3⟩ := OwD.mix s1 s2 r z.1
    obtain ⟨B, b1, b2, b3⟩ := OwDs.mix s1 s2 t z.2
    exact ⟨unF A B, unF_h a1 b1, a2.un a1 b1 b2, .cons (OwD.mono unF_l (Same.refl _) a3) (OwDs.mono (unF_r a1 b1) (Same.refl _) b3)⟩
end
/-- a tree that was told where tuples alone were settled: it is one's own -/
theorem Rep.ownD {A0 H : Hp} {d : D} {a : Addr} (hAF : Same A0 F) (s1 : Same F H) (x : Ext A0 H F' H') (s2 : Same F' H') (hA : TupF K A0) (r : Rep K F' d (.ref a)) (z : dat1 d = true) (y : tO1 d = false) :
    ∃ F2, Ext F H F2 H' ∧ Same F2 H' ∧ (∀ b ∈ foot H' a (.deep d), H b = none ∧ F2 b = none) ∧ Own K F2 H' a (.deep d) := by
  have s1' : Same F H' := s1.trans x.h
  obtain ⟨A, a1, a2, a3⟩ := OwD.mix s1' s2 r z
  have a4 : Same A H' := a1.trans s2
  have hn : ∀ b ∈ foot H' a (.deep d), H b = none ∧ A b = none := fun b hb => by
    have hb : b ∈ rch H' d (.ref a) := by
      rcases deep_mem hb with rfl | hb
      · exact (OwD.of s2 r z).root y
      · exact hb
    obtain ⟨d1, y1, z1, r1⟩ := OwD.node s2 r z b hb
    constructor
    · cases hH : H b with
      | none => rfl
      | some o =>
        exfalso
        obtain ⟨u, hu⟩ : ∃ u, F' b = some u := by
          cases r1 with
          | lst q t => exact ⟨_, q⟩
          | tup q t => exact ⟨_, q⟩
          | rows q t => exact nomatch z1
          | scr q => exact nomatch z1
          | dK q t => exact nomatch z1
          | dT q t => exact nomatch z1
          | ref => exact nomatch z1
          | exn q t => exact nomatch z1
          | deep _ _ => exact nomatch z1
        rcases x.n b u hu with e | e
        · obtain ⟨d0, y0, r0⟩ := hA b u e
          rw [(r0.mono x.f).same y0 r1 z1] at y1
          cases y1
        · rw [hH] at e; cases e
    · cases hAb : A b with
      | none => rfl
      | some o =>
        exfalso
        obtain ⟨d0, y0, r0⟩ := a2 b o hAb
        rw [(r0.mono a1).same y0 r1 z1] at y1
        cases y1
  refine ⟨unF F A, ⟨unF_l, x.h, fun b o h => ?_⟩, unF_h s1' a4, fun b hb => ⟨(hn b hb).1, ?_⟩, OwD.mono (unF_r s1' a4) (Same.refl _) a3, y⟩
  · rcases unF_of h with h | h
    · exact .inl h
    · have h' := a1 _ _ h
      rcases x.n b o h' with e | e
      · exact .inl (hAF _ _ e)
      · exact .inr e
  · cases h : unF F A b with
    | none => rfl
    | some o =>
      exfalso
      rcases unF_of h with h | h
      · have := s1 _ _ h
        rw [(hn b hb).1] at this; cases this
      · rw [(hn b hb).2] at h; cases h
/-! what may be handed in -/
def rowT : D → Bool
  | .lst xs => tOs xs
  | _ => false
def argOk : D → Bool
  | .lst ds => tOs ds
  | .rows rs => rs.all rowT
  | d => tO1 d
theorem rows_part (s : Same F H) : ∀ {rs : List D} {vs : List V}, rs.all rowT = true → (Reps K F rs vs ∨ RowsAt K F H rs vs) → ∃ A, Same A F ∧ TupF K A ∧ RowsAt K A H rs vs
  | [], _, _, w => by
    rcases w with w | w <;> cases w <;> exact ⟨fun _ => none, (fun _ _ h => nomatch h), TupF.none, .nil⟩
  | r :: rs, _, z, w => by
    have z := Bool.and_eq_true_iff.mp (by rw [List.all_cons] at z; exact z)
    have step : ∀ {b : Addr} {us vs : List V} {xs : List D}, r = .lst xs → H b = some (.lst us) → Reps K F xs us → (Reps K F rs vs ∨ RowsAt K F H rs vs) → ∃ A, Same A F ∧ TupF K A ∧ RowsAt K A H (r :: rs) (.ref b :: vs) := fun {b us vs xs} e q t w' => by
      subst e
      obtain ⟨A, a1, a2, a3⟩ := Reps.tpart t (show tOs xs = true from z.1)
      obtain ⟨B, b1, b2, b3⟩ := rows_part s z.2 w'
      exact ⟨unF A B, unF_h a1 b1, a2.un a1 b1 b2, .cons q (a3.mono unF_l) (RowsAt.mono (unF_r a1 b1) b3 fun _ _ _ h => h)⟩
    rcases w with w | w
    · cases w with
      | cons q t =>
        cases q with
        | lst q' t' => exact step rfl (s _ _ q') t' (.inl t)
        | _ => exact nomatch z.1
    · cases w with
      | cons q t u => exact step rfl q t (.inr u)
theorem View.part (s : Same F H) {d : D} {v : V} (w : View K F H d v) (z : argOk d = true) : ∃ A, Same A F ∧ TupF K A ∧ View K A H d v := by
  cases d with
  | non => exact ⟨fun _ => none, (fun _ _ h => nomatch h), TupF.none, w⟩
  | bl b => exact ⟨fun _ => none, (fun _ _ h => nomatch h), TupF.none, w⟩
  | int b => exact ⟨fun _ => none, (fun _ _ h => nomatch h), TupF.none, w⟩
  | str b => exact ⟨fun _ => none, (fun _ _ h => nomatch h), TupF.none, w⟩
  | lst ds =>
    obtain ⟨a, vs, e, q, t⟩ := w
    obtain ⟨A, a1, a2, a3⟩ := Reps.tpart t z
    exact ⟨A, a1, a2, a, vs, e, q, a3⟩
  | tup ds =>
    obtain ⟨a, vs, e, q, t⟩ := w
    obtain ⟨A, a1, a2, a3⟩ := Reps.tpart t (show tOs ds = true from z)
    exact ⟨A, a1, a2, a, vs, e, q, a3⟩
  | rows rs =>
    obtain ⟨a, vs, e, q, t⟩ := w
    obtain ⟨A, a1, a2, a3⟩ := rows_part s z t
    exact ⟨A, a1, a2, a, vs, e, q, .inr a3⟩
  | _ => exact nomatch z
theorem Views.part (s : Same F H) : ∀ {ds : List D} {vs : List V}, Views K F H ds vs → ds.all argOk = true → ∃ A, Same A F ∧ TupF K A ∧ Views K A H ds vs
  | _, _, .nil, _ => ⟨fun _ => none, (fun _ _ h => nomatch h), TupF.none, .nil⟩
  | _, _, .cons w t, z => by
    have z := Bool.and_eq_true_iff.mp (by rw [List.all_cons] at z; exact z)
    obtain ⟨A, a1, a2, a3⟩ := w.part s z.1
    obtain ⟨B, b1, b2, b3⟩ := Views.part s t z.2
    refine ⟨unF A B, unF_h a1 b1, a2.un a1 b1 b2, .cons (a3.mono unF_l (Same.refl _)) ?_⟩
    have go : ∀ {ds : List D} {vs : List V}, Views K B H ds vs → Views K (unF A B) H ds vs := fun {ds vs} h => by
      induction h with
      | nil => exact .nil
      | cons w t ih => exact .cons (w.mono (unF_r a1 b1) (Same.refl _)) ih
    exact go b3
/-- one's own, where it holds lists -/
def boxD (d : D) : D := if tO1 d = true then d else .deep d
def callD (den : Den) (ds : List D) : R D := if ds.all argOk = true then bd (den ds) fun z => grd (dat1 z.2) (.ok (boxD z.2)) else .bad
/-- what is told: a tree of one's own -/
theorem told_new {A H0 F2 H2 : Hp} {d : D} {v : V} (hAF : Same A F) (s1 : Same F H) (x : Ext A H F2 H2) (s2 : Same F2 H2) (hA : TupF K A) (r : Rep K F2 d v) (z : dat1 d = true) (h0 : Same H0 H) : ∃ F3, Ext F H F3 H2 ∧ Same F3 H2 ∧ New K H0 F3 H2 (boxD d) v := by
  unfold boxD
  cases y : tO1 d with
  | true =>
    rw [if_pos rfl]
    obtain ⟨B, b1, b2, b3⟩ := Rep.tpart r y
    have s1' : Same F H2 := s1.trans x.h
    refine ⟨unF F B, ⟨unF_l, x.h, fun b o h => ?_⟩, unF_h s1' (b1.trans s2), .of_rep ?_ (b3.mono (unF_r s1' (b1.trans s2)))⟩
    · rcases unF_of h with h | h
      · exact .inl h
      · rcases x.n b o (b1 _ _ h) with e | e
        · exact .inl (hAF _ _ e)
        · exact .inr e
    · cases d <;> first | rfl | exact nomatch y
  | false =>
    rw [if_neg Bool.false_ne_true]
    obtain ⟨a, rfl⟩ : ∃ a, v = .ref a := by
      cases r with
      | lst => exact ⟨_, rfl⟩
      | tup => exact ⟨_, rfl⟩
      | non => exact nomatch y
      | bl => exact nomatch y
      | int => exact nomatch y
      | str => exact nomatch y
      | _ => exact nomatch z
    obtain ⟨F3, x3, s3, n3, o3⟩ := Rep.ownD hAF s1 x s2 hA r z y
    exact ⟨F3, x3, s3, .mk (fun b hb => ⟨h0.free (n3 b hb).1, (n3 b hb).2⟩) deep_nodup o3⟩
end
section
variable {X : Cx} {C : Cd} {e a : Expr} {es : List Expr} {fs : En → R (List D)} {f : En → R D} {pos p p1 apos cpos : Pos} {kk n : Nat} {fa : Addr} {fd : FuncData} {ps : List Str} {x : Str} {cls : Str → Addr} {den : Den} {CX : CXT} {E : XK} {ρ : En} {σ : L2.St} {F H : Hp}
theorem callDV_ok (hXW : ∀ c σ H, C.XW c σ H → E (.ref (cls c)) none H) (hn : ∀ ds, den ds ≠ .bad → ds.length = n) : ∀ σ H Q, tO C (fun ρ => bd (fs ρ) (callD den)) σ H Q → tCall (spV C.K cls n den) [] E (tV C fs) σ H Q := by
  rintro σ H Q ⟨ρ, F, r, q⟩
  refine out_argsV r q fun ds vs F' H' hd q x s rp => ?_
  unfold callD at q
  split at q
  · rename_i hok
    have hnb : den ds ≠ .bad := fun z => by rw [z] at q; exact q
    obtain ⟨A, a1, a2, a3⟩ := Views.part s rp hok
    refine ⟨by rw [List.append_nil, rp.length]; exact hn ds hnb, A, ds, a1.trans s, by rw [List.append_nil]; exact a3, ?_⟩
    cases hden : den ds with
    | bad => exact hnb hden
    | err c =>
      rw [hden] at q
      exact fun F2 H2 x2 s2 => hXW c σ H2 (q F' H2 (Ext.heap x2.h) (s.trans x2.h))
    | ok z =>
      rw [hden] at q
      obtain ⟨o, d⟩ := z
      intro v F2 H2 x2 s2 w
      obtain ⟨hz, q⟩ := grd_out (c := dat1 d) q
      have : ∃ F3, Ext A H' F3 H2 ∧ Same F3 H2 ∧ Rep C.K F3 d v := by
        cases o with
        | false => exact ⟨F2, x2, s2, by simpa using w⟩
        | true =>
          have w' : New C.K H' F2 H2 d v := by simpa using w
          obtain ⟨F3, x3, _, s3, w3⟩ := w'.rep s2 x2
          exact ⟨F3, x3, s3, w3⟩
      obtain ⟨F3, x3, s3, w3⟩ := this
      obtain ⟨F4, x4, s4, w4⟩ := told_new a1 s x3 s3 a2 w3 hz x.h
      exact q v F4 H2 x4 s4 w4
  · exact q.elim
/-- such a call, of a def that is lent what it reads -/
theorem d_callDV (Fo : FnOk X.prog X.w X.K X.mg X.base CX kk fa fd ps (spV C.K cls n den)) (hn : ∀ ds, den ds ≠ .bad → ds.length = n) (hr : Room kk X.A) (hm : X.mg x = some (.ref fa)) (hk : PySem.W.keepIn X.K (.ref fa) = true) (hb : Binds X.K fd ps []) (hx : Passes CX X E) (hXW : ∀ c σ H, C.XW c σ H → E (.ref (cls c)) none H)
    (ha : PA X (e :: es) (tV C fs)) (hg : Gl X x := by rfl) (hdb : (x == ("__debug__" : Str)) = false := by decide) (he : starEach (e :: es) X.env = (false, eval e X.env) :: starEach es X.env := by rfl) (hpl : (backTo pos (starEach es X.env)).any (·.1) = false := by rfl) :
    PE X (.Call (.Name x p) (e :: es) [] pos) (tO C (nop fs (callD den))) := (pe_call Fo hr hg hm hk hb .nil hx ha hdb he hpl).mono (callDV_ok hXW hn)
def tupA (d : D) : Bool := tO1 d
def callDE (den : Den) (ds : List D) : R D := if ds.all tO1 = true then bd (den ds) fun z => grd (dat1 z.2) (.ok (boxD z.2)) else .bad
theorem callDE_ok (hXW : ∀ c σ H, C.XW c σ H → E (.ref (cls c)) none H) (hn : ∀ ds, den ds ≠ .bad → ds.length = n) : ∀ σ H Q, tO C (fun ρ => bd (fs ρ) (callDE den)) σ H Q → tCall (spD C.K cls n den) [] E (tA C fs) σ H Q := by
  rintro σ H Q ⟨ρ, F, r, q⟩
  refine out_args r q fun ds vs F' H' hd q x s rp => ?_
  unfold callDE at q
  split at q
  · rename_i hok
    have hnb : den ds ≠ .bad := fun z => by rw [z] at q; exact q
    have hok' : tOs ds = true := by
      have : ∀ ds : List D, ds.all tO1 = true → tOs ds = true := fun ds => by
        induction ds with
        | nil => exact fun _ => rfl
        | cons d ds ih =>
          intro h
          rw [List.all_cons] at h
          have h := Bool.and_eq_true_iff.mp h
          exact Bool.and_eq_true_iff.mpr ⟨h.1, ih h.2⟩
      exact this ds hok
    obtain ⟨A, a1, a2, a3⟩ := Reps.tpart rp hok'
    refine ⟨by rw [List.append_nil, rp.length]; exact hn ds hnb, A, ds, a1.trans s, by rw [List.append_nil]; exact a3, ?_⟩
    cases hden : den ds with
    | bad => exact hnb hden
    | err c =>
      rw [hden] at q
      exact fun F2 H2 x2 s2 => hXW c σ H2 (q F' H2 (Ext.heap x2.h) (s.trans x2.h))
    | ok z =>
      rw [hden] at q
      obtain ⟨o, d⟩ := z
      intro v F2 H2 x2 s2 w
      obtain ⟨hz, q⟩ := grd_out (c := dat1 d) q
      have : ∃ F3, Ext A H' F3 H2 ∧ Same F3 H2 ∧ Rep C.K F3 d v := by
        cases o with
        | false => exact ⟨F2, x2, s2, by simpa using w⟩
        | true =>
          have w' : New C.K H' F2 H2 d v := by simpa using w
          obtain ⟨F3, x3, _, s3, w3⟩ := w'.rep s2 x2
          exact ⟨F3, x3, s3, w3⟩
      obtain ⟨F3, x3, s3, w3⟩ := this
      obtain ⟨F4, x4, s4, w4⟩ := told_new a1 s x3 s3 a2 w3 hz x.h
      exact q v F4 H2 x4 s4 w4
  · exact q.elim
theorem d_callDE (Fo : FnOk X.prog X.w X.K X.mg X.base CX kk fa fd ps (spD C.K cls n den)) (hn : ∀ ds, den ds ≠ .bad → ds.length = n) (hr : Room kk X.A) (hm : X.mg x = some (.ref fa)) (hk : PySem.W.keepIn X.K (.ref fa) = true) (hb : Binds X.K fd ps []) (hx : Passes CX X E) (hXW : ∀ c σ H, C.XW c σ H → E (.ref (cls c)) none H)
    (ha : PA X (e :: es) (tA C fs)) (hg : Gl X x := by rfl) (hdb : (x == ("__debug__" : Str)) = false := by decide) (he : starEach (e :: es) X.env = (false, eval e X.env) :: starEach es X.env := by rfl) (hpl : (backTo pos (starEach es X.env)).any (·.1) = false := by rfl) :
    PE X (.Call (.Name x p) (e :: es) [] pos) (tO C (nop fs (callDE den))) := (pe_call Fo hr hg hm hk hb .nil hx ha hdb he hpl).mono (callDE_ok hXW hn)
/-! such a tree is lent to a test, as settled -/
theorem Rel.undeep {i : Nat} {d : D} (r : Rel C ρ σ F H) (h : ρ[i]? = some (some (true, .deep d))) (z : dat1 d = true) : ∃ F', Same F F' ∧ Rel C (ρ.set i (some (false, d))) σ F' H := by
  obtain ⟨a, q, n, nd, o⟩ := r.ownF i _ h
  let F' : Hp := fun b => if b ∈ foot H a (.deep d) then H b else F b
  have s1 : Same F F' := fun b u e => by
    show (if b ∈ foot H a (.deep d) then H b else F b) = _
    rw [if_neg (fun y => by rw [(n b y).1] at e; cases e)]
    exact e
  have s2 : Same F' H := fun b u e => by
    have e : (if b ∈ foot H a (.deep d) then H b else F b) = some u := e
    split at e
    · exact e
    · exact r.sub _ _ e
  have rp : Rep C.K F' d (.ref a) := OwD.rep s1 o.1 z fun b hb => if_pos (mem_deep hb)
  have r2 := r.settleP h q (fun _ h => h) s1 s2 (fun c o e => by
    have e : (if c ∈ foot H a (.deep d) then H c else F c) = some o := e
    split at e
    · rename_i y; exact .inr y
    · exact .inl e)
  refine ⟨F', s1, ⟨r2.ext, r2.sub, by rw [List.length_set]; exact r.len, fun j e' h => ?_, fun j e' h => ?_, fun j k d' e' b b' c h1 h2 h3 h4 h5 h6 => ?_, r.lend⟩⟩
  · rcases get_set h with ⟨rfl, z⟩ | ⟨nn, z⟩
    · cases z
      exact ⟨_, q, rp⟩
    · exact r2.slot j e' (by rw [List.getElem?_set_ne nn]; exact z)
  · rcases get_set h with ⟨rfl, z⟩ | ⟨nn, z⟩
    · cases z
    · exact r2.ownF j e' (by rw [List.getElem?_set_ne nn]; exact z)
  · rcases get_set h1 with ⟨rfl, z⟩ | ⟨n1, z⟩
    · cases z
    · rcases get_set h2 with ⟨rfl, z'⟩ | ⟨n2, z'⟩
      · cases z'
      · exact r.apartF j k _ _ b b' c z z' h3 h4 h5 h6
def undeep (i : Nat) (ρ : En) : Option En := match ρ[i]? with
  | some (some (true, .deep d)) => if dat1 d = true then some (ρ.set i (some (false, d))) else none
  | some (some (true, _)) => none
  | _ => some ρ
theorem Rel.undeepO {i : Nat} {ρ' : En} (r : Rel C ρ σ F H) (h : DL.undeep i ρ = some ρ') : ∃ F', Same F F' ∧ Same F' H ∧ Rel C ρ' σ F' H := by
  unfold DL.undeep at h
  split at h
  · rename_i d hd
    split at h
    · rename_i z
      cases h
      obtain ⟨F', s, r'⟩ := r.undeep hd z
      exact ⟨F', s, r'.sub, r'⟩
    · cases h
  · cases h
  · cases h; exact ⟨F, Same.refl _, r.sub, r⟩
def lendT (i : Nat) (t : En → R Bool) : En → R Bool := fun ρ => match undeep i ρ with
  | some ρ' => t ρ'
  | none => .bad
theorem t_lend {i : Nat} {t : En → R Bool} (h : PT X e (tT C t)) : PT X e (tT C (lendT i t)) := h.mono fun σ H Q ⟨ρ, F, r, q⟩ => by
  unfold lendT at q
  cases hu : undeep i ρ with
  | none => rw [hu] at q; exact q.elim
  | some ρ' =>
    simp only [hu] at q
    obtain ⟨F', s1, s2, r'⟩ := r.undeepO hu
    refine ⟨ρ', F', r', ?_⟩
    cases ht : t ρ' with
    | bad => rw [ht] at q; exact q
    | err c => rw [ht] at q; exact fun F1 H1 x1 y1 => q F H1 (Ext.heap x1.h) (r.sub.trans x1.h)
    | ok b => rw [ht] at q; exact fun F1 H1 x1 y1 => q F H1 (Ext.heap x1.h) (r.sub.trans x1.h)
/-- .. and to an expression that tells a number, a text, a truth -/
def lendF (i : Nat) (f : En → R D) : En → R D := fun ρ => match undeep i ρ with
  | some ρ' => bd (f ρ') fun d => grd (flatB d) (.ok d)
  | none => .bad
theorem e_lend {i : Nat} (h : PE X e (tE C f)) : PE X e (tO C (lendF i f)) := h.mono fun σ H Q ⟨ρ, F, r, q⟩ => by
  unfold lendF at q
  cases hu : undeep i ρ with
  | none => rw [hu] at q; exact q.elim
  | some ρ' =>
    simp only [hu] at q
    obtain ⟨F', s1, s2, r'⟩ := r.undeepO hu
    refine ⟨ρ', F', r', ?_⟩
    cases ht : f ρ' with
    | bad => rw [ht] at q; exact q
    | err c => rw [ht] at q; exact fun F1 H1 x1 y1 => q F H1 (Ext.heap x1.h) (r.sub.trans x1.h)
    | ok d =>
      rw [ht] at q
      obtain ⟨hf, q⟩ := grd_out (c := flatB d) q
      intro v F1 H1 x1 y1 w
      refine q v F H1 (Ext.heap x1.h) (r.sub.trans x1.h) ?_
      cases w with
      | non => exact .non
      | bl b => exact .bl b
      | int b => exact .int b
      | str b => exact .str b
      | _ => exact nomatch hf
end
/-! a list of such a tree is changed: what its lists hold is forgotten -/
mutual
def jkB : D → Nat
  | .lst ds => ds.length
  | .junk n => n
  | .tup ds => jkBs ds
  | _ => 0
def jkBs : List D → Nat
  | [] => 0
  | d :: ds => max (jkB d) (jkBs ds)
end
mutual
def jkD (N : Nat) : D → D
  | .lst _ => .junk N
  | .junk _ => .junk N
  | .tup ds => .tup (jkDs N ds)
  | d => d
def jkDs (N : Nat) : List D → List D
  | [] => []
  | d :: ds => jkD N d :: jkDs N ds
end
mutual
theorem jkD_id {N : Nat} : ∀ {d : D}, tO1 d = true → jkD N d = d
  | .tup ds, h => by
    simp only [jkD]
    rw [jkDs_id (show tOs ds = true from h)]
  | .non, _ => by simp only [jkD]
  | .bl _, _ => by simp only [jkD]
  | .int _, _ => by simp only [jkD]
  | .str _, _ => by simp only [jkD]
theorem jkDs_id {N : Nat} : ∀ {ds : List D}, tOs ds = true → jkDs N ds = ds
  | [], _ => by simp only [jkDs]
  | d :: ds, h => by
    have h := Bool.and_eq_true_iff.mp h
    simp only [jkDs]
    rw [jkD_id h.1, jkDs_id h.2]
end
theorem rch_flat {H : Hp} {d : D} {v : V} (h : tO1 d = true) : rch H d v = [] := by
  cases d with
  | tup ds =>
    have h : tOs ds = true := h
    cases v <;> simp only [rch, h, if_true]
  | lst ds => exact nomatch h
  | junk n => exact nomatch h
  | _ => cases v <;> simp only [rch]
theorem OwDs.length {K : PySem.W.Frag} {F H : Hp} : ∀ {ds : List D} {vs : List V}, OwDs K F H ds vs → vs.length = ds.length
  | _, _, .nil => rfl
  | _, _, .cons _ t => congrArg (· + 1) (OwDs.length t)
section
variable {K : PySem.W.Frag} {F H H' : Hp} {c : Addr} {us us' : List V} {N : Nat}
mutual
theorem OwD.jk (hH : ∀ b, b ≠ c → H' b = H b) (hc : H c = some (.lst us)) (hc' : H' c = some (.lst us')) (hl : us'.length ≤ us.length + 1) : ∀ {d : D} {v : V}, OwD K F H d v → jkB d + 1 ≤ N →
    OwD K F H' (jkD N d) v ∧ (∀ b ∈ rch H' (jkD N d) v, b ∈ rch H d v) ∧ tO1 (jkD N d) = tO1 d
  | d, v, .set z r, _ => by
    rw [jkD_id z]
    exact ⟨.set z r, (fun b hb => by rw [rch_flat z] at hb; exact nomatch hb), rfl⟩
  | _, _, .lst (a := a) (vs := vs) (ds := ds) q t, hN => by
    simp only [jkB] at hN
    simp only [jkD]
    refine ⟨?_, fun b hb => ?_, rfl⟩
    · by_cases e : a = c
      · subst e
        rw [q] at hc
        cases hc
        exact .junk hc' (by have := t.length; omega)
      · exact .junk ((hH a e).trans q) (by have := t.length; omega)
    · simp only [rch] at hb ⊢
      rw [List.mem_singleton.mp hb]
      exact List.mem_cons_self
  | _, _, .junk (a := a) (vs := vs) (n := n) q l, hN => by
    simp only [jkB] at hN
    simp only [jkD]
    refine ⟨?_, fun b hb => ?_, rfl⟩
    · by_cases e : a = c
      · subst e
        rw [q] at hc
        cases hc
        exact .junk hc' (by omega)
      · exact .junk ((hH a e).trans q) (by omega)
    · simp only [rch] at hb ⊢
      exact hb
  | _, _, .tup (a := a) (vs := vs) (ds := ds) z q t, hN => by
    simp only [jkB] at hN
    have ha : H' a = H a := hH a fun e => by subst e; rw [q] at hc; cases hc
    obtain ⟨t1, t2, t3⟩ := OwDs.jk hH hc hc' hl t hN
    have z' : tOs (jkDs N ds) = false := t3.trans z
    refine ⟨?_, fun b hb => ?_, ?_⟩
    · simp only [jkD]
      exact .tup z' (ha.trans q) t1
    · simp only [jkD, rch, z', z, Bool.false_eq_true, if_false, ha, q] at hb ⊢
      rcases List.mem_cons.mp hb with rfl | hb
      · exact List.mem_cons_self
      · exact List.mem_cons_of_mem _ (t2 b hb)
    · simp only [jkD]
      exact t3
theorem OwDs.jk (hH : ∀ b, b ≠ c → H' b = H b) (hc : H c = some (.lst us)) (hc' : H' c = some (.lst us')) (hl : us'.length ≤ us.length + 1) : ∀ {ds : List D} {vs : List V}, OwDs K F H ds vs → jkBs ds + 1 ≤ N →
    OwDs K F H' (jkDs N ds) vs ∧ (∀ b ∈ rchs H' (jkDs N ds) vs, b ∈ rchs H ds vs) ∧ tOs (jkDs N ds) = tOs ds
  | _, _, .nil, _ => by
    simp only [jkDs]
    exact ⟨.nil, (fun b hb => by simp only [rchs] at hb; exact nomatch hb), trivial⟩
  | _, _, .cons (d := d) (ds := ds) r t, hN => by
    simp only [jkBs] at hN
    obtain ⟨r1, r2, r3⟩ := OwD.jk hH hc hc' hl r (by omega)
    obtain ⟨t1, t2, t3⟩ := OwDs.jk hH hc hc' hl t (by omega)
    simp only [jkDs]
    refine ⟨.cons r1 t1, fun b hb => ?_, ?_⟩
    · simp only [rchs] at hb ⊢
      rcases List.mem_append.mp hb with hb | hb
      · exact List.mem_append_left _ (r2 b hb)
      · exact List.mem_append_right _ (t2 b hb)
    · show (tO1 (jkD N d) && tOs (jkDs N ds)) = (tO1 d && tOs ds)
      rw [r3, t3]
end
end
section
variable {X : Cx} {C : Cd} {e a o : Expr} {es : List Expr} {f : En → R D} {pos p p1 p2 apos cpos : Pos} {ρ : En} {σ : L2.St} {F H : Hp} {i : Nat} {ks : List Nat}
theorem Rel.jk {d : D} {l c : Addr} {us us' : List V} (r : Rel C ρ σ F H) (h : ρ[i]? = some (some (true, .deep d))) (q : σ[i]? = some (some (.ref l))) (hm : c ∈ rch H d (.ref l)) (hc : H c = some (.lst us)) (hl : us'.length ≤ us.length + 1) :
    Rel C (ρ.set i (some (true, .deep (jkD (jkB d + 1) d)))) σ F (upd H c (.lst us')) := by
  obtain ⟨a', q', n, nd, o⟩ := r.ownF i _ h
  rw [q] at q'
  cases q'
  obtain ⟨o1, o2, o3⟩ := OwD.jk (H' := upd H c (.lst us')) (N := jkB d + 1) (fun b hb => upd_ne hb) hc upd_same hl o.1 (Nat.le_refl _)
  have sub : ∀ b ∈ foot (upd H c (.lst us')) l (.deep (jkD (jkB d + 1) d)), b ∈ foot H l (.deep d) := fun b hb => by
    rcases deep_mem hb with rfl | hb
    · exact foot_head
    · exact mem_deep (o2 b hb)
  refine r.writeF h q (fun b hb => ?_) ⟨o1, o3.trans o.2⟩ (fun b hb => n b (sub b hb)) deep_nodup fun b hb => .inl (sub b hb)
  have : b = c := by
    by_cases z : b = c
    · exact z
    · exact absurd (upd_ne z) hb
  subst this
  exact ⟨.inl (mem_deep hm), n b (mem_deep hm)⟩
/-! places within -/
def itm (k : Nat) : D → Option D
  | .lst ds => ds[k]?
  | .tup ds => ds[k]?
  | _ => none
def atR (d : D) : List Nat → Option D
  | [] => some d
  | k :: ks => (atR d ks).bind (itm k)
def tPth (C : Cd) (i : Nat) (ks : List Nat) : TE := fun σ H Q => ∃ ρ F d d0, Rel C ρ σ F H ∧ ρ[i]? = some (some (true, .deep d)) ∧ atR d ks = some d0 ∧
  ∀ v, OwD C.K F H d0 v → (∀ a, σ[i]? = some (some (.ref a)) → ∀ b ∈ rch H d0 v, b ∈ rch H d (.ref a)) → Q v H
theorem OwDs.get {K : PySem.W.Frag} : ∀ {ds : List D} {vs : List V} {k : Nat} {d : D}, OwDs K F H ds vs → ds[k]? = some d → ∃ v, vs[k]? = some v ∧ OwD K F H d v ∧ ∀ b ∈ rch H d v, b ∈ rchs H ds vs
  | _, _, 0, _, .cons r t, h => by cases h; exact ⟨_, rfl, r, fun b hb => by simp only [rchs]; exact List.mem_append_left _ hb⟩
  | _, _, k + 1, _, .cons r t, h => by
    obtain ⟨v, h1, h2, h3⟩ := OwDs.get (k := k) t h
    exact ⟨v, h1, h2, fun b hb => by simp only [rchs]; exact List.mem_append_right _ (h3 b hb)⟩
theorem tOs_at : ∀ {ds : List D} {k : Nat} {d : D}, tOs ds = true → ds[k]? = some d → tO1 d = true
  | _ :: _, 0, _, h, e => by cases e; exact (Bool.and_eq_true_iff.mp h).1
  | _ :: ds, k + 1, _, h, e => tOs_at (ds := ds) (k := k) (Bool.and_eq_true_iff.mp h).2 e
theorem p_var (h : PE X e (tVar i)) : PE X e (tPth C i []) := h.mono fun σ H Q ⟨ρ, F, d, d0, r, hd, h0, q⟩ => by
  cases h0
  obtain ⟨a, hs, n, nd, o⟩ := r.ownF i _ hd
  exact ⟨_, hs, q _ o.1 fun a' ha b hb => by rw [hs] at ha; cases ha; exact hb⟩
theorem p_ix {k : Nat} {j : Nat} (hC : X.K = C.K) (h : PE X a (tPth C i ks)) (hs : PlainIx (.Constant (.int (k : Int)) j p2) := by exact fun _ _ => rfl) : PE X (.Subscript a (.Constant (.int (k : Int)) j p2) p1) (tPth C i (k :: ks)) :=
  (pe_ix (hC ▸ ix_seq) h pe_int hs).mono fun σ H Q ⟨ρ, F, d, d0, r, hd, h0, q⟩ => by
    simp only [atR] at h0
    cases h1 : atR d ks with
    | none => rw [h1] at h0; cases h0
    | some d1 =>
      rw [h1] at h0
      have h0 : itm k d1 = some d0 := h0
      refine ⟨ρ, F, d, d1, r, hd, h1, fun v w sub => ?_⟩
      show rIx C.K v (.int (k : Int)) H Q
      cases w with
      | set z rp =>
        cases rp with
        | tup q' t =>
          obtain ⟨u, hu, ru⟩ := t.get (show _ = some d0 from h0)
          exact .inr (.inl ⟨_, _, _, _, rfl, rfl, SqT.of (r.sub _ _ q'), atI_nat hu, q u (.set (tOs_at z h0) ru) fun a' _ b hb => by rw [rch_flat (tOs_at z h0)] at hb; exact nomatch hb⟩)
        | lst => exact nomatch z
        | _ => exact nomatch h0
      | lst q' t =>
        obtain ⟨u, hu, ru, rs⟩ := t.get (show _ = some d0 from h0)
        exact .inl ⟨_, _, _, _, rfl, rfl, SqL.of q', atI_nat hu, q u ru fun a' ha b hb => sub a' ha b (by simp only [rch, q']; exact List.mem_cons_of_mem _ (rs b hb))⟩
      | tup z q' t =>
        obtain ⟨u, hu, ru, rs⟩ := t.get (show _ = some d0 from h0)
        exact .inr (.inl ⟨_, _, _, _, rfl, rfl, SqT.of q', atI_nat hu, q u ru fun a' ha b hb => sub a' ha b (by simp only [rch, z, Bool.false_eq_true, if_false, q']; exact List.mem_cons_of_mem _ (rs b hb))⟩)
      | junk q' l => exact nomatch h0
/-- a part without lists is read -/
def rdP (i : Nat) (ks : List Nat) : En → R D := fun ρ => match ρ[i]? with
  | some (some (true, .deep d)) => match atR d ks with
    | some d0 => grd (tO1 d0) (.ok d0)
    | none => .bad
  | _ => .bad
theorem v_P (h : PE X e (tPth C i ks)) : PE X e (tE C (rdP i ks)) := h.mono fun σ H Q ⟨ρ, F, r, q⟩ => by
  unfold rdP at q
  split at q
  · rename_i d hd
    cases h0 : atR d ks with
    | none => simp only [h0] at q; exact q.elim
    | some d0 =>
      simp only [h0] at q
      obtain ⟨z, q⟩ := grd_out q
      refine ⟨ρ, F, d, d0, r, hd, h0, fun v w _ => q v F H (Ext.refl _ _) r.sub ?_⟩
      cases w with
      | set z' rp => exact rp
      | lst => exact nomatch z
      | tup z' => have z : tOs _ = true := z; rw [z'] at z; cases z
      | junk => exact nomatch z
  · exact q.elim
/-! changes -/
def lstN : D → Option Nat
  | .lst ds => some ds.length
  | .junk n => some n
  | _ => none
def jkSet (i : Nat) (d : D) (ρ : En) : R Fl := .ok (.next (ρ.set i (some (true, .deep (jkD (jkB d + 1) d)))))
def sPApp (i : Nat) (ks : List Nat) (f : En → R D) : En → R Fl := fun ρ => match ρ[i]? with
  | some (some (true, .deep d)) => match (atR d ks).bind lstN with
    | some n => if n < sizeLine then bd (f ρ) fun _ => jkSet i d ρ else .bad
    | none => .bad
  | _ => .bad
theorem OwD.lstAt {K : PySem.W.Frag} {d : D} {v : V} {n : Nat} (w : OwD K F H d v) (h : lstN d = some n) : ∃ l us, v = .ref l ∧ H l = some (.lst us) ∧ us.length ≤ n ∧ l ∈ rch H d v := by
  cases w with
  | set z rp =>
    cases rp with
    | lst => exact nomatch z
    | _ => exact nomatch h
  | lst q t => cases h; exact ⟨_, _, rfl, q, Nat.le_of_eq t.length, by simp only [rch]; exact List.mem_cons_self⟩
  | tup z q t => exact nomatch h
  | junk q l => cases h; exact ⟨_, _, rfl, q, l, by simp only [rch]; exact List.mem_cons_self⟩
theorem s_pApp (ho : PE X o (tPth C i ks)) (he : PE X e (tE C f))
    (hbase : attributeBase o "append" X.env (eval o X.env) = eval o X.env := by rfl)
    (hfew : ((backTo cpos (starEach [e] X.env)).all (fun x => !x.1) && (backToKw cpos (keywordEach [] X.env)).all (fun x => x.1.isSome)
      && decide (([e] : List Expr).length + ([] : List Keyword).length + (if ([] : List Keyword).isEmpty then 0 else 1) < 30)) = true := by rfl)
    (hline : (apos.endLine == cpos.line) = true := by rfl) (hs : starEach [e] X.env = (false, eval e X.env) :: starEach [] X.env := by rfl) (hplain : (backTo cpos (starEach [] X.env)).any (·.1) = false := by rfl)
    (hsw : swapsWith (.Call (.Attribute o "append" apos) [e] [] cpos) none pos.line X.env = pure false := by rfl) : PS X (.Expr (.Call (.Attribute o "append" apos) [e] [] cpos) pos) (tS C (sPApp i ks f)) :=
  (ps_expr (pe_bm PySem.F.plainAttrs_list PySem.F.slot_list_append PySem.F.type_list_append mt_append ho (pa_cons he pa_nil hs) hbase hfew hline hs hplain) hsw).mono fun T σ H ⟨ρ, F, r, q⟩ => by
    unfold sPApp at q
    split at q
    · rename_i d hd
      cases h0 : (atR d ks).bind lstN with
      | none => simp only [h0] at q; exact q.elim
      | some n =>
        simp only [h0] at q
        obtain ⟨d0, h1, h2⟩ := Option.bind_eq_some_iff.mp h0
        refine ⟨ρ, F, d, d0, r, hd, h1, fun v w sub => ?_⟩
        obtain ⟨l, us, rfl, hl, hn, hm⟩ := w.lstAt h2
        by_cases hz : n < sizeLine
        · rw [if_pos hz] at q
          refine ⟨.inl ⟨rfl, _, SqL.of hl⟩, ρ, F, r, out_of r q fun z zv F1 H1 _ q x s r1 w1 => ?_⟩
          obtain ⟨a, hs, n', nd, ow⟩ := r.ownF i _ hd
          have hm1 : l ∈ rch H1 d (.ref a) := by
            have := (OwD.at (Same.refl F) ow.1 fun b hb => (by
              obtain ⟨u, hu⟩ := ow.1.there b hb
              exact (x.h _ _ hu).trans hu.symm)).2
            rw [this]
            exact sub a hs l hm
          exact ⟨l, us, zv, rfl, rfl, x.h _ _ hl, by omega, q σ F1 _ (Same.refl _) (r1.jk hd hs hm1 (x.h _ _ hl) (by rw [List.length_append]; exact Nat.le_refl _))⟩
        · rw [if_neg hz] at q; exact q.elim
    · exact q.elim
def sPClr (i : Nat) (ks : List Nat) : En → R Fl := fun ρ => match ρ[i]? with
  | some (some (true, .deep d)) => match (atR d ks).bind lstN with
    | some n => jkSet i d ρ
    | none => .bad
  | _ => .bad
theorem s_pClr (ho : PE X o (tPth C i ks))
    (hbase : attributeBase o "clear" X.env (eval o X.env) = eval o X.env := by rfl) (hline : (apos.endLine == cpos.line) = true := by rfl)
    (hsw : swapsWith (.Call (.Attribute o "clear" apos) [] [] cpos) none pos.line X.env = pure false := by rfl) : PS X (.Expr (.Call (.Attribute o "clear" apos) [] [] cpos) pos) (tS C (sPClr i ks)) :=
  (ps_expr (pe_bm0 PySem.F.plainAttrs_list PySem.F.slot_list_clear PySem.F.type_list_clear mt_clear ho hbase hline) hsw).mono fun T σ H ⟨ρ, F, r, q⟩ => by
    unfold sPClr at q
    split at q
    · rename_i d hd
      cases h0 : (atR d ks).bind lstN with
      | none => simp only [h0] at q; exact q.elim
      | some n =>
        simp only [h0] at q
        obtain ⟨d0, h1, h2⟩ := Option.bind_eq_some_iff.mp h0
        refine ⟨ρ, F, d, d0, r, hd, h1, fun v w sub => ?_⟩
        obtain ⟨l, us, rfl, hl, hn, hm⟩ := w.lstAt h2
        obtain ⟨a, hs, n', nd, ow⟩ := r.ownF i _ hd
        exact ⟨.inl ⟨rfl, _, SqL.of hl⟩, l, us, rfl, rfl, hl, q σ F _ (Same.refl _) (r.jk hd hs (sub a hs l hm) hl (Nat.zero_le _))⟩
    · exact q.elim
end
/-! evaluation -/
section
variable {ρ ρ' : En} {i n : Nat} {d d0 : D} {den : Den} {ds : List D} {o : Bool} {ks : List Nat}
theorem lendT_at {t : En → R Bool} (h : ρ[i]? = some (some (true, .deep d))) (z : dat1 d = true) : lendT i t ρ = t (ρ.set i (some (false, d))) := by
  unfold lendT undeep; simp only [h, z, if_true]
theorem lendT_f {t : En → R Bool} (h : ρ[i]? = some (some (false, d))) : lendT i t ρ = t ρ := by
  unfold lendT undeep; simp only [h]
theorem lendF_at {f : En → R D} (h : ρ[i]? = some (some (true, .deep d))) (z : dat1 d = true) (e : f (ρ.set i (some (false, d))) = .ok d0) (hf : flatB d0 = true) : lendF i f ρ = .ok d0 := by
  unfold lendF undeep; simp only [h, z, if_true, e]; show grd (flatB d0) (R.ok d0) = _; rw [hf]; rfl
theorem lendF_f {f : En → R D} (h : ρ[i]? = some (some (false, d))) (e : f ρ = .ok d0) (hf : flatB d0 = true) : lendF i f ρ = .ok d0 := by
  unfold lendF undeep; simp only [h, e]; show grd (flatB d0) (R.ok d0) = _; rw [hf]; rfl
theorem callDE_of (e : den ds = .ok (o, d)) (ha : ds.all tO1 = true) (z : dat1 d = true) : callDE den ds = .ok (boxD d) := by
  unfold callDE; rw [if_pos ha, e]; show grd (dat1 d) (R.ok (boxD d)) = _; rw [z]; rfl
theorem callD_of (e : den ds = .ok (o, d)) (ha : ds.all argOk = true) (z : dat1 d = true) : callD den ds = .ok (boxD d) := by
  unfold callD; rw [if_pos ha, e]; show grd (dat1 d) (R.ok (boxD d)) = _; rw [z]; rfl
theorem box_own (h : tO1 d = false) : boxD d = .deep d := by unfold boxD; rw [h]; rfl
theorem box_flat (h : tO1 d = true) : boxD d = d := by unfold boxD; rw [h]; rfl
theorem sPApp_at {f : En → R D} (h : ρ[i]? = some (some (true, .deep d))) (h0 : atR d ks = some d0) (h1 : lstN d0 = some n) (hn : n < sizeLine) {z : D} (e : f ρ = .ok z) : sPApp i ks f ρ = .ok (.next (ρ.set i (some (true, .deep (jkD (jkB d + 1) d))))) := by
  unfold sPApp; simp only [h, h0, Option.bind_some, h1, hn, if_true, e]; rfl
theorem sPClr_at (h : ρ[i]? = some (some (true, .deep d))) (h0 : atR d ks = some d0) (h1 : lstN d0 = some n) : sPClr i ks ρ = .ok (.next (ρ.set i (some (true, .deep (jkD (jkB d + 1) d))))) := by
  unfold sPClr; simp only [h, h0, Option.bind_some, h1]; rfl
theorem rdP_at (h : ρ[i]? = some (some (true, .deep d))) (h0 : atR d ks = some d0) (z : tO1 d0 = true) : rdP i ks ρ = .ok d0 := by
  unfold rdP; simp only [h, h0, z]; rfl
theorem isC_deep : isC (.deep d) = true := rfl
end
end DL
/-! the D layer: a def that takes a new container over -/
namespace DL
open PySem PySem.Spec PyProof.Rows L2
def argsO (N j : Nat) (ds : List D) : En := (List.range N).map fun i => match ds[i]? with | some d => some (decide (i = j), d) | none => none
def bodyO (n N j : Nat) (g : En → R Fl) : Den := fun ds => if ds.length = n then endD (noE (g (argsO N j ds))) else .bad
theorem ap_bodyO {n N j : Nat} {g : En → R Fl} {ds : List D} (h : ds.length = n) : bodyO n N j g ds = endD (noE (g (argsO N j ds))) := by unfold bodyO; rw [if_pos h]
theorem bodyO_len {n N j : Nat} {g : En → R Fl} : ∀ ds, bodyO n N j g ds ≠ .bad → ds.length = n := fun ds h => by
  unfold bodyO at h
  split at h
  · assumption
  · exact absurd rfl h
def isCat (j : Nat) (ds : List D) : Bool := match ds[j]? with | some d => isC d | none => false
def callT (j : Nat) (den : Den) (fs : En → R (List D)) : En → R D := fun ρ => noErr (bd (fs ρ) fun ds => if isCat j ds = true then callE den ds else .bad)
theorem callT_of {j : Nat} {den : Den} {fs : En → R (List D)} {ρ : En} {ds : List D} {o : Bool} {d : D} (h1 : fs ρ = .ok ds) (h3 : isCat j ds = true) (h2 : den ds = .ok (o, d)) : callT j den fs ρ = .ok d := by
  unfold callT
  rw [h1, bd_ok, if_pos h3]
  unfold callE
  rw [h2]; rfl
section
variable {K : PySem.W.Frag} {F F' H H' H0 : Hp}
/-- what is known of the arguments -/
structure ArgsT (K : PySem.W.Frag) (F H : Hp) (n j : Nat) (ds : List D) (vs : List V) (a : Addr) (d0 : D) : Prop where
  sub : Same F (minus H (foot H a d0))
  len : ds.length = n
  dj : ds[j]? = some d0
  vj : vs[j]? = some (.ref a)
  free : ∀ b ∈ foot H a d0, F b = none
  nd : (foot H a d0).Nodup
  own : Own K F H a d0
  rest : ∀ i, i < n → i ≠ j → ∃ d v, ds[i]? = some d ∧ vs[i]? = some v ∧ Rep K F d v
theorem argsO_get {N i j : Nat} {ds : List D} {b : Bool} {d : D} (h : (argsO N j ds)[i]? = some (some (b, d))) : b = decide (i = j) ∧ ds[i]? = some d := by
  unfold argsO at h
  rw [List.getElem?_map] at h
  cases hr : (List.range N)[i]? with
  | none => rw [hr] at h; cases h
  | some k =>
    rw [hr] at h
    have hk : k = i := by
      rw [List.getElem?_eq_some_iff] at hr
      obtain ⟨h1, h2⟩ := hr
      rw [List.getElem_range] at h2
      exact h2.symm
    subst hk
    have h : some (match ds[k]? with | some d => some (decide (k = j), d) | none => none) = some (some (b, d)) := h
    cases hd : ds[k]? with
    | none => rw [hd] at h; cases h
    | some d' =>
      rw [hd] at h
      cases h
      exact ⟨rfl, rfl⟩
theorem start_relO {N : List Str} {n j : Nat} {ds : List D} {vs : List V} {a : Addr} {d0 : D} {XW : Str → L2.St → Hp → Prop} (hl : vs.length = n) (hN : n ≤ N.length) (m : ArgsT K F H n j ds vs a d0) :
    Rel ⟨K, F, minus H (foot H a d0), XW, fun _ => none, []⟩ (argsO N.length j ds) (L2.start N vs) F H where
  ext := ⟨Same.refl _, same_minus, fun _ _ h => .inl h⟩
  sub := m.sub.trans same_minus
  len := by
    unfold L2.start argsO
    simp only [List.length_append, List.length_map, List.length_replicate, List.length_range, hl]
    omega
  slot := fun i d h => by
    obtain ⟨h1, h2⟩ := argsO_get h
    have hi : i < n := by rw [← m.len]; exact (List.getElem?_eq_some_iff.mp h2).1
    obtain ⟨d', v, e1, e2, w⟩ := m.rest i hi fun z => by rw [decide_eq_true z] at h1; cases h1
    rw [h2] at e1
    cases e1
    exact ⟨v, start_get e2, w⟩
  ownF := fun i d h => by
    obtain ⟨h1, h2⟩ := argsO_get h
    have hij : i = j := of_decide_eq_true h1.symm
    subst hij
    rw [m.dj] at h2
    cases h2
    exact ⟨a, start_get m.vj, fun b hb => ⟨m.free b hb, minus_in hb⟩, m.nd, m.own⟩
  apartF := fun i k d e _ _ _ h1 h2 _ _ _ _ => by
    have e1 : i = j := of_decide_eq_true (argsO_get h1).1.symm
    have e2 : k = j := of_decide_eq_true (argsO_get h2).1.symm
    rw [e1, e2]
  lend := fun _ _ _ h => nomatch h
/-- the promise of a def that takes its j-th argument over -/
def spO (K : PySem.W.Frag) (cls : Str → Addr) (j n : Nat) (den : Den) : Sp := fun vs H Q E => vs.length = n ∧ ∃ F ds a d0, ArgsT K F H n j ds vs a d0 ∧ match den ds with
  | .ok (o, d) => ∀ v F' H', Ext F (minus H (foot H a d0)) F' H' → Same F' H' → (if o = true then New K (minus H (foot H a d0)) F' H' d v else Rep K F' d v) → Q v H'
  | _ => False
theorem ok_defO {P : Program} {w : World} {mg : Str → Option Value} {base : Heap} {x qual : Str} {fs : Stmt} {fa : Addr} {fd : FuncData} {N ps : List Str} {k j : Nat} {cls : Str → Addr} {g : En → R Fl} (Fn : Fun K x qual fs fa fd) (S : FnScope N ps (defScope fs))
    (hb : ∀ (cdv : Value) (A : Around) (outer : List Env) (s : Shared) (H : Hp) (E : XK) (F0 H0 : Hp), Room k (A.deeper (envOfC qual (defScope fs) s.heap.objs.size fa cdv)) → PSs (cxOf CX0 P w K mg base N qual (defScope fs) fa cdv A outer s H E).nox (defBody fs) (tS ⟨K, F0, H0, fun _ _ _ => False, fun _ => none, []⟩ g)) :
    FnOk P w K mg base CX0 (k + 1) fa fd ps (spO K cls j ps.length (bodyO ps.length N.length j g)) := by
  refine Fn.ok S (fun vs H Q E h => h.1) (fun cdv A outer s H vs Q E hr h => ?_)
  obtain ⟨hl, F, ds, a, d0, m, q⟩ := h
  have hN : ps.length ≤ N.length := by
    have := congrArg List.length S.pre
    rw [List.length_take] at this
    omega
  refine ⟨_, hb cdv A outer s H E F _ hr, argsO N.length j ds, F, start_relO hl hN m, ?_⟩
  unfold bodyO at q
  rw [if_pos m.len] at q
  cases hgg : g (argsO N.length j ds) with
  | bad => rw [hgg] at q; exact q.elim
  | err c => rw [hgg] at q; exact q.elim
  | ok fl =>
    rw [hgg] at q
    cases fl with
    | next ρ' => exact fun σ' F' H' s' r' => q .non F' H' r'.ext r'.sub .non
    | ret o d => exact fun v F' H' x s' w => q v F' H' x s' (RetV.of rfl w)
    | brk ρ' => exact q.elim
    | cont ρ' => exact q.elim
/-! the call -/
theorem New.keep {d : D} {v : V} (hc : isC d = true) (x : Ext F H F' H') (n : New K H0 F H d v) : New K H0 F' H' d v := by
  unfold New at n ⊢
  rw [if_pos hc] at n ⊢
  split
  · rename_i hr
    rw [if_pos hr] at n
    obtain ⟨a, e, f, nd, o⟩ := n
    have hf : foot H' a d = foot H a d := foot_same o fun b hb => by
      obtain ⟨u, hu⟩ := o.foot b hb
      exact (x.h _ _ hu).trans hu.symm
    refine ⟨a, e, fun b hb => ?_, by rw [hf]; exact nd, o.mono x.f x.h⟩
    rw [hf] at hb
    obtain ⟨u, hu⟩ := o.foot b hb
    exact ⟨(f b hb).1, x.keepN hu (f b hb).2⟩
  · rename_i hr
    rw [if_neg hr] at n
    obtain ⟨a, e, f1, f2, o⟩ := n
    obtain ⟨u, hu⟩ := o.foot a foot_head
    exact ⟨a, e, f1, x.keepN hu f2, o.mono x.f x.h⟩
theorem New.feet {d : D} {v : V} (hc : isC d = true) (n : New K H0 F H d v) : ∃ a, v = .ref a ∧ (∀ b ∈ foot H a d, H0 b = none ∧ F b = none) ∧ (foot H a d).Nodup ∧ Own K F H a d := by
  unfold New at n
  rw [if_pos hc] at n
  split at n
  · exact n
  · rename_i hr
    obtain ⟨a, e, f1, f2, o⟩ := n
    have hf : foot H a d = [a] := foot_one (by cases h : isRows d <;> first | rfl | exact absurd h hr)
    refine ⟨a, e, fun b hb => ?_, by rw [hf]; exact List.nodup_cons.mpr ⟨List.not_mem_nil, List.nodup_nil⟩, o⟩
    rw [hf, List.mem_singleton] at hb
    subst hb
    exact ⟨f1, f2⟩
def ArgK (K : PySem.W.Frag) (H0 F H : Hp) : Bool → D → V → Prop
  | false, d, v => Rep K F d v
  | true, d, v => isC d = true → New K H0 F H d v
inductive ArgsK (K : PySem.W.Frag) (H0 F H : Hp) : List Bool → List D → List V → Prop
  | nil : ArgsK K H0 F H [] [] []
  | cons {k : Bool} {d : D} {v : V} {ks : List Bool} {ds : List D} {vs : List V} : ArgK K H0 F H k d v → ArgsK K H0 F H ks ds vs → ArgsK K H0 F H (k :: ks) (d :: ds) (v :: vs)
theorem ArgsK.later {H1 : Hp} (s : Same H0 H1) : ∀ {ks : List Bool} {ds : List D} {vs : List V}, ArgsK K H1 F H ks ds vs → ArgsK K H0 F H ks ds vs
  | _, _, _, .nil => .nil
  | _, _, _, .cons (k := k) w t => .cons (by cases k with | false => exact w | true => exact fun h => New.later s (w h)) (ArgsK.later s t)
theorem ArgsK.lens : ∀ {ks : List Bool} {ds : List D} {vs : List V}, ArgsK K H0 F H ks ds vs → ds.length = ks.length ∧ vs.length = ks.length
  | _, _, _, .nil => ⟨rfl, rfl⟩
  | _, _, _, .cons _ t => ⟨congrArg (· + 1) t.lens.1, congrArg (· + 1) t.lens.2⟩
theorem ArgsK.get : ∀ {ks : List Bool} {ds : List D} {vs : List V} {i : Nat} {k : Bool}, ArgsK K H0 F H ks ds vs → ks[i]? = some k → ∃ d v, ds[i]? = some d ∧ vs[i]? = some v ∧ ArgK K H0 F H k d v
  | _, _, _, _, _, .nil, h => by simp at h
  | _, _, _, 0, _, .cons w _, h => by cases h; exact ⟨_, _, rfl, rfl, w⟩
  | _, _, _, i + 1, _, .cons _ t, h => ArgsK.get (i := i) t h
end
section
variable {X : Cx} {C : Cd} {e : Expr} {es : List Expr} {f : En → R D} {fs : En → R (List D)} {pos p : Pos} {kk n j : Nat} {fa : Addr} {fd : FuncData} {ps : List Str} {x : Str} {cls : Str → Addr} {den : Den} {CX : CXT} {E : XK} {ks : List Bool}
def tAK (C : Cd) (ks : List Bool) (fs : En → R (List D)) : TA := fun σ H Q => ∃ ρ F, Rel C ρ σ F H ∧ match fs ρ with
  | .ok ds => ∀ vs F' H', Ext F H F' H' → Same F' H' → ArgsK C.K H F' H' ks ds vs → Q vs H'
  | _ => False
theorem ak_nil : PA X [] (tAK C [] aNil) := pa_nil.mono fun σ H Q ⟨ρ, F, r, q⟩ => q [] F H (Ext.refl _ _) r.sub .nil
theorem ak_e (ha : PE X e (tE C f)) (hr : PA X es (tAK C ks fs)) (hs : starEach (e :: es) X.env = (false, eval e X.env) :: starEach es X.env := by rfl) : PA X (e :: es) (tAK C (false :: ks) (aCons f fs)) :=
  (pa_cons ha hr hs).mono fun σ H Q ⟨ρ, F, r, q⟩ => by
    unfold aCons at q
    cases hf : f ρ with
    | bad => rw [hf] at q; exact q.elim
    | err c => rw [hf] at q; exact q.elim
    | ok d =>
      rw [hf, bd_ok] at q
      refine ⟨ρ, F, r, ?_⟩
      rw [hf]
      refine fun v F1 H1 x1 s1 w1 => ⟨ρ, F1, r.grow x1 s1, ?_⟩
      cases hg : fs ρ with
      | bad => rw [hg] at q; exact q.elim
      | err c => rw [hg] at q; exact q.elim
      | ok ds =>
        rw [hg] at q
        exact fun vs F2 H2 x2 s2 w2 => q (v :: vs) F2 H2 (x1.trans x2) s2 (.cons (Rep.mono x2.f w1) (w2.later x1.h))
theorem ak_n (ha : PE X e (tO C f)) (hr : PA X es (tAK C ks fs)) (hs : starEach (e :: es) X.env = (false, eval e X.env) :: starEach es X.env := by rfl) : PA X (e :: es) (tAK C (true :: ks) (aCons f fs)) :=
  (pa_cons ha hr hs).mono fun σ H Q ⟨ρ, F, r, q⟩ => by
    unfold aCons at q
    cases hf : f ρ with
    | bad => rw [hf] at q; exact q.elim
    | err c => rw [hf] at q; exact q.elim
    | ok d =>
      rw [hf, bd_ok] at q
      refine ⟨ρ, F, r, ?_⟩
      rw [hf]
      refine fun v F1 H1 x1 s1 w1 => ⟨ρ, F1, r.grow x1 s1, ?_⟩
      cases hg : fs ρ with
      | bad => rw [hg] at q; exact q.elim
      | err c => rw [hg] at q; exact q.elim
      | ok ds =>
        rw [hg] at q
        exact fun vs F2 H2 x2 s2 w2 => q (v :: vs) F2 H2 (x1.trans x2) s2 (.cons (fun hc => New.keep hc x2 w1) (w2.later x1.h))
def chkT (n j : Nat) (ks : List Bool) : Bool := decide (j < n) && decide (ks = (List.range n).map fun i => decide (i = j))
theorem callT_ok (hk : chkT n j ks = true) (hn : ∀ ds, den ds ≠ .bad → ds.length = n) : ∀ σ H Q, tE C (callT j den fs) σ H Q → tCall (spO C.K cls j n den) [] E (tAK C ks fs) σ H Q := by
  rintro σ H Q ⟨ρ, F, r, q⟩
  unfold chkT at hk
  rw [Bool.and_eq_true] at hk
  have hj := of_decide_eq_true hk.1
  have hks := of_decide_eq_true hk.2
  unfold callT at q
  refine ⟨ρ, F, r, ?_⟩
  cases hf : fs ρ with
  | bad => rw [hf] at q; exact q.elim
  | err c => rw [hf] at q; exact q.elim
  | ok ds =>
    rw [hf, bd_ok] at q
    intro vs F1 H1 x1 s1 w1
    by_cases hcat : isCat j ds = true
    case neg => rw [if_neg hcat] at q; exact q.elim
    rw [if_pos hcat] at q
    cases hden : den ds with
    | bad => unfold callE at q; rw [hden] at q; exact q.elim
    | err c => unfold callE at q; rw [hden] at q; exact q.elim
    | ok z =>
      obtain ⟨o, d⟩ := z
      unfold callE at q
      rw [hden] at q
      have hnb : den ds ≠ .bad := fun y => by rw [y] at hden; cases hden
      obtain ⟨l1, l2⟩ := w1.lens
      have hkl : ks.length = n := by rw [hks, List.length_map, List.length_range]
      have hkj : ∀ i, i < n → ks[i]? = some (decide (i = j)) := fun i hi => by rw [hks, List.getElem?_map, List.getElem?_range hi]; rfl
      obtain ⟨d0, v0, e1, e2, w0⟩ := w1.get (hkj j hj)
      rw [decide_eq_true rfl] at w0
      have hcd : isC d0 = true := by unfold isCat at hcat; rw [e1] at hcat; exact hcat
      obtain ⟨a, rfl, hfr, hnd, ho⟩ := New.feet hcd (w0 hcd)
      refine ⟨by rw [List.append_nil, l2, hkl], F1, ds, a, d0, ⟨same_minus_of s1 fun b hb => (hfr b hb).2, by rw [l1, hkl], e1, by rw [List.append_nil]; exact e2, fun b hb => (hfr b hb).2, hnd, ho, fun i hi hij => ?_⟩, ?_⟩
      · obtain ⟨d', v', g1, g2, w'⟩ := w1.get (hkj i hi)
        rw [decide_eq_false hij] at w'
        exact ⟨d', v', g1, by rw [List.append_nil]; exact g2, w'⟩
      · rw [hden]
        intro v F2 H2 x2 s2 w2
        have hsub : Same H (minus H1 (foot H1 a d0)) := fun b u hb => by
          rw [minus_out fun hm => by rw [(hfr b hm).1] at hb; cases hb]
          exact x1.h b u hb
        have xE : Ext F H F2 H2 := ⟨x1.f.trans x2.f, hsub.trans x2.h, fun b u hb => by
          rcases x2.n b u hb with h | h
          · rcases x1.n b u h with h | h
            · exact .inl h
            · exact .inr h
          · by_cases hm : b ∈ foot H1 a d0
            · exact .inr (hfr b hm).1
            · rw [minus_out hm] at h
              exact .inr (x1.h.free h)⟩
        cases o with
        | false => exact q v F2 H2 xE s2 (by simpa using w2)
        | true =>
          have w' : New C.K (minus H1 (foot H1 a d0)) F2 H2 d v := by simpa using w2
          obtain ⟨F3, x3, _, s3, w3⟩ := (New.later hsub w').rep s2 xE
          exact q v F3 H2 x3 s3 w3
theorem d_callT (Fo : FnOk X.prog X.w X.K X.mg X.base CX kk fa fd ps (spO C.K cls j n den)) (hn : ∀ ds, den ds ≠ .bad → ds.length = n) (hr : Room kk X.A) (hm : X.mg x = some (.ref fa)) (hk : PySem.W.keepIn X.K (.ref fa) = true) (hb : Binds X.K fd ps []) (hx : Passes CX X E)
    (ha : PA X (e :: es) (tAK C ks fs)) (hks : chkT n j ks = true := by decide) (hg : Gl X x := by rfl) (hdb : (x == ("__debug__" : Str)) = false := by decide) (he : starEach (e :: es) X.env = (false, eval e X.env) :: starEach es X.env := by rfl) (hpl : (backTo pos (starEach es X.env)).any (·.1) = false := by rfl) :
    PE X (.Call (.Name x p) (e :: es) [] pos) (tE C (callT j den fs)) := (pe_call Fo hr hg hm hk hb .nil hx ha hdb he hpl).mono (callT_ok hks hn)
end
/-! a settled list of lists, seen as rows -/
def dAsR : D → R D
  | .lst ds => .ok (.rows ds)
  | _ => .bad
section
variable {X : Cx} {C : Cd} {e : Expr} {f : En → R D}
theorem r_asR (h : PE X e (tR C f)) : PE X e (tR C (uop f dAsR)) := h.mono fun σ H Q ⟨ρ, F, r, q⟩ => by
  refine ⟨ρ, F, r, ?_⟩
  unfold uop at q
  cases hf : f ρ with
  | bad => rw [hf] at q; exact q.elim
  | err c => rw [hf] at q; exact q
  | ok d =>
    rw [hf, bd_ok] at q
    unfold dAsR at q
    split at q
    · rename_i ds
      intro v F' H' x s w
      obtain ⟨a, vs, e, h, t⟩ := w
      exact q v F' H' x s ⟨a, vs, e, h, .inl t⟩
    · exact q.elim
theorem asR_lst {ds : List D} : dAsR (.lst ds) = .ok (.rows ds) := rfl
end
/-! a path read, where the name may hold what is flat -/
def rdPQ (i : Nat) (ks : List Nat) (f : En → R D) : En → R D := fun ρ => match ρ[i]? with
  | some (some (true, .deep _)) => rdP i ks ρ
  | _ => f ρ
section
variable {X : Cx} {C : Cd} {e : Expr} {f : En → R D} {i : Nat} {ks : List Nat} {ρ : En} {d d0 : D}
theorem v_PQ (h : PE X e (tPth C i ks)) (h2 : PE X e (tE C f)) : PE X e (tE C (rdPQ i ks f)) := ⟨fun pins s σ H Q I ⟨ρ, F, r, q⟩ => by
  unfold rdPQ at q
  split at q
  · exact (v_P h).run pins s σ H Q I ⟨ρ, F, r, q⟩
  · exact h2.run pins s σ H Q I ⟨ρ, F, r, q⟩⟩
theorem rdPQ_at {f : En → R D} (h : ρ[i]? = some (some (true, .deep d))) (h0 : atR d ks = some d0) (z : tO1 d0 = true) : rdPQ i ks f ρ = .ok d0 := by
  unfold rdPQ; simp only [h]; exact rdP_at h h0 z
theorem rdPQ_f {f : En → R D} (h : ρ[i]? = some (some (false, d))) : rdPQ i ks f ρ = f ρ := by
  unfold rdPQ; simp only [h]
end
end DL
/-! the D layer: sorted(xs, key=f), f a def of one's own -/
namespace DL
open PySem PySem.Spec PySem.Calls PyProof.Rows L2
/-- a heap, one object taken out -/
def hole (h : Heap) (k : Addr) : Heap := { h with objs := h.objs.setIfInBounds k { cls := .none, data := .freed } }
theorem hole_at {h : Heap} {k : Addr} : (hole h k).get? k = none := by
  unfold hole Heap.get?
  by_cases hk : k < h.objs.size
  · simp [hk]
  · simp [Nat.le_of_not_lt hk]
theorem hole_ne {h : Heap} {k b : Addr} (e : b ≠ k) : (hole h k).get? b = h.get? b := by
  unfold hole Heap.get?
  simp [Array.getElem?_setIfInBounds, Ne.symm e]
section
variable {X : Cx} {pins : List (Addr × Obj)} {σ : L2.St} {H : Hp} {s : Shared}
/-- two built-in calls deeper, nothing raised -/
def in2 (X : Cx) : Cx := { X with A := X.A.in1.in1, xe := fun _ _ => False }
theorem inv_in2 (I : Inv X pins σ H s) : Inv (in2 X) pins σ H s :=
  ⟨⟨I.ok.mod, I.ok.kind, I.ok.glob, I.ok.blt, I.ok.above, I.ok.inj, I.ok.has, I.ok.cab, I.ok.hd, I.ok.frames, I.ok.stk, I.ok.exf, I.ok.bs, I.ok.bsz, I.ok.noex, I.ok.exfs, I.ok.funs, I.ok.frf⟩, I.os, I.bare, I.base, I.loc, I.cell, I.free, I.freeC, I.pin, I.hok, I.len⟩
theorem inv_out2 (ok : X.Ok) (I : Inv (in2 X) pins σ H s) : Inv X pins σ H s := ⟨ok, I.os, I.bare, I.base, I.loc, I.cell, I.free, I.freeC, I.pin, I.hok, I.len⟩
theorem room_in2 {k : Nat} (r : Room (k + 2) X.A) : Room k (in2 X).A := r.in1.in1
/-- a place of ours takes another object -/
theorem inv_turn {h' : Heap} {t' : Nat} {q : Addr} (I : Inv X pins σ H s) (f : FpOk X pins H q) (k : ∀ b, b ≠ q → h'.get? b = s.heap.get? b) : Inv X pins σ H { s with heap := h', toks := t' } :=
  I.turned (it := q) (fun b o hb e => (k b hb).trans e) f.1 f.2.1 f.2.2.2.1 f.2.2.2.2.1 f.2.2.2.2.2
theorem fp_heap {H' : Hp} {q : Addr} (f : FpOk X pins H q) (n : H' q = none) : FpOk X pins H' q := ⟨n, f.2⟩
theorem fp_pins {pl : List (Addr × Obj)} {q : Addr} (f : FpOk X pins H q) (n : ∀ p ∈ pl, p.1 ≠ q) : FpOk X (pins ++ pl) H q :=
  ⟨f.1, f.2.1, f.2.2.1, f.2.2.2.1, f.2.2.2.2.1, fun p hp => (List.mem_append.mp hp).elim (fun z => f.2.2.2.2.2 p (List.mem_append_left _ z)) fun z => (List.mem_append.mp z).elim (fun y => f.2.2.2.2.2 p (List.mem_append_right _ y)) fun y => n p y⟩
theorem fp_drop {pl : List (Addr × Obj)} {q : Addr} (f : FpOk X (pins ++ pl) H q) : FpOk X pins H q :=
  ⟨f.1, f.2.1, f.2.2.1, f.2.2.2.1, f.2.2.2.2.1, fun p hp => (List.mem_append.mp hp).elim (fun z => f.2.2.2.2.2 p (List.mem_append_left _ z)) fun z => f.2.2.2.2.2 p (List.mem_append_right _ (List.mem_append_left _ z))⟩
/-- an object of ours is kept as it is through a call -/
theorem inv_pin {q : Addr} {o : Obj} (I : Inv X pins σ H s) (f : FpOk X pins H q) (e : s.heap.get? q = some o) (nc : ∀ v, o.data ≠ .cell v) : Inv X (pins ++ [(q, o)]) σ H s :=
  I.pins_of fun p hp => (List.mem_append.mp hp).elim (fun z => I.pin p (List.mem_append_right _ z)) fun z => by
    rw [List.mem_singleton.mp z]
    exact ⟨e, f.1, f.2.1, f.2.2.1, nc⟩
theorem seq_nc {c : String} {xs : Array Value} {n : Nat} : ∀ v, (seqObj c xs n).data ≠ .cell v := fun v e => by cases e
variable {kk : Nat} {fa : Addr} {fd : FuncData} {ps : List Str} {sp : Sp} {E0 : XK}
/-- the keys, one call each; then the sort -/
theorem key_run {a kS : Addr} {xs : List V} {its : List Value} {kz : List PyData} {e1 : Nat} {s0 : Shared} {H0 : Hp} {P : PySem.Fin → Shared → Prop} {E : Value → Shared → Prop} (W : Nat → List V → Hp → Prop)
    (F : FnOk X.prog X.w X.K X.mg X.base CX0 kk fa fd ps sp) (hr : Room (kk + 2) X.A) (hb : Binds X.K fd ps [])
    (I0 : Inv (in2 X) (pins ++ [(a, seqObj "list" #[] e1)]) σ H0 s0) (fa0 : FpOk (in2 X) pins H0 a) (fk0 : FpOk (in2 X) (pins ++ [(a, seqObj "list" #[] e1)]) H0 kS) (nk : s0.heap.get? kS = some (seqObj "list" #[] 0)) (na : s0.heap.get? a = some (seqObj "list" #[] e1)) (hka : kS ≠ a)
    (rx : Vals xs its) (hkz : kz.length = its.length) (hZ : its.length ≤ sizeLine) (hal : PySem.W.AllAlike kz) (hsk : PySem.W.Sortable kz) (hu : ∀ d ∈ kz, (in2 X).A.units + d.depth < cLine)
    (w0 : W 0 [] H0) (step : ∀ i x ks G, xs[i]? = some x → W i ks G → sp [x] G (fun v G' => W (i + 1) (ks ++ [v]) G') E0) (keys : ∀ ks G, W its.length ks G → DpAll X.K G ks kz)
    (fin : ∀ ks G s' h3 tk3 c, W its.length ks G → Inv (in2 X) (pins ++ [(a, seqObj "list" #[] e1)]) σ G s' → FpOk (in2 X) (pins ++ [(a, seqObj "list" #[] e1)]) G kS → (∀ b o, b ≠ a → b ≠ kS → s'.heap.get? b = some o → h3.get? b = some o) →
      ∀ out, PySem.W.KeyedOut false kz its out → h3.get? a = some (seqObj "list" (List.toArray out) c) → P (.done (.ret .none)) { s' with heap := h3, toks := tk3 }) :
    wpAny (model X.prog X.w) (in2 X).A (PyProof.Rows.ksk_rest a (.ref fa) false its.toArray e1 (.ref kS)) P E s0 := by
  unfold PyProof.Rows.ksk_rest
  refine wpAny_bind (wpAny_rule ?_)
  first
    | rw [List.forIn_toArray]
    | (rw [← Array.forIn_toList]; simp only [List.toList_toArray])
  have hlx : xs.length = its.length := rx.length
  refine wpAny_bind (PyProof.Rows.ksk_fold (fun i s' => ∃ kA n G ks, s'.heap.get? kS = some (seqObj "list" kA n) ∧ Inv (in2 X) (pins ++ [(a, seqObj "list" #[] e1)]) σ G s' ∧ FpOk (in2 X) (pins ++ [(a, seqObj "list" #[] e1)]) G kS ∧ Vals ks kA.toList ∧ ks.length = i ∧ W i ks G) its 0 s0
    ⟨#[], 0, H0, [], nk, I0, fk0, .nil, rfl, w0⟩ ?turn ?last)
  case turn =>
    rintro j u s' hj ⟨kA, n, G, ks, nk', I', fk', rk, hkl, wj⟩
    simp only [Nat.zero_add] at wj hkl ⊢
    have hjl : j < its.length := (List.getElem?_eq_some_iff.mp hj).1
    obtain ⟨x, hx⟩ : ∃ x, xs[j]? = some x := ⟨_, List.getElem?_eq_getElem (by omega)⟩
    have rxu : RelV x u := by
      obtain ⟨u', h1, h2⟩ := rx.get hx
      rw [hj] at h1
      cases h1
      exact h2
    have I2 := inv_pin I' fk' nk' seq_nc
    have run := run_fn (X := in2 X) (E := E0) F (room_in2 hr) hb .nil (fun _ _ _ _ _ _ _ z => z.elim) I2 (vs := [x]) (us := [u]) (.cons rxu .nil) (step j x ks G hx wj)
    have hz : kA.size ≤ its.length := by
      have q1 := rk.length
      have q2 : kA.toList.length = kA.size := Array.length_toList
      omega
    refine wpAny_bind (wpAny_attempt (wpAny_mono run (fun v s2 hv => ?_) fun _ _ z => z.elim))
    obtain ⟨vv, G2, I3, rv, w2⟩ := hv
    try dsimp only
    have pk := I3.pin (kS, seqObj "list" kA n) (List.mem_append_right _ (List.mem_append_right _ (List.mem_singleton_self _)))
    have nk2 : s2.heap.get? kS = some (seqObj "list" kA n) := pk.1
    have I4 : Inv (in2 X) (pins ++ [(a, seqObj "list" #[] e1)]) σ G2 s2 := I3.unpinned
    have fk2 : FpOk (in2 X) (pins ++ [(a, seqObj "list" #[] e1)]) G2 kS := fp_heap fk' pk.2.1
    have sb := Heap.SameBut.update s2.heap kS (Obj.mapSeq (·.push v))
    obtain ⟨c2, hc2⟩ : ∃ c2, (s2.heap.update kS (Obj.mapSeq (·.push v))).get? kS = some (seqObj "list" (kA.push v) c2) := ⟨_, get?_update_seq nk2 (·.push v)⟩
    refine wpAny_bind (listUpdate_at nk2 rfl ?_ (Nat.le_trans hz hZ) (Nat.le_trans (Nat.le_of_eq (Array.size_push ..)) (Nat.succ_le_succ (Nat.le_trans hz hZ))))
    refine wpAny_pure ⟨rfl, kA.push v, c2, G2, ks ++ [vv], hc2, inv_turn (t' := s2.toks) I4 fk2 sb.2, fk2, ?_, by rw [List.length_append, hkl]; rfl, w2⟩
    rw [show (kA.push v).toList = kA.toList ++ [v] by simp]
    exact rk.append (.cons rv .nil)
  case last =>
    rintro s' ⟨kA, n, G, ks, nk', I', fk', rk, hkl, wn⟩
    rw [Nat.zero_add] at wn hkl
    have dp := keys ks G wn
    have na' : s'.heap.get? a = some (seqObj "list" #[] e1) := (I'.pin (a, seqObj "list" #[] e1) (List.mem_append_right _ (List.mem_append_right _ (List.mem_singleton_self _)))).1
    obtain ⟨as, rd⟩ := Dp.readsAll (X := in2 X) I' kz ks kA.toList dp rk
    have each : PySem.W.EachIs (fun v k => ∃ as, Reads s'.heap v k as) kA.toList kz := by
      have := PySem.W.readsAll_each (h := s'.heap) (fun d : PyData => d) (bs := kz) (vs := kA.toList) (as := as) (by rw [List.map_id']; exact rd)
      exact this
    have hsz : kA.size = its.length := by
      have q1 := rk.length
      have q2 : kA.toList.length = kA.size := Array.length_toList
      omega
    try dsimp only
    refine wpAny_bind (listItems_at nk' rfl ?_)
    exact PySem.W.keyH_end (κ := PySem.W.dataKind s'.heap kz) (h₁ := hole s'.heap kS) (fun b o hb e => by
      by_cases z : b = kS
      · subst z; rw [hole_at] at e; cases e
      · rw [hole_ne z] at e; exact e) hole_at nk' na' hka (PySem.W.SortsAt.data (s := s') each hal hsk hu) hsz hZ fun h3 tk3 c k3 n3 =>
        fin ks G s' h3 tk3 c wn I' fk' (fun b o h1 h2 e => k3 b o h1 (by rw [hole_ne h2]; exact e)) _ ⟨s'.heap, kA.toList, hal, rfl, each⟩ n3
/-- the sorted list is ours now -/
theorem sort_done {q kS : Addr} {G : Hp} {h3 : Heap} {t' : Nat} {zs : List V} {out : List Value} {c : Nat} (ok : X.Ok) (I : Inv (in2 X) pins σ G s) (fq : FpOk (in2 X) pins G q) (fk : FpOk (in2 X) pins G kS)
    (k : ∀ b o, b ≠ q → b ≠ kS → s.heap.get? b = some o → h3.get? b = some o) (hz : zs.length ≤ sizeLine) (rz : Vals zs out) (e : h3.get? q = some (seqObj "list" (List.toArray out) c)) :
    Inv X pins σ (upd G q (.lst zs)) { s with heap := h3, toks := t' } := by
  have I1 := inv_out2 ok I
  have nq : ∀ b u, G b = some u → b ≠ q := fun b u h z => by rw [z, fq.1] at h; cases h
  have nk : ∀ b u, G b = some u → b ≠ kS := fun b u h z => by rw [z, fk.1] at h; cases h
  have out2 : ∀ b : Addr, b ∉ [q, kS] → b ≠ q ∧ b ≠ kS := fun b h => ⟨fun z => h (z ▸ List.mem_cons_self), fun z => h (z ▸ List.mem_cons_of_mem _ (List.mem_singleton_self _))⟩
  refine I1.call' (ch := [q, kS]) (s' := { s with heap := h3, toks := t' }) rfl ⟨fun b o h _ _ x => k b o (out2 b x).1 (out2 b x).2 h, fun b o h _ _ x => ⟨o.slots, k b o (out2 b x).1 (out2 b x).2 h⟩, fun b o _ n x => ?_, fun b o h x => ⟨o, k b o (out2 b x).1 (out2 b x).2 h⟩,
    fun b xs h => ?_, fun b o u h => ?_, fun b ps h => ⟨#[], ?_⟩⟩ (fun b u h => ?_) I.bare fun b hb => ?_
  · rw [upd_ne (out2 b x).1]; exact n
  · rw [upd_ne (nq b _ h)]; exact h
  · rw [upd_ne (nq b _ h)]; exact h
  · rw [upd_ne (nq b _ h), h]; simp
  · by_cases hb : b = q
    · subst hb
      rw [upd_same] at h
      cases h
      exact ⟨hz, out, c, rz, e⟩
    · rw [upd_ne hb] at h
      refine (I.hok b u h).stay (fun c' v hc e' => ?_) (fun c' e' => by rw [upd_ne (nq c' _ e')]; exact e') fun c' xs e' => by rw [upd_ne (nq c' _ e')]; exact e'
      rcases hc with rfl | hc
      · exact k _ _ (nq _ _ h) (nk _ _ h) e'
      · exact k _ _ (nq _ _ hc) (nk _ _ hc) e'
  · rcases List.mem_cons.mp hb with rfl | hb
    · exact ⟨fq.2.2.2.1, fq.2.1, fq.2.2.2.2.1, fq.2.2.2.2.2⟩
    · rw [List.mem_singleton.mp hb]
      exact ⟨fk.2.2.2.1, fk.2.1, fk.2.2.2.2.1, fk.2.2.2.2.2⟩
theorem vals_each {α : Type} {R : Value → V × α → Prop} (hR : ∀ v b, R v b → RelV b.1 v) : ∀ {out : List Value} {bs : List (V × α)}, PySem.W.EachIs R out bs → Vals (bs.map (·.1)) out
  | _, _, .nil => .nil
  | _, _, .cons r t => .cons (hR _ _ r) (vals_each hR t)
theorem each_zip {α : Type} : ∀ {xs : List V} {its : List Value} {ks : List α}, Vals xs its → ks.length = its.length → PySem.W.EachIs (fun (v : Value) (b : V × α) => RelV b.1 v) its (xs.zip ks)
  | _, _, [], .nil, _ => .nil
  | _, _, [], .cons _ _, h => by cases h
  | _, _, k :: ks, .nil, h => by cases h
  | _, _, k :: ks, .cons r t, h => .cons r (each_zip t (by rw [List.length_cons, List.length_cons] at h; omega))
def rSortKey (K : PySem.W.Frag) (sp : Sp) (E0 : XK) : V → Hp → VK → Prop := fun x H Q => ∃ (l : Addr) (xs : List V) (kz : List PyData) (W : Nat → List V → Hp → Prop), x = V.ref l ∧ SqL K H l xs ∧ kz.length = xs.length ∧ PySem.W.AllAlike kz ∧ PySem.W.Sortable kz ∧ (∀ d ∈ kz, d.depth ≤ 60) ∧ W 0 [] H ∧
  (∀ i x ks G, xs[i]? = some x → W i ks G → sp [x] G (fun v G' => W (i + 1) (ks ++ [v]) G') E0) ∧ (∀ ks G, W xs.length ks G → DpAll K G ks kz) ∧
  ∀ ks G q, W xs.length ks G → G q = none → Q (.ref q) (upd G q (.lst (((xs.zip kz).mergeSort (PySem.W.dataLe false (·.2))).map (·.1))))
theorem pe_sortKey {a : Expr} {t : TE} {fx : Str} {pos p p2 kpos : Pos} (F : FnOk X.prog X.w X.K X.mg X.base CX0 kk fa fd ps sp) (hr : Room (kk + 2) X.A) (hm : X.mg "sorted" = none) (hmf : X.mg fx = some (.ref fa)) (hb : Binds X.K fd ps []) (ha : PE X a t) (hg : Gl X "sorted" := by rfl) (hg2 : Gl X fx := by rfl)
    (hdb : (fx == ("__debug__" : Str)) = false := by decide) (hs : starEach [a] X.env = (false, eval a X.env) :: starEach [] X.env := by rfl)
    (he : backTo pos (starEach [a] X.env) = (false, eval a X.env) :: backTo pos (starEach [] X.env) := by rfl) (hpl : (backTo pos (starEach [a] X.env)).any (·.1) = false := by rfl)
    (hall : (backToKw pos (keywordEach [⟨some "key", .Name fx p2, kpos⟩] X.env)).all (·.1.isSome) = true := by rfl) (hnone : (backToKw pos (keywordEach [⟨some "key", .Name fx p2, kpos⟩] X.env)).any (·.1.isNone) = false := by rfl) (hks : (backToKw pos (keywordEach [⟨some "key", .Name fx p2, kpos⟩] X.env)).filterMap (·.1) = [Str.ofString "key"] := by rfl) :
    PE X (.Call (.Name "sorted" p) [a] [⟨some "key", .Name fx p2, kpos⟩] pos) (fun σ H Q => t σ H fun x H1 => rSortKey X.K sp E0 x H1 Q) := by
  refine ⟨fun pins s σ H Q I h => ?_⟩
  refine wpAny_Call_Name_kw (ld_blt (u := .builtin "sorted") I hg hm (by decide +kernel) ?_)
  refine PyProof.Rows.callWith_kw (thn ((pa_cons ha pa_nil hs).run pos pins s σ H (fun vs H1 => match vs with | [x] => rSortKey X.K sp E0 x H1 Q | _ => False) I h) fun us s1 ⟨vs, H1, I1, r1, q1⟩ => ?_) he hpl hall hnone
  rw [hks]
  show wpAny _ _ (evalAll ((do let v ← eval (.Name fx p2) X.env; standAt pos; pure v) :: (backToKw pos (keywordEach [] X.env)).map (·.2))) _ _ s1
  refine wpAny_evalAll_cons (wpAny_bind (ld_glob I1 hg2 hmf (wpAny_bind (wpAny_standAt (wpAny_pure ?_))) hdb))
  refine wpAny_evalAll_nil ?_
  match vs, r1, q1 with
  | [x], r1, q1 =>
    obtain ⟨l, xs, kz, W, rfl, hl, hkl, hal, hsk, hdp, w0, step, keys, fin⟩ := q1
    obtain rfl := Vals.ref1 r1
    obtain ⟨its, rv, hL, hz⟩ := I1.list hl
    have hlx : xs.length = its.length := rv.length
    have hu := eu65 hr
    show wpAny _ _ (call (.builtin "sorted") [.ref l] [(Str.ofString "key", .ref fa)]) _ _ s1
    refine PySem.W.sorted_of_sort hL.isList (by omega) (PyProof.Rows.ksk_s1 _ _) (fun _ => PyProof.Rows.ksk_l1 _ _) fun E' => ?_
    rw [PyProof.Rows.ksk_t1]
    generalize hq : s1.heap.objs.size + 1 = q
    have hH := PySem.W.copyHeap_at s1.heap its
    rw [hq] at hH
    have hqlt : q < (PySem.W.copyHeap s1.heap its).objs.size := Heap.lt_size hH
    unfold PyProof.Rows.ksk_tree
    refine wpAny_bind (listItems_at hH rfl ?_)
    obtain ⟨e1, he1⟩ : ∃ e1, ((PySem.W.copyHeap s1.heap its).update q (Obj.mapSeq fun _ => (#[] : Array Value))).get? q = some (seqObj "list" #[] e1) := ⟨_, get?_update_seq hH fun _ => #[]⟩
    refine wpAny_bind (listUpdate_at hH rfl ?_ (by rw [List.size_toArray]; omega) (Nat.zero_le _))
    refine wpAny_bind (seqEpoch_at he1 rfl ?_)
    refine wpAny_bind (wpAny_newTuple ?_ (by show its.length ≤ _; omega))
    refine wpAny_bind (wpAny_newList ?_ (Nat.zero_le _))
    refine wpAny_holding ?_
    generalize hA : ((PySem.W.copyHeap s1.heap its).update q (Obj.mapSeq fun _ => (#[] : Array Value))).push (seqObj "tuple" its.toArray 0) = hA'
    have hAq : hA'.get? q = some (seqObj "list" #[] e1) := by rw [← hA]; exact Heap.get?_push_of_some _ he1
    have hB : ∀ b o, s1.heap.get? b = some o → (hA'.push (seqObj "list" #[] 0)).get? b = some o := fun b o e => by
      have hne : b ≠ q := fun z => by
        have h1 : b < s1.heap.objs.size := Heap.lt_size e
        have h2 : s1.heap.objs.size + 1 = q := hq
        rw [z] at h1
        exact absurd (Nat.lt_of_lt_of_le h1 (by rw [← h2]; exact Nat.le_succ _)) (Nat.lt_irrefl _)
      refine Heap.get?_push_of_some _ ?_
      rw [← hA]
      refine Heap.get?_push_of_some _ ?_
      rw [Heap.get?_update_ne _ _ _ _ hne]
      exact PySem.W.copyHeap_old e
    have hqs : s1.heap.objs.size ≤ q := by omega
    have hks2 : q < hA'.objs.size := Heap.lt_size hAq
    have nq : H1 q = none := I1.hok.fresh hqs
    have nkS : H1 hA'.objs.size = none := I1.hok.fresh (by omega)
    have fq : FpOk X pins H1 q := I1.fpOk hqs nq
    have fk : FpOk X pins H1 hA'.objs.size := I1.fpOk (by omega) nkS
    have I2 : Inv X pins σ H1 { s1 with heap := hA'.push (seqObj "list" #[] 0), toks := s1.toks } := I1.turned (it := q) (fun b o _ e => hB b o e) fq.1 fq.2.1 fq.2.2.2.1 fq.2.2.2.2.1 fq.2.2.2.2.2
    have I3 := inv_in2 I2
    have fq3 : FpOk (in2 X) pins H1 q := fq
    have I4 := inv_pin I3 fq3 (show (hA'.push (seqObj "list" #[] 0)).get? q = some (seqObj "list" #[] e1) from Heap.get?_push_of_some _ hAq) seq_nc
    refine key_run (kS := hA'.objs.size) (xs := xs) (kz := kz) (e1 := e1) W F hr hb I4 fq3 (fp_pins fk fun p hp => by rw [List.mem_singleton.mp hp]; exact Nat.ne_of_lt hks2) (Heap.get?_push_size _ rfl) (Heap.get?_push_of_some _ hAq) (Nat.ne_of_gt hks2) rv (by omega) (by omega) hal hsk (fun d hd => by
      have := hdp d hd
      show X.A.units + 1 + 1 + d.depth < cLine
      omega) w0 step (fun ks G w => keys ks G (by rw [hlx]; exact w)) fun ks G s' h3 tk3 c wn I5 fk5 kp out ko ho => ⟨rfl, ?_⟩
    have w' : W xs.length ks G := by rw [hlx]; exact wn
    have nq5 : G q = none := (I5.pin (q, seqObj "list" #[] e1) (List.mem_append_right _ (List.mem_append_right _ (List.mem_singleton_self _)))).2.1
    have I6 : Inv (in2 X) pins σ G s' := I5.unpinned
    have hmz : (xs.zip kz).map (·.2) = kz := by rw [List.map_snd_zip]; omega
    have ko2 : PySem.W.KeyedOut false ((xs.zip kz).map (·.2)) its out := by rw [hmz]; exact ko
    have eo := PySem.W.keyedOut_each (R := fun (v : Value) (b : V × PyData) => RelV b.1 v) (·.2) ko2 (each_zip rv (by omega))
    have rz := vals_each (fun v b h => h) eo
    exact ⟨.ref q, _, sort_done I1.ok I6 (fp_heap fq3 nq5) (fp_drop fk5) kp (by rw [List.length_map, List.length_mergeSort, List.length_zip]; omega) rz ho, rfl, fin ks G q w' nq5⟩
end
/-! by length, then as lists stand -/
def rkLe (a b : List Int) : Bool := decide (a.length < b.length ∨ (a.length = b.length ∧ a ≤ b))
def irD (r : List Int) : D := .lst (r.map .int)
def rkD (r : List Int) : D := .tup [.int (r.length : Nat), irD r]
def rkP (r : List Int) : PyData := .tuple [.int (r.length : Nat), .list (r.map .int)]
def rowsI : List D → Option (List (List Int))
  | [] => some []
  | .lst ds :: rs => match asInts ds, rowsI rs with
    | some ns, some r => some (ns :: r)
    | _, _ => none
  | _ => none
def isRk (den : Den) (r : List Int) : Bool := match den [irD r] with
  | .ok (_, .tup [.int k, .lst ds]) => decide (k = (r.length : Nat)) && decide (asInts ds = some r)
  | _ => false
/-- sorted(xs, key=f) where f tells the length and the row -/
def dSortRk (den : Den) : D → R D
  | .lst ds => match rowsI ds with
    | some rs => if rs.all (isRk den) = true then .ok (.lst ((rs.mergeSort rkLe).map irD)) else .bad
    | none => .bad
  | _ => .bad
theorem asInts_of : ∀ {ds : List D} {ns : List Int}, asInts ds = some ns → ds = ns.map .int
  | [], _, h => by cases h; rfl
  | .int i :: ds, ns, h => by
    unfold asInts at h
    cases h1 : asInts ds with
    | none => rw [h1] at h; cases h
    | some r =>
      rw [h1] at h
      cases h
      rw [List.map_cons, ← asInts_of h1]
  | .non :: _, _, h => by cases h
  | .bl _ :: _, _, h => by cases h
  | .str _ :: _, _, h => by cases h
  | .lst _ :: _, _, h => by cases h
  | .tup _ :: _, _, h => by cases h
  | .scr _ :: _, _, h => by cases h
  | .dK _ :: _, _, h => by cases h
  | .dT _ :: _, _, h => by cases h
  | .ref _ :: _, _, h => by cases h
  | .rows _ :: _, _, h => by cases h
  | .exn _ :: _, _, h => by cases h
  | .deep _ :: _, _, h => by cases h
  | .junk _ :: _, _, h => by cases h
theorem rowsI_of : ∀ {ds : List D} {rs : List (List Int)}, rowsI ds = some rs → ds = rs.map irD := fun {ds} => by
  induction ds with
  | nil => intro rs h; cases h; rfl
  | cons d ds ih =>
    intro rs h
    cases d with
    | lst xs =>
      have h : (match asInts xs, rowsI ds with | some ns, some r => some (ns :: r) | _, _ => none) = some rs := h
      cases h1 : asInts xs with
      | none => rw [h1] at h; cases h
      | some ns =>
        cases h2 : rowsI ds with
        | none => rw [h1, h2] at h; cases h
        | some r =>
          rw [h1, h2] at h
          cases h
          rw [ih h2, List.map_cons]
          exact congrArg (· :: _) (congrArg D.lst (asInts_of h1))
    | _ => cases h
theorem rowsI_map : ∀ rs : List (List Int), rowsI (rs.map irD) = some rs
  | [] => rfl
  | r :: rs => by
    show (match asInts (r.map .int), rowsI (rs.map irD) with | some ns, some r => some (ns :: r) | _, _ => none) = _
    rw [asInts_map, rowsI_map rs]
theorem isRk_of {den : Den} {r : List Int} (h : isRk den r = true) : ∃ o, den [irD r] = .ok (o, rkD r) := by
  unfold isRk at h
  split at h
  · rename_i o k ds e
    have h := Bool.and_eq_true_iff.mp h
    have h1 := of_decide_eq_true h.1
    have h2 := asInts_of (of_decide_eq_true h.2)
    subst h1 h2
    exact ⟨o, e⟩
  · cases h
theorem isRk_eq {den : Den} {r : List Int} (h : ∃ o, den [irD r] = .ok (o, rkD r)) : isRk den r = true := by
  obtain ⟨o, e⟩ := h
  unfold isRk
  rw [e]
  show (decide ((r.length : Int) = (r.length : Nat)) && decide (asInts (r.map .int) = some r)) = true
  rw [asInts_map]
  simp
theorem dSortRk_of {den : Den} {rs : List (List Int)} (h : ∀ r ∈ rs, ∃ o, den [irD r] = .ok (o, rkD r)) : dSortRk den (.lst (rs.map irD)) = .ok (.lst ((rs.mergeSort rkLe).map irD)) := by
  unfold dSortRk
  simp only [rowsI_map]
  exact if_pos (List.all_eq_true.mpr fun r hr => isRk_eq (h r hr))
theorem eqv_rows : ∀ xs ys : List Int, PyData.eqvAll (xs.map .int) (ys.map .int) = decide (xs = ys)
  | [], [] => rfl
  | [], _ :: _ => rfl
  | _ :: _, [] => rfl
  | x :: xs, y :: ys => by
    show (PyData.eqv (.int x) (.int y) && PyData.eqvAll (xs.map .int) (ys.map .int)) = _
    rw [eqv_rows xs ys]
    show ((x == y) && decide (xs = ys)) = _
    by_cases h1 : x = y <;> by_cases h2 : xs = ys <;> simp [h1, h2]
theorem alike_rk (a b : List Int) : PySem.W.alike (rkP a) (rkP b) = true := by
  unfold rkP
  simp [PySem.W.alike, PySem.W.alikeAll, PySem.W.alike_ints]
theorem rk_le : PySem.W.dataLe false rkP = rkLe := by
  funext a b
  show (!PySem.W.dataLt (rkP b) (rkP a)) = rkLe a b
  unfold rkP
  have h1 : PySem.W.alike (.int (b.length : Nat)) (.int (a.length : Nat)) = true := by simp [PySem.W.alike]
  have h2 : PySem.W.alike (.list (b.map .int)) (.list (a.map .int)) = true := by simp [PySem.W.alike, PySem.W.alike_ints]
  rw [PySem.W.dataLt_pair h1 h2, PySem.W.dataLt_int]
  have h3 := congrFun (congrFun (PySem.W.dataLe_rows (fun r : List Int => r)) a) b
  have h3 : (!PySem.W.dataLt (.list (b.map .int)) (.list (a.map .int))) = decide (a ≤ b) := h3
  have e1 : PyData.eqv (.int (b.length : Nat)) (.int (a.length : Nat)) = decide ((b.length : Int) = (a.length : Int)) := rfl
  have e2 : PyData.eqv (.list (b.map .int)) (.list (a.map .int)) = decide (b = a) := eqv_rows b a
  rw [e1, e2]
  unfold rkLe
  by_cases hl : (b.length : Int) = (a.length : Int)
  · rw [decide_eq_true hl, if_pos rfl]
    have hl' : a.length = b.length := by omega
    by_cases he : b = a
    · rw [decide_eq_true he, if_pos rfl]
      subst he
      have : ¬ b.length < b.length := Nat.lt_irrefl _
      simp [List.le_refl]
    · rw [decide_eq_false he, if_neg Bool.false_ne_true, h3]
      have : ¬ a.length < b.length := by omega
      simp [this, hl']
  · rw [decide_eq_false hl, if_neg Bool.false_ne_true]
    have hl' : ¬ a.length = b.length := by omega
    by_cases h : a.length < b.length
    · have : ¬ ((b.length : Int) < (a.length : Int)) := by omega
      simp [h, this]
    · have : ((b.length : Int) < (a.length : Int)) := by omega
      simp [h, hl', this]
section
variable {X : Cx} {C : Cd} {a : Expr} {f : En → R D} {pos p p2 kpos : Pos} {kk : Nat} {fa : Addr} {fd : FuncData} {ps : List Str} {fx : Str} {den : Den} {cls : Str → Addr} {K : PySem.W.Frag} {F H : Hp}
theorem rk_pys : ∀ rs : List (List Int), pys (rs.map rkD) = some (rs.map rkP)
  | [] => rfl
  | r :: rs => by
    have h1 : ∀ ns : List Int, pys (ns.map .int) = some (ns.map .int) := fun ns => by
      induction ns with
      | nil => rfl
      | cons n ns ih => show (py (.int n)).bind _ = _; rw [List.map_cons, ih]; rfl
    show (py (rkD r)).bind _ = _
    have h2 : py (rkD r) = some (rkP r) := by
      unfold rkD irD rkP
      unfold py
      show ((py (.int (r.length : Nat))).bind fun p => (((py (.lst (r.map .int))).bind fun q => (pys []).map fun qs => q :: qs).map fun ps => p :: ps)).map PyData.tuple = _
      have h3 : py (.lst (r.map .int)) = some (.list (r.map .int)) := by unfold py; rw [h1]; rfl
      rw [h3]; rfl
    rw [h2, rk_pys rs]; rfl
theorem d_sortRk (Fo : FnOk X.prog X.w X.K X.mg X.base CX0 kk fa fd ps (spD C.K cls 1 den)) (hr : Room (kk + 2) X.A) (hC : X.K = C.K) (hm : X.mg "sorted" = none) (hmf : X.mg fx = some (.ref fa)) (hb : Binds X.K fd ps []) (ha : PE X a (tR C f)) (hg : Gl X "sorted" := by rfl) (hg2 : Gl X fx := by rfl)
    (hdb : (fx == ("__debug__" : Str)) = false := by decide) (hs : starEach [a] X.env = (false, eval a X.env) :: starEach [] X.env := by rfl)
    (he : backTo pos (starEach [a] X.env) = (false, eval a X.env) :: backTo pos (starEach [] X.env) := by rfl) (hpl : (backTo pos (starEach [a] X.env)).any (·.1) = false := by rfl)
    (hall : (backToKw pos (keywordEach [⟨some "key", .Name fx p2, kpos⟩] X.env)).all (·.1.isSome) = true := by rfl) (hnone : (backToKw pos (keywordEach [⟨some "key", .Name fx p2, kpos⟩] X.env)).any (·.1.isNone) = false := by rfl) (hks : (backToKw pos (keywordEach [⟨some "key", .Name fx p2, kpos⟩] X.env)).filterMap (·.1) = [Str.ofString "key"] := by rfl) :
    PE X (.Call (.Name "sorted" p) [a] [⟨some "key", .Name fx p2, kpos⟩] pos) (tO C (uop f (dSortRk den))) :=
  (pe_sortKey (E0 := fun _ _ _ => False) Fo hr hm hmf hb ha hg hg2 hdb hs he hpl hall hnone hks).mono (one (r := rSortKey X.K (spD C.K cls 1 den) fun _ _ _ => False) (by
    intro σ F H Q d x o s w
    unfold dSortRk at o
    split at o
    · rename_i ds
      split at o
      · rename_i rs hrs
        split at o
        · rename_i hrk
          have e := rowsI_of hrs
          subst e
          obtain ⟨q, vs, rfl, h1, r1⟩ := w
          have hvl : vs.length = rs.length := by rw [r1.length, List.length_map]
          refine ⟨q, vs, rs.map rkP, fun i ks G => ∃ F', Ext F H F' G ∧ Same F' G ∧ ks.length = i ∧ Reps C.K F' ((rs.take i).map rkD) ks, rfl, SqL.of h1, by rw [List.length_map, hvl], PySem.W.AllAlike.of fun a b => alike_rk a b, PySem.W.Sortable.tuples fun _ => ⟨_, _, rfl⟩, fun d hd => ?_,
            ⟨F, Ext.refl _ _, s, rfl, .nil⟩, ?_, ?_, ?_⟩
          · obtain ⟨r, _, rfl⟩ := List.mem_map.mp hd
            have h0 := PySem.W.depth_ints r
            simp only [rkP, PyData.depth, PyData.depthAll, h0]
            omega
          · rintro i y ks G hy ⟨F1, x1, s1, hl, rr⟩
            have hi : i < rs.length := by rw [← hvl]; exact (List.getElem?_eq_some_iff.mp hy).1
            obtain ⟨dd, hd, rd⟩ := r1.get' hy
            rw [List.getElem?_map, List.getElem?_eq_getElem hi] at hd
            cases hd
            obtain ⟨ob, hden⟩ := isRk_of (List.all_eq_true.mp hrk _ (List.getElem_mem hi))
            refine ⟨rfl, F1, [irD rs[i]], s1, .cons (rd.mono x1.f) .nil, ?_⟩
            rw [hden]
            intro v F2 H2 x2 s2 w2
            have w3 : Rep C.K F2 (rkD rs[i]) v := by
              cases ob with
              | false => simpa using w2
              | true =>
                have w2 : New C.K G F2 H2 (rkD rs[i]) v := by simpa using w2
                exact w2.isRep rfl
            refine ⟨F2, x1.trans x2, s2, by rw [List.length_append, hl]; rfl, ?_⟩
            rw [List.take_add_one, List.getElem?_eq_getElem hi, Option.toList_some, List.map_append]
            exact (rr.mono x2.f).append (.cons w3 .nil)
          · rintro ks G ⟨F1, x1, s1, hl, rr⟩
            rw [hC]
            rw [hvl, List.take_length] at rr
            exact rr.dp s1 (rk_pys rs)
          · rintro ks G q' ⟨F1, x1, s1, hl, rr⟩ nq
            have em : (vs.zip (rs.map rkP)).map (·.1) = vs := List.map_fst_zip (by rw [List.length_map, hvl]; exact Nat.le_refl _)
            have ez : vs.zip (rs.map rkP) = (vs.zip rs).map fun b => (b.1, rkP b.2) := by
              rw [List.zip_map_right]; rfl
            have es : (vs.zip (rs.map rkP)).mergeSort (PySem.W.dataLe false (·.2)) = ((vs.zip rs).mergeSort fun a b => rkLe a.2 b.2).map fun b => (b.1, rkP b.2) := by
              rw [ez]
              exact (List.map_mergeSort (f := fun b : V × List Int => (b.1, rkP b.2)) (r := fun a b => rkLe a.2 b.2) (s := PySem.W.dataLe false (·.2)) fun a _ b _ => by rw [← rk_le]; rfl).symm
            have er : rs.mergeSort rkLe = ((vs.zip rs).mergeSort fun a b => rkLe a.2 b.2).map (·.2) := by
              conv => lhs; rw [← (List.map_snd_zip (l₁ := vs) (l₂ := rs) (by omega))]
              exact (List.map_mergeSort (f := fun b : V × List Int => b.2) (r := fun a b => rkLe a.2 b.2) (s := rkLe) fun _ _ _ _ => rfl).symm
            rw [es, List.map_map]
            have o2 := Out.later o x1
            rw [er, List.map_map] at o2
            have rp : ∀ b ∈ vs.zip rs, Rep C.K F1 (irD b.2) b.1 := fun b hb => by
              obtain ⟨i, hi, e⟩ := List.getElem_of_mem hb
              rw [List.getElem_zip] at e
              rw [List.length_zip] at hi
              have hi1 : i < vs.length := by omega
              have hi2 : i < rs.length := by omega
              obtain ⟨dd, hd, rd⟩ := r1.get' (List.getElem?_eq_getElem hi1)
              rw [List.getElem?_map, List.getElem?_eq_getElem hi2] at hd
              cases hd
              rw [← e]
              exact rd.mono x1.f
            have all : ∀ l : List (V × List Int), (∀ b ∈ l, Rep C.K F1 (irD b.2) b.1) → Reps C.K F1 (l.map fun b => irD b.2) (l.map (·.1)) := fun l => by
              induction l with
              | nil => exact fun _ => .nil
              | cons b l ih => exact fun h => .cons (h b List.mem_cons_self) (ih fun c hc => h c (List.mem_cons_of_mem _ hc))
            exact fin_lst o2 s1 x1.h (all _ fun b hb => rp b (List.mem_mergeSort.mp hb)) nq
        · exact o.elim
      · exact o.elim
    · exact o.elim))
end
/-! sorted over lists of a length and its row -/
def plD (r : List Int) : D := .lst [.int (r.length : Nat), irD r]
def plP (r : List Int) : PyData := .list [.int (r.length : Nat), .list (r.map .int)]
def plRows : List D → Option (List (List Int))
  | [] => some []
  | .lst [.int k, .lst es] :: ds => match asInts es, plRows ds with
    | some r, some rs => if k = (r.length : Nat) then some (r :: rs) else none
    | _, _ => none
  | _ => none
def dSortPL : List D → R D
  | [.lst ds] => match plRows ds with | some rs => .ok (.lst ((rs.mergeSort rkLe).map plD)) | none => .bad
  | _ => .bad
theorem plRows_of : ∀ {ds : List D} {rs : List (List Int)}, plRows ds = some rs → ds = rs.map plD := fun {ds} => by
  induction ds with
  | nil => intro rs h; cases h; rfl
  | cons d ds ih =>
    intro rs h
    unfold plRows at h
    split at h
    · rename_i e; cases e
    · rename_i k es ds' e
      cases e
      split at h
      · rename_i r rs' h1 h2
        split at h
        · rename_i hk
          cases h
          rw [ih h2, hk, asInts_of h1]
          rfl
        · cases h
      · cases h
    · cases h
theorem plRows_map : ∀ rs : List (List Int), plRows (rs.map plD) = some rs
  | [] => rfl
  | r :: rs => by
    show (match asInts (r.map .int), plRows (rs.map plD) with | some r', some rs' => if ((r.length : Nat) : Int) = (r'.length : Nat) then some (r' :: rs') else none | _, _ => none) = _
    rw [asInts_map, plRows_map rs]
    show (if ((r.length : Nat) : Int) = (r.length : Nat) then some (r :: rs) else none) = _
    rw [if_pos rfl]
theorem dSortPL_of (rs : List (List Int)) : dSortPL [.lst (rs.map plD)] = .ok (.lst ((rs.mergeSort rkLe).map plD)) := by
  show (match plRows (rs.map plD) with | some rs => R.ok (D.lst ((rs.mergeSort rkLe).map plD)) | none => .bad) = _
  rw [plRows_map]
theorem pl_le : PySem.W.dataLe false plP = rkLe := by
  rw [← rk_le]
  funext a b
  show (!PySem.W.dataLt (plP b) (plP a)) = !PySem.W.dataLt (rkP b) (rkP a)
  unfold plP rkP
  rw [PySem.W.dataLt_list, PySem.W.dataLt_tuple]
theorem alike_pl (a b : List Int) : PySem.W.alike (plP a) (plP b) = true := by
  unfold plP
  simp [PySem.W.alike, PySem.W.alikeAll, PySem.W.alike_ints]
theorem pl_pys : ∀ rs : List (List Int), pys (rs.map plD) = some (rs.map plP)
  | [] => rfl
  | r :: rs => by
    have h1 : ∀ ns : List Int, pys (ns.map .int) = some (ns.map .int) := fun ns => by
      induction ns with
      | nil => rfl
      | cons n ns ih => show (py (.int n)).bind _ = _; rw [List.map_cons, ih]; rfl
    show (py (plD r)).bind _ = _
    have h2 : py (plD r) = some (plP r) := by
      unfold plD irD plP
      unfold py
      show ((py (.int (r.length : Nat))).bind fun p => (((py (.lst (r.map .int))).bind fun q => (pys []).map fun qs => q :: qs).map fun ps => p :: ps)).map PyData.list = _
      have h3 : py (.lst (r.map .int)) = some (.list (r.map .int)) := by unfold py; rw [h1]; rfl
      rw [h3]; rfl
    rw [h2, pl_pys rs]; rfl
def rSortPL (K : PySem.W.Frag) : List V → Hp → VK → Prop := fun vs H Q => ∃ (a : Addr) (xs : List V) (rs : List (List Int)), vs = [V.ref a] ∧ SqL K H a xs ∧ xs.length = rs.length ∧ DpAll K H xs (rs.map plP) ∧
  ∀ p, H p = none → Q (.ref p) (upd H p (.lst (((xs.zip rs).mergeSort fun a b => rkLe a.2 b.2).map (·.1))))
section
variable {X : Cx} {C : Cd} {kk : Nat}
theorem cr_sortPL (hr : Room kk X.A) : CallR X (.builtin "sorted") (rSortPL X.K) := by
  intro pins s σ H vs us Q I r h
  obtain ⟨a, xs, rs, rfl, hs, hlen, dp, q⟩ := h
  obtain ⟨its, rv, hl, hz⟩ := I.list hs
  obtain ⟨u, rfl, ru⟩ := vals1 r
  obtain rfl : u = Value.ref a := ru
  have hu := eu65 hr
  have hm : (xs.zip rs).map (fun b => plP b.2) = rs.map plP := by
    have : (xs.zip rs).map (·.2) = rs := List.map_snd_zip (by omega)
    conv => rhs; rw [← this, List.map_map]
    rfl
  obtain ⟨as, rd⟩ := Dp.readsAll (X := X) I (rs.map plP) xs its dp rv
  have each := PySem.W.readsAll_each (h := s.heap) (fun b : V × List Int => plP b.2) (bs := xs.zip rs) (vs := its) (as := as) (by rw [hm]; exact rd)
  have hle : PySem.W.dataLe false (fun b : V × List Int => plP b.2) = fun a b => rkLe a.2 b.2 := by
    funext a b
    exact congrFun (congrFun pl_le a.2) b.2
  refine PySem.W.sorted_data (R := fun (v : Value) (b : V × List Int) => RelV b.1 v) (enc := fun b : V × List Int => plP b.2) (bs := xs.zip rs) hl.isList (each_zip rv (by rw [← hlen, rv.length])) each ?_ (PySem.W.Sortable.others fun _ => ⟨by simp [plP], by simp [plP]⟩) (by rw [List.length_zip]; omega) (fun b _ => ?_) fun out ho eo => ?_
  · exact PySem.W.AllAlike.of fun a b => alike_pl a.2 b.2
  · have h0 := PySem.W.depth_ints b.2
    simp only [plP, PyData.depth, PyData.depthAll, h0]
    omega
  · rw [hle] at eo
    have hv := vals_each (fun v b h => h) eo
    obtain ⟨n, hn⟩ := sortedAll_at s.heap its (List.toArray out)
    exact ⟨.ref _, upd H (s.heap.objs.size + 1) (.lst (((xs.zip rs).mergeSort fun a b => rkLe a.2 b.2).map (·.1))), I.laid (t' := s.toks) (fun b o e => sortedAll_old e) (Nat.le_succ _) ⟨by rw [List.length_map, List.length_mergeSort, List.length_zip]; omega, _, n, hv, hn⟩, rfl, q _ (I.hok.fresh (Nat.le_succ _))⟩
theorem sortPL_ok : OpL C (rSortPL C.K) dSortPL := by
  intro σ F H Q ds vs o s w
  unfold dSortPL at o
  split at o
  · rename_i ds
    obtain ⟨v, rfl, p, vs, rfl, h, r⟩ := w.one
    split at o
    · rename_i rs hrs
      have e := plRows_of hrs
      subst e
      have hl : vs.length = rs.length := by rw [r.length, List.length_map]
      refine ⟨p, vs, rs, rfl, SqL.of h, hl, r.dp s (pl_pys rs), fun q nq => ?_⟩
      have er : rs.mergeSort rkLe = ((vs.zip rs).mergeSort fun a b => rkLe a.2 b.2).map (·.2) := by
        conv => lhs; rw [← (List.map_snd_zip (l₁ := vs) (l₂ := rs) (by omega))]
        exact (List.map_mergeSort (f := fun b : V × List Int => b.2) (r := fun a b => rkLe a.2 b.2) (s := rkLe) fun _ _ _ _ => rfl).symm
      rw [er, List.map_map] at o
      have rp : ∀ b ∈ vs.zip rs, Rep C.K F (plD b.2) b.1 := fun b hb => by
        obtain ⟨i, hi, e⟩ := List.getElem_of_mem hb
        rw [List.getElem_zip] at e
        rw [List.length_zip] at hi
        have hi1 : i < vs.length := by omega
        have hi2 : i < rs.length := by omega
        obtain ⟨dd, hd, rd⟩ := r.get' (List.getElem?_eq_getElem hi1)
        rw [List.getElem?_map, List.getElem?_eq_getElem hi2] at hd
        cases hd
        rw [← e]
        exact rd
      have all : ∀ l : List (V × List Int), (∀ b ∈ l, Rep C.K F (plD b.2) b.1) → Reps C.K F (l.map fun b => plD b.2) (l.map (·.1)) := fun l => by
        induction l with
        | nil => exact fun _ => .nil
        | cons b l ih => exact fun h => .cons (h b List.mem_cons_self) (ih fun c hc => h c (List.mem_cons_of_mem _ hc))
      exact fin_lst o s (Same.refl _) (all _ fun b hb => rp b (List.mem_mergeSort.mp hb)) nq
    · exact o.elim
  · exact o.elim
variable {e : Expr} {es : List Expr} {fs : En → R (List D)} {pos p : Pos}
theorem d_sortPL (hr : Room kk X.A) (hC : X.K = C.K) (hm : X.mg "sorted" = none) (ha : PA X (e :: es) (tV C fs)) (hg : Gl X "sorted" := by rfl)
    (he : starEach (e :: es) X.env = (false, eval e X.env) :: starEach es X.env := by rfl) (hpl : (backTo pos (starEach es X.env)).any (·.1) = false := by rfl) : PE X (.Call (.Name "sorted" p) (e :: es) [] pos) (tO C (nop fs dSortPL)) :=
  d_callB (hC ▸ cr_sortPL hr) sortPL_ok hm (by decide +kernel) ha hg (by decide) (by decide) he hpl
end
/-! for x in f(..): x.append(k), over new rows that nobody else has -/
def sTrash (j : Nat) (f : En → R D) : En → R Fl := fun ρ => bd (f ρ) fun d => match d with
  | .deep (.lst ds) => match rowsI ds with
    | some rs => if jkBs ds + ds.length < sizeLine then .ok (.next (ρ.set j none)) else .bad
    | none => .bad
  | _ => .bad
theorem jkBs_at : ∀ {ds : List D} {k : Nat} {d : D}, ds[k]? = some d → jkB d ≤ jkBs ds
  | _ :: _, 0, _, e => by cases e; exact Nat.le_max_left _ _
  | _ :: ds, k + 1, _, e => Nat.le_trans (jkBs_at (ds := ds) (k := k) e) (Nat.le_max_right _ _)
theorem OwDs.at' {K : PySem.W.Frag} {F H : Hp} : ∀ {ds : List D} {vs : List V} {k : Nat} {v : V}, OwDs K F H ds vs → vs[k]? = some v → ∃ d, ds[k]? = some d ∧ OwD K F H d v ∧ ∀ b ∈ rch H d v, b ∈ rchs H ds vs
  | _, _, 0, _, .cons r t, h => by cases h; exact ⟨_, rfl, r, fun b hb => by simp only [rchs]; exact List.mem_append_left _ hb⟩
  | _, _, k + 1, _, .cons r t, h => by
    obtain ⟨d, h1, h2, h3⟩ := OwDs.at' (k := k) t h
    exact ⟨d, h1, h2, fun b hb => by simp only [rchs]; exact List.mem_append_right _ (h3 b hb)⟩
theorem OwDs.ints {K : PySem.W.Frag} {F H : Hp} : ∀ {ns : List Int} {vs : List V}, OwDs K F H (ns.map .int) vs → vs = ns.map V.int
  | [], _, .nil => rfl
  | n :: ns, _, .cons r t => by
    rw [OwDs.ints t]
    cases r with
    | set z q => cases q; rfl
section
variable {X : Cx} {C : Cd} {e : Expr} {f : En → R D} {pos pos' p p1 p2 apos cpos : Pos} {x : Str} {ρ : En} {σ : L2.St} {F H : Hp} {j : Nat} {kv : Int} {c0 : Nat}
theorem s_trash (hc : X.calm = true) (hC : X.K = C.K) (hN : X.N.Nodup) (he : PE X e (tO C f)) (hv : PE X (.Name x p1) (tVar j)) (hp : PassesOwn (model X.prog X.w) X.A X.env X.xe) (hcj : C.ln j = none := by rfl) (hj : X.N[j]? = some x := by rfl) (hx : Loc X.env.scope x := by first | exact .inl rfl | exact .inr rfl)
    (hf : X.fn x = true ∨ X.env.scope.names.lookup x = some .local := by first | exact .inl rfl | exact .inr rfl | assumption) (hs : ∀ x, foldedSetIterable e X.env x = pure x := by intro _; rfl)
    (hbase : attributeBase (.Name x p1) "append" X.env (eval (.Name x p1) X.env) = eval (.Name x p1) X.env := by rfl)
    (hfew : ((backTo cpos (starEach [.Constant (.int kv) c0 p2] X.env)).all (fun x => !x.1) && (backToKw cpos (keywordEach [] X.env)).all (fun x => x.1.isSome)
      && decide (([.Constant (.int kv) c0 p2] : List Expr).length + ([] : List Keyword).length + (if ([] : List Keyword).isEmpty then 0 else 1) < 30)) = true := by rfl)
    (hline : (apos.endLine == cpos.line) = true := by rfl) (hst : starEach [.Constant (.int kv) c0 p2] X.env = (false, eval (.Constant (.int kv) c0 p2) X.env) :: starEach [] X.env := by rfl) (hplain : (backTo cpos (starEach [] X.env)).any (·.1) = false := by rfl)
    (hsw : swapsWith (.Call (.Attribute (.Name x p1) "append" apos) [.Constant (.int kv) c0 p2] [] cpos) none pos'.line X.env = pure false := by rfl) :
    PS X (.For (.Name x p) e [.Expr (.Call (.Attribute (.Name x p1) "append" apos) [.Constant (.int kv) c0 p2] [] cpos) pos'] [] pos) (tS C (sTrash j f)) :=
  (ps_for hp hc (pi_list he) (pg_len hN hj hx hf) (pss_one (ps_expr (pe_bm PySem.F.plainAttrs_list PySem.F.slot_list_append PySem.F.type_list_append mt_append hv (pa_cons pe_int pa_nil hst) hbase hfew hline hst hplain) hsw)) hs).mono fun T σ H ⟨ρ, F, r, q⟩ => by
    refine ⟨ρ, F, r, out_of r q fun d v F1 H1 _ q x1 s1 r1 w => ?_⟩
    split at q
    · rename_i ds _
      cases hrs : rowsI ds with
      | none => rw [hrs] at q; exact q.elim
      | some rs =>
        rw [hrs] at q
        have q : Post C T F1 (if jkBs ds + ds.length < sizeLine then .ok (.next (ρ.set j none)) else .bad) := q
        by_cases hz : jkBs ds + ds.length < sizeLine
        · rw [if_pos hz] at q
          obtain ⟨a, rfl, n1, _, o, _⟩ := w.own rfl
          have hds := rowsI_of hrs
          cases o with
          | set z _ => cases z
          | lst ha t =>
            rename_i vs
            have hlen : vs.length = ds.length := t.length
            -- each row is a list beside the outer one
            have row : ∀ (k : Nat) (u : V), vs[k]? = some u → ∃ b us, u = V.ref b ∧ H1 b = some (.lst us) ∧ us.length ≤ jkBs ds ∧ b ≠ a ∧ H b = none ∧ F1 b = none := fun k u hu => by
              obtain ⟨d, hd, od, sub⟩ := t.at' hu
              have hd2 := hd
              rw [hds, List.getElem?_map] at hd2
              cases hr : rs[k]? with
              | none => rw [hr] at hd2; cases hd2
              | some ns =>
                rw [hr] at hd2
                cases hd2
                cases od with
                | set z _ => cases z
                | lst hb tb =>
                  rename_i b us
                  have eu : us = ns.map V.int := OwDs.ints tb
                  have hm : b ∈ foot H1 a (.deep (.lst ds)) := mem_deep (by
                    simp only [rch, ha]
                    refine List.mem_cons_of_mem _ (sub b ?_)
                    simp only [irD, rch]
                    exact List.mem_cons_self)
                  refine ⟨b, us, rfl, hb, ?_, fun z => ?_, (n1 b hm).1, (n1 b hm).2⟩
                  · have h2 := jkBs_at hd
                    have h3 : jkB (irD ns) = ns.length := by show (ns.map D.int).length = _; rw [List.length_map]
                    rw [eu, List.length_map]
                    omega
                  · subst z
                    rw [ha] at hb
                    cases hb
                    rw [eu, List.getElem?_map] at hu
                    cases hk : ns[k]? with
                    | none => rw [hk] at hu; cases hu
                    | some i => rw [hk] at hu; cases hu
            have far : ∀ b, H b = none → F1 b = none → ∀ {ρ' : En} {σ' : L2.St} {H' : Hp} (o : HO), Rel C ρ' σ' F1 H' → (∀ (i : Nat) (d : D) (c : Addr), ρ'[i]? = some (some (true, d)) → σ'[i]? = some (some (.ref c)) → b ∉ foot H' c d) → Rel C ρ' σ' F1 (upd H' b o) := fun b h1 h2 {ρ' σ' H'} o r' ap =>
              r'.other h2 (r.ext.h.free h1) fun i d c => ap i d c
            -- what stays through the loop
            let Pv : Nat → L2.St → Hp → Prop := fun k σ' H' => Rel C (ρ.set j none) σ' F1 H' ∧ H' a = some (.lst vs) ∧ (∀ (k' : Nat) (u : V), vs[k']? = some u → ∃ b us, u = V.ref b ∧ H' b = some (.lst us) ∧ us.length ≤ jkBs ds + k) ∧
              (∀ (i : Nat) (d : D) (c b : Addr), (ρ.set j none)[i]? = some (some (true, d)) → σ'[i]? = some (some (.ref c)) → b ∈ foot H' c d → ∃ u, H b = some u)
            refine ⟨a, rfl, ⟨vs, SqL.of ha⟩, for_list (K := X.K) (xs := vs) (g := fun v σ H Q => j < σ.length → Q (σ.set j (some v)) H) (tb := tDrop (tBM X.K "list" rAppend (tVar j) (tCons (tC (V.int kv)) tNil))) (D := T) Pv ⟨r1.unown j, ha, fun k' u hu => ?_, fun i d c b h1 h2 h3 => ?_⟩ (fun k σ' H' _ p => SqL.of p.2.1) (fun k u σ' H' hu p => ?_) fun σ' H' p => ?_⟩
            · obtain ⟨b, us, e1, e2, e3, _⟩ := row k' u hu
              exact ⟨b, us, e1, e2, by omega⟩
            · rcases get_set h1 with ⟨_, z⟩ | ⟨_, z⟩
              · cases z
              · obtain ⟨c', q1, _, _, ow⟩ := r.ownF i d z
                rw [h2] at q1
                cases q1
                have := foot_grow (C := C) x1.h ow
                rw [this] at h3
                exact ow.foot b h3
            · obtain ⟨rp, pa, prow, pown⟩ := p
              intro hjl
              obtain ⟨b, us, rfl, hb, hl⟩ := prow k _ hu
              obtain ⟨b', us', e1, _, _, hne, nb, fb⟩ := row k _ hu
              cases e1
              have rs2 : Rel C (ρ.set j none) (σ'.set j (some (.ref b))) F1 H' := by
                have := rp.forget j (some (.ref b)) hcj
                rw [List.set_set] at this
                exact this
              have hkl : k < vs.length := (List.getElem?_eq_some_iff.mp hu).1
              refine ⟨V.ref b, (by rw [List.getElem?_set_self hjl]), .inl ⟨rfl, _, SqL.of hb⟩, b, us, _, rfl, rfl, hb, by omega, ?_⟩
              have own2 : ∀ (i : Nat) (d : D) (c b0 : Addr), (ρ.set j none)[i]? = some (some (true, d)) → (σ'.set j (some (.ref b)))[i]? = some (some (.ref c)) → b0 ∈ foot H' c d → ∃ u, H b0 = some u := fun i d c b0 h1 h2 h3 => by
                have hij : j ≠ i := fun z => by
                  subst z
                  rcases get_set h1 with ⟨_, z⟩ | ⟨z, _⟩
                  · cases z
                  · exact z rfl
                rw [List.getElem?_set_ne hij] at h2
                exact pown i d c b0 h1 h2 h3
              have ap : ∀ (i : Nat) (d : D) (c : Addr), (ρ.set j none)[i]? = some (some (true, d)) → (σ'.set j (some (.ref b)))[i]? = some (some (.ref c)) → b ∉ foot H' c d := fun i d c h1 h2 h3 => by
                obtain ⟨u, hu⟩ := own2 i d c b h1 h2 h3
                rw [nb] at hu; cases hu
              refine ⟨far b nb fb _ rs2 ap, by rw [upd_ne hne.symm]; exact pa, fun k' u' hu' => ?_, fun i d c b0 h1 h2 h3 => ?_⟩
              · obtain ⟨b2, us2, rfl, hb2, hl2⟩ := prow k' u' hu'
                by_cases z : b2 = b
                · subst z
                  rw [hb] at hb2
                  cases hb2
                  exact ⟨b2, _, rfl, upd_same, by rw [List.length_append]; show us.length + 1 ≤ _; omega⟩
                · exact ⟨b2, us2, rfl, by rw [upd_ne z]; exact hb2, by omega⟩
              · obtain ⟨c', q1, _, _, ow⟩ := rs2.ownF i d h1
                rw [h2] at q1
                cases q1
                have hfs : foot (upd H' b (.lst (us ++ [V.int kv]))) c d = foot H' c d := foot_same ow fun b1 hb1 => upd_ne fun z => ap i d c h1 h2 (z ▸ hb1)
                rw [hfs] at h3
                exact own2 i d c b0 h1 h2 h3
            · exact q σ' F1 H' (Same.refl _) p.1
        · rw [if_neg hz] at q; exact q.elim
    · exact q.elim
end
theorem jkBs_le {B : Nat} : ∀ {rs : List (List Int)}, (∀ r ∈ rs, r.length ≤ B) → jkBs (rs.map irD) ≤ B
  | [], _ => by simp only [List.map_nil, jkBs]; exact Nat.zero_le _
  | r :: rs, h => by
    simp only [List.map_cons, jkBs]
    refine Nat.max_le.mpr ⟨?_, jkBs_le fun q hq => h q (List.mem_cons_of_mem _ hq)⟩
    simp only [irD, jkB, List.length_map]
    exact h r List.mem_cons_self
theorem sTrash_at {f : En → R D} {ρ : En} {j B : Nat} {rs : List (List Int)} (e : f ρ = .ok (.deep (.lst (rs.map irD)))) (h : ∀ r ∈ rs, r.length ≤ B) (hz : B + rs.length < sizeLine) : sTrash j f ρ = .ok (.next (ρ.set j none)) := by
  unfold sTrash
  rw [e, bd_ok]
  simp only [rowsI_map]
  rw [if_pos (by rw [List.length_map]; exact Nat.lt_of_le_of_lt (Nat.add_le_add_right (jkBs_le h) _) hz)]
theorem dat_rows : ∀ rs : List (List Int), dats (rs.map irD) = true
  | [] => rfl
  | r :: rs => by
    have : ∀ ns : List Int, dats (ns.map .int) = true := fun ns => by
      induction ns with
      | nil => rfl
      | cons n ns ih => exact ih
    show (dats (r.map .int) && dats (rs.map irD)) = true
    rw [this, dat_rows rs]; rfl
end DL
/-! the D layer: comprehensions over rows that are only lent -/
namespace DL
open PySem PySem.Spec PyProof.Rows L2
def lcVGo (f : D → En → R D) (ρ : En) : List D → R (List D)
  | [] => .ok []
  | d :: ds => bd (noErr (f d ρ)) fun z => bd (lcVGo f ρ ds) fun zs => .ok (z :: zs)
theorem lcVGo_cons {f : D → En → R D} {ρ : En} {d : D} {ds zs : List D} (h : lcVGo f ρ (d :: ds) = .ok zs) : ∃ z ws, f d ρ = .ok z ∧ lcVGo f ρ ds = .ok ws ∧ zs = z :: ws := by
  unfold lcVGo at h
  cases h1 : f d ρ with
  | bad => rw [h1] at h; cases h
  | err c => rw [h1] at h; cases h
  | ok z =>
    rw [h1] at h
    have h : bd (lcVGo f ρ ds) (fun zs => .ok (z :: zs)) = .ok zs := h
    cases h2 : lcVGo f ρ ds with
    | bad => rw [h2] at h; cases h
    | err c => rw [h2] at h; cases h
    | ok ws => rw [h2] at h; cases h; exact ⟨z, ws, rfl, rfl, rfl⟩
theorem lcVGo_map {α : Type} {f : D → En → R D} {ρ : En} (G : α → D) (T : α → D) : ∀ (xs : List α), (∀ a ∈ xs, f (G a) ρ = .ok (T a)) → lcVGo f ρ (xs.map G) = .ok (xs.map T)
  | [], _ => rfl
  | a :: xs, h => by
    rw [List.map_cons]
    unfold lcVGo
    rw [h a List.mem_cons_self, lcVGo_map G T xs fun b hb => h b (List.mem_cons_of_mem _ hb)]
    rfl
def lcVK (j : Nat) (f : D → En → R D) (ρ : En) (x : R (List D)) : R D := match x with
  | .ok rs => if rs.length ≤ sizeLine then noErr (bd (lcVGo f ((wipeR ρ [j]).set j none) rs) fun zs => .ok (.lst zs)) else .bad
  | _ => .bad
/-- [f(x) for x in p], p a lent parameter -/
def lcVL (j : Nat) (ds : List D) (i : Nat) (f : D → En → R D) : En → R D := fun ρ => lcVK j f ρ (bd (rdL ds i ρ) rowsR)
/-- [f(x) for x in y], y a tree of one's own -/
def ownRw : Option (Option (Bool × D)) → R (List D)
  | some (some (true, .deep (.lst rs))) => if rs.all rowT = true then .ok rs else .bad
  | _ => .bad
def lcVO (j i : Nat) (f : D → En → R D) : En → R D := fun ρ => lcVK j f (ρ.set i none) (ownRw ρ[i]?)
theorem lcVK_of {j : Nat} {f : D → En → R D} {ρ : En} {rs zs : List D} (hl : rs.length ≤ sizeLine) (h : lcVGo f ((wipeR ρ [j]).set j none) rs = .ok zs) : lcVK j f ρ (.ok rs) = .ok (.lst zs) := by
  unfold lcVK
  dsimp only
  rw [if_pos hl, h]
  rfl
def lone (K : PySem.W.Frag) (F1 H1 : Hp) : Cd := ⟨K, F1, H1, fun _ _ _ => False, fun _ => none, []⟩
section
variable {X : Cx} {C : Cd} {ρ ρ1 : En} {σ : L2.St} {F H H1 : Hp} {i j : Nat} {f : D → En → R D} {a : Addr} {vs : List V} {rs : List D}
theorem lcV_core (r : Rel C ρ σ F H) (r1 : Rel (lone C.K F H1) ρ1 σ F H) (hσ : σ[i]? = some (some (.ref a))) (ha : H1 a = some (.lst vs)) (hlen : vs.length = rs.length) (hget : ∀ (k : Nat) (d : D), rs[k]? = some d → ∃ u : V, vs[k]? = some u ∧ View C.K F H1 d u) {Q : VK}
    (q : Out C σ F H (fun F' H' => New C.K H F' H') (lcVK j f ρ1 (.ok rs)) Q) :
    tLc (iList C.K (tVar i)) (fun v σ H Q => j < σ.length → Q (σ.set j (some v)) H) (fun _ H Q => Q true H) (fun σ H Q => ∃ (d : D) (v : V) (F1 H1 : Hp), tE ((lone C.K F1 H1).lnAt j d v) (f d) σ H Q) [j] σ H Q := by
  unfold lcVK at q
  dsimp only at q
  split at q
  · rename_i hz
    cases hgo : lcVGo f ((wipeR ρ1 [j]).set j none) rs with
    | bad => rw [hgo] at q; exact q.elim
    | err c => rw [hgo] at q; exact q.elim
    | ok all =>
      rw [hgo] at q
      have q : Out C σ F H (fun F' H' => New C.K H F' H') (.ok (.lst all)) Q := q
      have hH : ∀ {F' H' : Hp} {ρ' : En} {σ' : L2.St}, Rel (lone C.K F H1) ρ' σ' F' H' → SqL C.K H' a vs := fun r' => SqL.of (r'.ext.h _ _ ha)
      refine ⟨_, hσ, a, rfl, ⟨vs, hH r1⟩, ?_⟩
      intro D hD
      have d0 : H1 D = none := r1.ext.h.free hD
      have fd : F D = none := r.sub.free hD
      have ap : ∀ H', Same H H' → ∀ (j : Nat) (e : DL.D) (b : Addr), ρ1[j]? = some (some (true, e)) → σ[j]? = some (some (.ref b)) → D ∉ foot H' b e := fun H' s' j e b h1 h2 h3 => by
        obtain ⟨a, q1, _, _, o⟩ := r1.ownF j e h1
        rw [h2] at q1
        cases q1
        rw [foot_grow (C := lone C.K F H1) s' o] at h3
        obtain ⟨u, hu⟩ := o.foot D h3
        rw [hD] at hu
        cases hu
      refine ⟨fun k m H' => m = rs.length - k ∧ k ≤ rs.length ∧ ∃ F2 acc zs ws, Rel (lone C.K F H1) ρ1 σ F2 H' ∧ Ext F H F2 H' ∧ F2 D = none ∧ H' D = some (.lst acc) ∧ Reps C.K F2 zs acc ∧ zs.length ≤ k ∧ lcVGo f ((wipeR ρ1 [j]).set j none) (rs.drop k) = .ok ws ∧ all = zs ++ ws,
        ⟨_, rfl, Nat.zero_le _, F, [], [], all, r1.other fd d0 (ap H (Same.refl _)), Ext.heap (same_upd hD), fd, upd_same, .nil, Nat.zero_le _, hgo, rfl⟩, ?_⟩
      rintro k m H2 ⟨rfl, hk, F2, acc, zs, ws, r2, x2, f2, h2, rz, lz, hw, hall⟩
      by_cases hlt : k < rs.length
      · obtain ⟨u, hu, wu⟩ := hget k rs[k] (List.getElem?_eq_getElem hlt)
        have e : rs.drop k = rs[k] :: rs.drop (k + 1) := List.drop_eq_getElem_cons hlt
        rw [e] at hw
        obtain ⟨zz, ws', hs, hw', hz'⟩ := lcVGo_cons hw
        refine .inr ⟨⟨vs, u, hH r2, hu⟩, fun H' => ∃ F2 acc zs ws, Rel (lone C.K F H1) ρ1 σ F2 H' ∧ Ext F H F2 H' ∧ F2 D = none ∧ H' D = some (.lst acc) ∧ Reps C.K F2 zs acc ∧ zs.length ≤ k + 1 ∧ lcVGo f ((wipeR ρ1 [j]).set j none) (rs.drop (k + 1)) = .ok ws ∧ all = zs ++ ws,
          fun H' p => ⟨_, by omega, rfl, hlt, p⟩, fun v H3 yy => ?_⟩
        obtain ⟨rfl, yy⟩ := yy
        have e := (yy vs (hH r2)).symm.trans hu
        cases e
        intro hjl
        refine ⟨(wipe_set List.mem_cons_self).trans (wipe_wipe [j] [j] σ fun _ h => h), ?_⟩
        show if true = true then _ else _
        rw [if_pos rfl]
        refine ⟨rs[k], u, F, H1, (wipeR ρ1 [j]).set j none, F2, Rel.lnIn (C := lone C.K F H1) (r2.wipe [j] rfl) rfl wu hjl, ?_⟩
        rw [hs]
        intro yv F6 H6 x6 s6 w6
        have x26 := x2.trans x6
        have hD6 : H6 D = some (.lst acc) := x6.h _ _ h2
        have fD6 : F6 D = none := x6.keepN h2 f2
        have r6 : Rel (lone C.K F H1) ρ1 σ F6 H6 := r2.grow x6 s6
        refine ⟨acc, hD6, by rw [rz.length]; omega, F6, acc ++ [yv], zs ++ [zz], ws', r6.other fD6 d0 (ap H6 x26.h), ⟨x26.f, fun b u h => by rw [upd_ne (ne_of_none h hD)]; exact x26.h b u h, x26.n⟩, fD6, upd_same, (rz.mono x6.f).append (.cons w6 .nil), by rw [List.length_append]; exact Nat.succ_le_succ lz, hw', ?_⟩
        rw [hall, hz', List.append_assoc]; rfl
      · have e : k = rs.length := by omega
        subst e
        rw [List.drop_length] at hw
        cases hw
        rw [List.append_nil] at hall
        subst hall
        exact .inl ⟨⟨vs, hH r2, by omega⟩, q (.ref D) F2 H2 x2 r2.sub ⟨D, rfl, hD, f2, acc, h2, rz⟩⟩
  · exact q.elim
/-- .. over a parameter that is lent -/
theorem lcVL_ok {ds : List D} (hl : LnAt C ds i) : ∀ σ H Q, tO C (lcVL j ds i f) σ H Q → tLc (iList C.K (tVar i)) (fun v σ H Q => j < σ.length → Q (σ.set j (some v)) H) (fun _ H Q => Q true H) (fun σ H Q => ∃ (d : D) (v : V) (F1 H1 : Hp), tE ((lone C.K F1 H1).lnAt j d v) (f d) σ H Q) [j] σ H Q := by
  rintro σ H Q ⟨ρ, F, r, q⟩
  unfold lcVL at q
  cases hd : ds[i]? with
  | none =>
    have e1 : rdL ds i ρ = .bad := by unfold rdL; rw [hd]
    rw [e1] at q; exact q.elim
  | some dd =>
    have e1 : rdL ds i ρ = .ok dd := by unfold rdL; rw [hd]
    rw [e1, bd_ok] at q
    cases hr : rowsR dd with
    | bad => rw [hr] at q; exact q.elim
    | err c => cases dd <;> cases hr
    | ok rs =>
      rw [hr] at q
      obtain ⟨v, hln⟩ := hl dd hd
      obtain ⟨hσ, w⟩ := r.lend i _ _ hln
      have w1 : View C.K F (jn C.H0 F) dd v := w.mono r.ext.f jn_l
      obtain ⟨a, vs, rfl, ha, hlen, hget⟩ := view_rows (jn_r r.ext.h r.sub) w1 hr
      have r1 : Rel (lone C.K F (jn C.H0 F)) ρ σ F H := ⟨⟨Same.refl _, jn_in r.ext.h r.sub, fun _ _ h => .inl h⟩, r.sub, r.len, r.slot, fun i d h => by
        obtain ⟨a, q, n, nd, o⟩ := r.ownF i d h
        exact ⟨a, q, fun b hb => ⟨(n b hb).1, jn_none (n b hb).2 (n b hb).1⟩, nd, o⟩, r.apartF, fun _ _ _ h => nomatch h⟩
      exact lcV_core r r1 hσ ha hlen hget q
/-- .. over a tree of one's own -/
theorem OwDs.flat {K : PySem.W.Frag} : ∀ {ds : List D} {vs : List V}, OwDs K F H ds vs → tOs ds = true → Reps K F ds vs
  | [], _, .nil, _ => .nil
  | d :: ds, _, .cons r t, h => by
    have h : (tO1 d && tOs ds) = true := h
    rw [Bool.and_eq_true] at h
    refine .cons ?_ (OwDs.flat t h.2)
    cases r with
    | set z' rp => exact rp
    | lst => exact nomatch h.1
    | tup z' => have z : tOs _ = true := h.1; rw [z'] at z; cases z
    | junk => exact nomatch h.1
def only (H : Hp) (S : List Addr) : Hp := fun b => if b ∈ S then H b else none
theorem only_same {S : List Addr} : Same (only H S) H := fun b u e => by
  unfold only at e
  split at e
  · exact e
  · cases e
theorem lcVO_ok : ∀ σ H Q, tO C (lcVO j i f) σ H Q → tLc (iList C.K (tVar i)) (fun v σ H Q => j < σ.length → Q (σ.set j (some v)) H) (fun _ H Q => Q true H) (fun σ H Q => ∃ (d : D) (v : V) (F1 H1 : Hp), tE ((lone C.K F1 H1).lnAt j d v) (f d) σ H Q) [j] σ H Q := by
  rintro σ H Q ⟨ρ, F, r, q⟩
  unfold lcVO ownRw at q
  split at q
  · rename_i rs hi
    split at q
    · rename_i hrw
      obtain ⟨a, hσ, hn, _, o⟩ := r.ownF i _ hi
      obtain ⟨od, _⟩ := o
      have hvs : ∃ vs, H a = some (.lst vs) ∧ OwDs C.K F H rs vs := by
        cases od with
        | set z _ => exact nomatch z
        | lst h t => exact ⟨_, h, t⟩
      obtain ⟨vs, hH, ot⟩ := hvs
      have hon : ∀ b u, b ∈ foot H a (.deep (.lst rs)) → H b = some u → jn (only H (foot H a (.deep (.lst rs)))) F b = some u := fun b u hb h => by
        refine jn_l _ _ ?_
        unfold only
        rw [if_pos hb]
        exact h
      have r1 : Rel (lone C.K F (jn (only H (foot H a (.deep (.lst rs)))) F)) (ρ.set i none) σ F H := ⟨⟨Same.refl _, jn_in only_same r.sub, fun _ _ h => .inl h⟩, r.sub, by rw [List.length_set]; exact r.len, fun k d h => by
          rcases get_set h with ⟨_, z⟩ | ⟨_, z⟩
          · cases z
          · exact r.slot k d z, fun k d h => by
          rcases get_set h with ⟨_, z⟩ | ⟨ne, z⟩
          · cases z
          · obtain ⟨b, q, n, nd, o⟩ := r.ownF k d z
            refine ⟨b, q, fun c hc => ⟨(n c hc).1, jn_none ?_ (n c hc).1⟩, nd, o⟩
            unfold only
            rw [if_neg fun hc' => ne (r.apartF i k _ _ a b c hi z hσ q hc' hc)], fun k l d e b c x h1 h2 h3 h4 h5 h6 => by
          rcases get_set h1 with ⟨_, z⟩ | ⟨_, z⟩
          · cases z
          · rcases get_set h2 with ⟨_, z'⟩ | ⟨_, z'⟩
            · cases z'
            · exact r.apartF k l d e b c x z z' h3 h4 h5 h6, fun _ _ _ h => nomatch h⟩
      have hlen : vs.length = rs.length := by
        have : ∀ {ds : List D} {vs : List V}, OwDs C.K F H ds vs → vs.length = ds.length := fun {ds} => by
          induction ds with
          | nil => intro vs h; cases h; rfl
          | cons d ds ih => intro vs h; cases h with | cons _ t => rw [List.length_cons, List.length_cons, ih t]
        exact this ot
      refine lcV_core r r1 hσ (hon a _ foot_head hH) hlen (fun k d hk => ?_) q
      obtain ⟨u, h1, h2, h3⟩ := ot.get hk
      refine ⟨u, h1, ?_⟩
      have hd := List.all_eq_true.mp hrw d (List.mem_of_getElem? hk)
      cases d with
      | lst xs =>
        have hd : tOs xs = true := hd
        cases h2 with
        | set z _ => exact nomatch z
        | lst hb t =>
          rename_i b us
          refine ⟨b, us, rfl, hon b _ (mem_deep ?_) hb, OwDs.flat t hd⟩
          show b ∈ rch H (.lst rs) (.ref a)
          simp only [rch, hH]
          refine List.mem_cons_of_mem _ (h3 b ?_)
          simp only [rch]
          exact List.mem_cons_self
      | _ => exact nomatch hd
    · exact q.elim
  · exact q.elim
end
section
variable {X : Cx} {C : Cd} {i j : Nat} {f : D → En → R D} {elt iter : Expr} {scope : Scope} {own : List (Str × Nat)} {pos p : Pos} {x : Str}
theorem pts_yes : PTs X [] (fun _ H Q => Q true H) := pts_nil
/-- [f(x) for x in p], p a lent parameter -/
theorem d_lcVL {ds : List D} (hc : X.calm = true) (hC : X.K = C.K) (hN : X.N.Nodup) (hv : PE X iter (tVar i)) (ok : BlkOk X.N X.env.scope scope own)
    (hg : ∀ (s : Shared) (H : Hp) (A : Addr) (cl : List (Str × Addr)) (fp : List Addr), PG (X.blk s H scope (compEnvC scope cl A X.env) fp) (.Name x p) (fun v σ H Q => j < σ.length → Q (σ.set j (some v)) H))
    (he : ∀ (d : D) (v : V) (F1 H1 : Hp) (s : Shared) (H : Hp) (A : Addr) (cl : List (Str × Addr)) (fp : List Addr), PE (X.blk s H scope (compEnvC scope cl A X.env) fp) elt (tE ((lone C.K F1 H1).lnAt j d v) (f d)))
    (ho : own.map (·.2) = [j] := by rfl) (hl : LnAt C ds i := by first | exact lnAt_of rfl (by decide) | exact lnAt_M rfl (by decide) (by decide) | exact lnAt_W rfl (by decide) (by decide)) (hs : ∀ x, foldedSetIterable iter X.env x = pure x := by intro _; rfl) :
    PE X (.ListComp elt [⟨.Name x p, iter, [], 0⟩] scope pos) (tO C (lcVL j ds i f)) :=
  (pe_lc (te := fun σ H Q => ∃ (d : D) (v : V) (F1 H1 : Hp), tE ((lone C.K F1 H1).lnAt j d v) (f d) σ H Q) hc hN (hC ▸ pi_list hv) ok hg (fun _ _ _ _ _ => pts_yes) (fun s H A cl fp => ⟨fun pins s' σ H' Q I ⟨d, v, F1, H1, q⟩ => (he d v F1 H1 s H A cl fp).run pins s' σ H' Q I q⟩) hs).mono (by rw [ho]; exact lcVL_ok hl)
/-- [f(x) for x in y], y a tree of one's own -/
theorem d_lcVO (hc : X.calm = true) (hC : X.K = C.K) (hN : X.N.Nodup) (hv : PE X iter (tVar i)) (ok : BlkOk X.N X.env.scope scope own)
    (hg : ∀ (s : Shared) (H : Hp) (A : Addr) (cl : List (Str × Addr)) (fp : List Addr), PG (X.blk s H scope (compEnvC scope cl A X.env) fp) (.Name x p) (fun v σ H Q => j < σ.length → Q (σ.set j (some v)) H))
    (he : ∀ (d : D) (v : V) (F1 H1 : Hp) (s : Shared) (H : Hp) (A : Addr) (cl : List (Str × Addr)) (fp : List Addr), PE (X.blk s H scope (compEnvC scope cl A X.env) fp) elt (tE ((lone C.K F1 H1).lnAt j d v) (f d)))
    (ho : own.map (·.2) = [j] := by rfl) (hs : ∀ x, foldedSetIterable iter X.env x = pure x := by intro _; rfl) :
    PE X (.ListComp elt [⟨.Name x p, iter, [], 0⟩] scope pos) (tO C (lcVO j i f)) :=
  (pe_lc (te := fun σ H Q => ∃ (d : D) (v : V) (F1 H1 : Hp), tE ((lone C.K F1 H1).lnAt j d v) (f d) σ H Q) hc hN (hC ▸ pi_list hv) ok hg (fun _ _ _ _ _ => pts_yes) (fun s H A cl fp => ⟨fun pins s' σ H' Q I ⟨d, v, F1, H1, q⟩ => (he d v F1 H1 s H A cl fp).run pins s' σ H' Q I q⟩) hs).mono (by rw [ho]; exact lcVO_ok)
/-- y = [f(x) for x in ..] on one line -/
theorem s_setLcVL {ds : List D} {k : Nat} {y : Str} {py spos : Pos} (hc : X.calm = true) (hC : X.K = C.K) (hN : X.N.Nodup) (hv : PE X iter (tVar k)) (ok : BlkOk X.N X.env.scope scope own)
    (hg : ∀ (s : Shared) (H : Hp) (A : Addr) (cl : List (Str × Addr)) (fp : List Addr), PG (X.blk s H scope (compEnvC scope cl A X.env) fp) (.Name x p) (fun v σ H Q => j < σ.length → Q (σ.set j (some v)) H))
    (he : ∀ (d : D) (v : V) (F1 H1 : Hp) (s : Shared) (H : Hp) (A : Addr) (cl : List (Str × Addr)) (fp : List Addr), PE (X.blk s H scope (compEnvC scope cl A X.env) fp) elt (tE ((lone C.K F1 H1).lnAt j d v) (f d)))
    (hsw : swapsWith (.ListComp elt [⟨.Name x p, iter, [], 0⟩] scope pos) (some (.Name y py)) spos.line X.env = pure true) (ho : own.map (·.2) = [j] := by rfl) (hy : X.N[i]? = some y := by rfl) (hyl : X.env.scope.names.lookup y = some .local := by rfl) (hl : LnAt C ds k := by first | exact lnAt_of rfl (by decide) | exact lnAt_M rfl (by decide) (by decide) | exact lnAt_W rfl (by decide) (by decide)) (hs : ∀ x, foldedSetIterable iter X.env x = pure x := by intro _; rfl) (hl2 : C.ln i = none := by rfl) :
    PS X (.Assign [.Name y py] (.ListComp elt [⟨.Name x p, iter, [], 0⟩] scope pos) spos) (tS C (sSetO i (lcVL j ds k f))) :=
  (ps_setLc (te := fun σ H Q => ∃ (d : D) (v : V) (F1 H1 : Hp), tE ((lone C.K F1 H1).lnAt j d v) (f d) σ H Q) hc hN hy hyl hsw (hC ▸ pi_list hv) ok hg (fun _ _ _ _ _ => pts_yes) (fun s H A cl fp => ⟨fun pins s' σ H' Q I ⟨d, v, F1, H1, q⟩ => (he d v F1 H1 s H A cl fp).run pins s' σ H' Q I q⟩) hs).mono fun T σ H ⟨ρ, F, r, q⟩ => by
    rw [ho]
    exact lcVL_ok hl σ H _ ⟨ρ, F, r, out_of r q fun d v F' H' _ q x s r' w => q _ F' H' (Same.refl _) (r'.setN (r.old x.h) (fun a h => r.ext.h.free h) w hl2)⟩
theorem s_setLcVO {k : Nat} {y : Str} {py spos : Pos} (hc : X.calm = true) (hC : X.K = C.K) (hN : X.N.Nodup) (hv : PE X iter (tVar k)) (ok : BlkOk X.N X.env.scope scope own)
    (hg : ∀ (s : Shared) (H : Hp) (A : Addr) (cl : List (Str × Addr)) (fp : List Addr), PG (X.blk s H scope (compEnvC scope cl A X.env) fp) (.Name x p) (fun v σ H Q => j < σ.length → Q (σ.set j (some v)) H))
    (he : ∀ (d : D) (v : V) (F1 H1 : Hp) (s : Shared) (H : Hp) (A : Addr) (cl : List (Str × Addr)) (fp : List Addr), PE (X.blk s H scope (compEnvC scope cl A X.env) fp) elt (tE ((lone C.K F1 H1).lnAt j d v) (f d)))
    (hsw : swapsWith (.ListComp elt [⟨.Name x p, iter, [], 0⟩] scope pos) (some (.Name y py)) spos.line X.env = pure true) (ho : own.map (·.2) = [j] := by rfl) (hy : X.N[i]? = some y := by rfl) (hyl : X.env.scope.names.lookup y = some .local := by rfl) (hs : ∀ x, foldedSetIterable iter X.env x = pure x := by intro _; rfl) (hl2 : C.ln i = none := by rfl) :
    PS X (.Assign [.Name y py] (.ListComp elt [⟨.Name x p, iter, [], 0⟩] scope pos) spos) (tS C (sSetO i (lcVO j k f))) :=
  (ps_setLc (te := fun σ H Q => ∃ (d : D) (v : V) (F1 H1 : Hp), tE ((lone C.K F1 H1).lnAt j d v) (f d) σ H Q) hc hN hy hyl hsw (hC ▸ pi_list hv) ok hg (fun _ _ _ _ _ => pts_yes) (fun s H A cl fp => ⟨fun pins s' σ H' Q I ⟨d, v, F1, H1, q⟩ => (he d v F1 H1 s H A cl fp).run pins s' σ H' Q I q⟩) hs).mono fun T σ H ⟨ρ, F, r, q⟩ => by
    rw [ho]
    exact lcVO_ok σ H _ ⟨ρ, F, r, out_of r q fun d v F' H' _ q x s r' w => q _ F' H' (Same.refl _) (r'.setN (r.old x.h) (fun a h => r.ext.h.free h) w hl2)⟩
end
/-! evaluation -/
theorem lcVL_at {ds rs : List D} {i j : Nat} {f : D → En → R D} {ρ : En} {d : D} {zs : List D} (h1 : rdL ds i ρ = .ok d) (h2 : rowsR d = .ok rs) (hl : rs.length ≤ sizeLine) (h : lcVGo f ((wipeR ρ [j]).set j none) rs = .ok zs) : lcVL j ds i f ρ = .ok (.lst zs) := by
  unfold lcVL
  rw [h1, bd_ok, h2]
  exact lcVK_of hl h
theorem lcVO_at {i j : Nat} {f : D → En → R D} {ρ : En} {rs zs : List D} (h1 : ρ[i]? = some (some (true, .deep (.lst rs)))) (h2 : rs.all rowT = true) (hl : rs.length ≤ sizeLine) (h : lcVGo f ((wipeR (ρ.set i none) [j]).set j none) rs = .ok zs) : lcVO j i f ρ = .ok (.lst zs) := by
  unfold lcVO ownRw
  rw [h1]
  dsimp only
  rw [if_pos h2]
  exact lcVK_of hl h
/-! list < list -/
def rLtL (K : PySem.W.Frag) : R2 := fun x y H Q => ∃ xs ys : List Int, Dp K H x (.list (xs.map .int)) ∧ Dp K H y (.list (ys.map .int)) ∧ Q (.bl (decide (xs < ys))) H
theorem lt_ints (xs ys : List Int) : PySem.W.dataLt (.list (xs.map .int)) (.list (ys.map .int)) = decide (xs < ys) := by
  have h3 := congrFun (congrFun (PySem.W.dataLe_rows (fun r : List Int => r)) ys) xs
  have h3 : (!PySem.W.dataLt (.list (xs.map .int)) (.list (ys.map .int))) = decide (ys ≤ xs) := h3
  cases h : PySem.W.dataLt (.list (xs.map .int)) (.list (ys.map .int)) with
  | true =>
    rw [h] at h3
    have : ¬ ys ≤ xs := of_decide_eq_false h3.symm
    exact (decide_eq_true (List.not_le.mp this)).symm
  | false =>
    rw [h] at h3
    have : ys ≤ xs := of_decide_eq_true h3.symm
    exact (decide_eq_false (List.not_lt.mpr this)).symm
def dLtX : D → D → R D
  | .lst ds, .lst es => match asInts ds, asInts es with
    | some xs, some ys => .ok (.bl (decide (xs < ys)))
    | _, _ => .bad
  | a, b => dLt a b
theorem ltX_int {i j : Int} : dLtX (.int i) (.int j) = .ok (.bl (decide (i < j))) := rfl
theorem ltX_ints (xs ys : List Int) : dLtX (.lst (xs.map .int)) (.lst (ys.map .int)) = .ok (.bl (decide (xs < ys))) := by
  show (match asInts (xs.map D.int), asInts (ys.map D.int) with | some xs, some ys => R.ok (D.bl (decide (xs < ys))) | _, _ => R.bad) = _
  rw [asInts_map, asInts_map]
section
variable {X : Cx} {C : Cd} {a b : Expr} {f g : En → R D} {pos : Pos} {kk : Nat}
theorem op_ltL (hu : X.A.units + 65 < cLine) : OpR X (compareOp .Lt) (rLtL X.K) := by
  intro pins s σ H x y v u Q I rx ry h
  obtain ⟨xs, ys, hd, he, q⟩ := h
  obtain ⟨as, r1⟩ := Dp.reads I _ x v hd rx
  obtain ⟨bs, r2⟩ := Dp.reads I _ y u he ry
  refine PySem.W.lt_data r1 r2 (PySem.W.alike_ints xs ys) (fun z => nomatch z) ?_ ⟨.bl _, H, I, by rw [lt_ints]; rfl, q⟩
  have h0 := PySem.W.depth_ints xs
  have h1 := PySem.W.depth_ints ys
  simp only [PyData.depth, h0, h1]
  omega
theorem ltX_ok : Op2 C (fun x y H Q => (fun x y H Q => rI0 (fun i j => .bl (decide (i < j))) x y H Q ∨ (∃ i j, x = .str i ∧ y = .str j ∧ Q (.bl (decide (i.cps.toList < j.cps.toList))) H)) x y H Q ∨ rLtL C.K x y H Q) dLtX := by
  intro σ F H Q d e x y o s w1 w2
  unfold dLtX at o
  split at o
  · rename_i ds es
    split at o
    · rename_i xs ys h1 h2
      obtain ⟨p, vs, rfl, hq, r⟩ := w1
      obtain ⟨p', vs', rfl, hq', r'⟩ := w2
      have e1 := asInts_of h1
      have e2 := asInts_of h2
      subst e1
      subst e2
      have hp : ∀ ns : List Int, pys (ns.map D.int) = some (ns.map PyData.int) := fun ns => by
        induction ns with
        | nil => rfl
        | cons n ns ih => simp only [List.map_cons]; unfold pys; rw [ih]; rfl
      exact .inr ⟨xs, ys, .lst (SqL.of hq) (Reps.dp s r (hp xs)), .lst (SqL.of hq') (Reps.dp s r' (hp ys)), fin_flat o s rfl⟩
    · exact o.elim
  · exact .inl (rLt_ok σ F H Q d e x y o s w1 w2)
theorem d_ltX (hC : X.K = C.K) (hr : Room kk X.A) (ha : PE X a (tR C f)) (hb : PE X b (tR C g)) : PE X (.Compare a [.Lt] [b] pos) (tO C (bop f g dLtX)) := d_cmp (OpR.or (OpR.or op_lt op_lt_str) (hC ▸ op_ltL (eu65 hr))) ltX_ok (nomark _) ha hb
theorem dt_ltX (hC : X.K = C.K) (hr : Room kk X.A) (ha : PE X a (tR C f)) (hb : PE X b (tR C g)) : PT X (.Compare a [.Lt] [b] pos) (tT C (tst (bop f g dLtX))) := dt_cmp (OpR.or (OpR.or op_lt op_lt_str) (hC ▸ op_ltL (eu65 hr))) ltX_ok (nomark _) ha hb
end
end DL
namespace Fn
open PySem DL
def width_9fdd_g : En → R Fl :=
  (sRetO (bop (bop (rd 0) (uop (cst (.int 1)) dNeg) dMaxDef) (cst (.int 1)) dAdd))
def width_9fdd : Den := bodyN 1 1 width_9fdd_g
end Fn
namespace Fn
open PySem DL
def law_cell_547d_g : En → R Fl :=
  (sSeq (sIf (tst (bop (rd 1) (nop (aCons (rd 0) aNil) dLen) dLt)) (sRet (bop (rd 0) (rd 1) dIxA)) sSkip)
  (sSeq (sIf (tst (bop (rd 0) (nop aNil mkLst) (dEq false))) (sRetO (bop (bop (bop (rd 1) (rd 1) dMul) (cst (.int 7919)) dMul) (bop (cst (.int 13)) (rd 1) dMul) dAdd)) sSkip)
  (sRetO (bop (bop (bop (bop (bop (rd 0) (bop (rd 1) (nop (aCons (rd 0) aNil) dLen) dMod) dIxA) (bop (bop (rd 1) (rd 1) dMul) (cst (.int 7919)) dMul) dAdd) (cst (.int 1)) dAdd) (cst (.int 48271)) dMul) (cst (.int 2147483647)) dMod))))
def law_cell_547d : Den := bodyN 2 2 law_cell_547d_g
end Fn
namespace Fn
open PySem DL
def law_whole_9e39_g : En → R Fl :=
  (sRetO (eAnd (uop (rd 0) (isiD "int")) (uop (uop (rd 0) (isiD "bool")) eNot)))
def law_whole_9e39 : Den := bodyN 1 1 law_whole_9e39_g
end Fn
namespace Fn
open PySem DL
def law_pattern_2b1b_b1 : En → R Fl :=
  (sSeq (sAppend 1 (bop (rd 3) (bop (rd 2) (cst (.int 1)) dAdd) dMod))
  (sIf (tst (bop (bop (rd 1) (uop (cst (.int 1)) dNeg) dIxA) (rd 2) (dEq false))) (sSet 2 (bop (rd 2) (cst (.int 1)) dAdd)) sSkip))
def law_pattern_2b1b_g : En → R Fl :=
  (sSeq (sSetO 1 (nop aNil mkLst))
  (sSeq (sSet 2 (cst (.int 0)))
  (sSeq (sFor (itr (rdE 0)) (gSet 3) law_pattern_2b1b_b1)
  (sRetO (rdO 1)))))
def law_pattern_2b1b : Den := bodyN 1 4 law_pattern_2b1b_g
end Fn
namespace Fn
open PySem DL
def grown_0f21_e1 : En → R D :=
  (bop (rd 0) (nop (aCons (rdE 1) aNil) mkLst) dAdd)
def grown_0f21_g : En → R Fl :=
  (sRetO (lcD [1] (irg (aCons (bop (nop (aCons (rdE 0) aNil) (callE Fn.width_9fdd)) (cst (.int 1)) dAdd) aNil) rng1) (gSet 1) tYesD grown_0f21_e1))
def grown_0f21 : Den := bodyN 1 2 grown_0f21_g
end Fn
namespace Fn
open PySem DL
def law_is_pattern_d0e5_b1 : En → R Fl :=
  (sSeq (sIf (bOr (bNot (tst (nop (aCons (rdE 3) aNil) (callO Fn.law_whole_9e39)))) (bOr (tst (bop (rd 3) (cst (.int 0)) dLt)) (tst (bop (rd 3) (rd 2) dGt)))) (sRetO (cst (.bl false))) sSkip)
  (sIf (tst (bop (rd 3) (rd 2) (dEq false))) (sSet 2 (bop (rd 2) (cst (.int 1)) dAdd)) sSkip))
def law_is_pattern_d0e5_g : En → R Fl :=
  (sSeq (sIf (bOr (bNot (tst (uop (rd 0) (isiD "list")))) (tst (bop (nop (aCons (rd 0) aNil) dLen) (rd 1) (dEq true)))) (sRetO (cst (.bl false))) sSkip)
  (sSeq (sSet 2 (cst (.int 0)))
  (sSeq (sFor (itr (rdE 0)) (gSet 3) law_is_pattern_d0e5_b1)
  (sRetO (cst (.bl true))))))
def law_is_pattern_d0e5 : Den := bodyN 2 4 law_is_pattern_d0e5_g
end Fn
namespace Fn
open PySem DL
def shapes_7a1b_b1 : En → R Fl :=
  (sExtend 3 (nop (aCons (rdE 4) aNil) (callE Fn.grown_0f21)))
def shapes_7a1b_b2 : En → R Fl :=
  (sSeq (sSetO 3 (nop aNil mkLst))
  (sSeq (sFor (itr (rdE 1)) (gSet 4) shapes_7a1b_b1)
  (sStl [3] (sSet 1 (rdE 3)))))
def shapes_7a1b_g : En → R Fl :=
  (sSeq (sSet 1 (nop (aCons (nop aNil mkLst) aNil) mkLst))
  (sSeq (sFor (irg (aCons (rd 0) aNil) rng1) (gSet 2) shapes_7a1b_b2)
  (sRet (rdE 1))))
def shapes_7a1b : Den := bodyN 1 5 shapes_7a1b_g
end Fn
namespace Fn
open PySem DL
def law_f159_b1 : En → R Fl :=
  (sSeq (sIf (lendT 2 (bNot (tst (nop (aCons (bop (rd 2) (rd 3) dIxA) (aCons (rdE 1) aNil)) (callO Fn.law_is_pattern_d0e5))))) (sRetO (cst (.bl false))) sSkip)
  (sIf (lendT 2 (bAnd (tst (bop (rd 3) (cst (.int 0)) dGt)) (bNot (tst (bop (bop (rd 2) (bop (rd 3) (cst (.int 1)) dSub) dIxA) (bop (rd 2) (rd 3) dIxA) dLtX))))) (sRetO (cst (.bl false))) sSkip))
def law_f159_e2 (x7 : D) : En → R D :=
  (nop (aCons (cst x7) aNil) dList)
def law_f159_b3 : En → R Fl :=
  (sSeq (sSet 6 (slc (bop (slc (rd 0) (pSome (uop (rdE 5) flatO)) (pSome (bop (rd 5) (rd 1) dAdd))) (bop (nop (aCons (cst (.int 0)) aNil) mkLst) (rd 1) dMul) dAdd) pNone (pSome (uop (rdE 1) flatO))))
  (sSeq (sIf (lendT 2 (tst (bop (cnt (rd 2) (nop (aCons (rdE 6) aNil) (callE Fn.law_pattern_2b1b))) (cst (.int 1)) (dEq true)))) (sRetO (cst (.bl false))) sSkip)
  (sSet 5 (bop (rd 5) (nop (aCons (cst (.int 1)) (aCons (rd 1) aNil)) dMax) dAdd))))
def law_f159_t4 : En → R Bool :=
  (tst (bop (rd 5) (nop (aCons (rd 0) aNil) dLen) dLtX))
def law_f159_g : En → R Fl :=
  (sSeq (sSet 1 (bop (nop (aCons (rdE 0) (aCons (cst (.int 0)) aNil)) (callE Fn.law_cell_547d)) (cst (.int 7)) dMod))
  (sSeq (sSetO 2 (nop (aCons (rdE 1) aNil) (callDE Fn.shapes_7a1b)))
  (sSeq (sIf (lendT 2 (bOr (bNot (tst (uop (rd 2) (isiD "list")))) (tst (bop (nop (aCons (rd 2) aNil) dLen) (bop (nop (aCons (cst (.int 1)) (aCons (cst (.int 1)) (aCons (cst (.int 2)) (aCons (cst (.int 5)) (aCons (cst (.int 15)) (aCons (cst (.int 52)) (aCons (cst (.int 203)) aNil))))))) mkLst) (rd 1) dIxA) (dEq true))))) (sRetO (cst (.bl false))) sSkip)
  (sSeq (sFor (irg (aCons (lendF 2 (nop (aCons (rd 2) aNil) dLen)) aNil) rng1) (gSet 3) law_f159_b1)
  (sSeq (sSet 4 (lcVO 7 2 (fun x7 => (law_f159_e2 x7))))
  (sSeq (sSet 5 (cst (.int 1)))
  (sSeq (whileD law_f159_t4 law_f159_b3 FU)
  (sSeq (sPApp 2 [0] (cst (.int 0)))
  (sSeq (sPApp 2 [] (nop (aCons (cst (.int 0)) aNil) mkLst))
  (sRetO (bop (nop (aCons (rdE 1) aNil) (callE Fn.shapes_7a1b)) (rd 4) (dEq false))))))))))))
def law_f159 : Den := bodyN 1 8 law_f159_g
end Fn
namespace Lk12
open PySem PySem.Spec PyProof.Rows L2 DL
def topS (i : Nat) : Stmt := PySem.Challenge.pw_deskround_k12_all_shapes.main.body.getD i (.Pass ⟨0, 0, 0, 0⟩)
abbrev s_width : Stmt := topS 1
abbrev N_width : List Str := ["pattern"]
theorem sc_width : FnScope N_width ["pattern"] (defScope s_width) := ⟨rfl, rfl, rfl, by decide +kernel, rfl, by decide +kernel, by decide +kernel⟩
abbrev s__law_cell : Stmt := topS 5
abbrev N__law_cell : List Str := ["script", "k"]
theorem sc__law_cell : FnScope N__law_cell ["script", "k"] (defScope s__law_cell) := ⟨rfl, rfl, rfl, by decide +kernel, rfl, by decide +kernel, by decide +kernel⟩
abbrev s__law_whole : Stmt := topS 6
abbrev N__law_whole : List Str := ["found"]
theorem sc__law_whole : FnScope N__law_whole ["found"] (defScope s__law_whole) := ⟨rfl, rfl, rfl, by decide +kernel, rfl, by decide +kernel, by decide +kernel⟩
abbrev s__law_pattern : Stmt := topS 7
abbrev N__law_pattern : List Str := ["cells", "pattern", "wide", "cell"]
theorem sc__law_pattern : FnScope N__law_pattern ["cells"] (defScope s__law_pattern) := ⟨rfl, rfl, rfl, by decide +kernel, rfl, by decide +kernel, by decide +kernel⟩
abbrev s_grown : Stmt := topS 2
abbrev N_grown : List Str := ["pattern", "number"]
theorem sc_grown : FnScope N_grown ["pattern"] (defScope s_grown) := ⟨rfl, rfl, rfl, by decide +kernel, rfl, by decide +kernel, by decide +kernel⟩
abbrev s__law_is_pattern : Stmt := topS 8
abbrev N__law_is_pattern : List Str := ["found", "count", "wide", "number"]
theorem sc__law_is_pattern : FnScope N__law_is_pattern ["found", "count"] (defScope s__law_is_pattern) := ⟨rfl, rfl, rfl, by decide +kernel, rfl, by decide +kernel, by decide +kernel⟩
abbrev s_shapes : Stmt := topS 3
abbrev N_shapes : List Str := ["count", "found", "turn", "longer", "pattern"]
theorem sc_shapes : FnScope N_shapes ["count"] (defScope s_shapes) := ⟨rfl, rfl, rfl, by decide +kernel, rfl, by decide +kernel, by decide +kernel⟩
abbrev s_law : Stmt := topS 9
abbrev N_law : List Str := ["script", "count", "found", "k", "kept", "at", "drawn", "pattern"]
theorem sc_law : FnScope N_law ["script"] (defScope s_law) := ⟨rfl, rfl, rfl, by decide +kernel, rfl, by decide +kernel, by decide +kernel⟩
structure Txt (K : PySem.W.Frag) (mg : Str → Option Value) where
  a_width : Addr
  d_width : FuncData
  F_width : Fun K "width" "width" s_width a_width d_width
  m_width : mg "width" = some (.ref a_width)
  b_width : Binds K d_width ["pattern"] []
  a__law_cell : Addr
  d__law_cell : FuncData
  F__law_cell : Fun K "_law_cell" "_law_cell" s__law_cell a__law_cell d__law_cell
  m__law_cell : mg "_law_cell" = some (.ref a__law_cell)
  b__law_cell : Binds K d__law_cell ["script", "k"] []
  a__law_whole : Addr
  d__law_whole : FuncData
  F__law_whole : Fun K "_law_whole" "_law_whole" s__law_whole a__law_whole d__law_whole
  m__law_whole : mg "_law_whole" = some (.ref a__law_whole)
  b__law_whole : Binds K d__law_whole ["found"] []
  a__law_pattern : Addr
  d__law_pattern : FuncData
  F__law_pattern : Fun K "_law_pattern" "_law_pattern" s__law_pattern a__law_pattern d__law_pattern
  m__law_pattern : mg "_law_pattern" = some (.ref a__law_pattern)
  b__law_pattern : Binds K d__law_pattern ["cells"] []
  a_grown : Addr
  d_grown : FuncData
  F_grown : Fun K "grown" "grown" s_grown a_grown d_grown
  m_grown : mg "grown" = some (.ref a_grown)
  b_grown : Binds K d_grown ["pattern"] []
  a__law_is_pattern : Addr
  d__law_is_pattern : FuncData
  F__law_is_pattern : Fun K "_law_is_pattern" "_law_is_pattern" s__law_is_pattern a__law_is_pattern d__law_is_pattern
  m__law_is_pattern : mg "_law_is_pattern" = some (.ref a__law_is_pattern)
  b__law_is_pattern : Binds K d__law_is_pattern ["found", "count"] []
  a_shapes : Addr
  d_shapes : FuncData
  F_shapes : Fun K "shapes" "shapes" s_shapes a_shapes d_shapes
  m_shapes : mg "shapes" = some (.ref a_shapes)
  b_shapes : Binds K d_shapes ["count"] []
  a_law : Addr
  d_law : FuncData
  F_law : Fun K "law" "law" s_law a_law d_law
  m_law : mg "law" = some (.ref a_law)
  b_law : Binds K d_law ["script"] []
  z_bool : mg "bool" = none
  z_int : mg "int" = none
  z_isinstance : mg "isinstance" = none
  z_len : mg "len" = none
  z_list : mg "list" = none
  z_max : mg "max" = none
  z_range : mg "range" = none
section
variable {P : Program} {w : World} {K : PySem.W.Frag} {mg : Str → Option Value} {base : Heap}
theorem ok_width (T : Txt K mg) : FnOk P w K mg base CX0 1 T.a_width T.d_width ["pattern"] (spD K (fun _ => 0) 1 Fn.width_9fdd) :=
  ok_def T.F_width sc_width fun cdv A outer s H E F0 hr =>
  (ss_one (s_retO (d_add rfl (r_of_o (d_maxDef rfl rfl T.z_max (v_R (pv 0)) (r_of_o (d_neg (r_of_o c_int))))) (r_of_o c_int))))
theorem ok__law_cell (T : Txt K mg) : FnOk P w K mg base CX0 1 T.a__law_cell T.d__law_cell ["script", "k"] (spD K (fun _ => 0) 2 Fn.law_cell_547d) :=
  ok_def T.F__law_cell sc__law_cell fun cdv A outer s H E F0 hr =>
  (ss_cons (s_if (dt_lt (v_R (pv 1)) (r_of_o (DL.d_len rfl T.z_len (w_cons (v_R (pv 0)) w_nil)))) (ss_one (s_ret (d_ixA rfl (eu1 hr) (v_R (pv 0)) (v_R (pv 1))))) ss_nil)
  (ss_cons (s_if (dt_eq rfl hr (v_R (pv 0)) (r_of_o (d_lst a_nil))) (ss_one (s_retO (d_add rfl (r_of_o (d_mul (r_of_o (d_mul (v_R (pv 1)) (v_R (pv 1)))) (r_of_o c_int))) (r_of_o (d_mul (r_of_o c_int) (v_R (pv 1))))))) ss_nil)
  (ss_one (s_retO (d_mod (r_of_o (d_mul (r_of_o (d_add rfl (r_of_o (d_add rfl (r_of_e (d_ixA rfl (eu1 hr) (v_R (pv 0)) (r_of_o (d_mod (v_R (pv 1)) (r_of_o (DL.d_len rfl T.z_len (w_cons (v_R (pv 0)) w_nil))))))) (r_of_o (d_mul (r_of_o (d_mul (v_R (pv 1)) (v_R (pv 1)))) (r_of_o c_int))))) (r_of_o c_int))) (r_of_o c_int))) (r_of_o c_int))))))
theorem ok__law_whole (T : Txt K mg) : FnOk P w K mg base CX0 1 T.a__law_whole T.d__law_whole ["found"] (spD K (fun _ => 0) 1 Fn.law_whole_9e39) :=
  ok_def T.F__law_whole sc__law_whole fun cdv A outer s H E F0 hr =>
  (ss_one (s_retO (d_and (d_isi rfl (v_R (pv 0)) (ty_of T.z_int (by decide +kernel)) (by decide +kernel) T.z_isinstance) (d_one (d_not (d_isi rfl (v_R (pv 0)) (ty_of T.z_bool (by decide +kernel)) (by decide +kernel) T.z_isinstance))))))
theorem ok__law_pattern (T : Txt K mg) : FnOk P w K mg base CX0 1 T.a__law_pattern T.d__law_pattern ["cells"] (spD K (fun _ => 0) 1 Fn.law_pattern_2b1b) :=
  ok_def T.F__law_pattern sc__law_pattern fun cdv A outer s H E F0 hr =>
  (ss_cons (s_setO (i := 1) (d_lst a_nil) sc__law_pattern.nd)
  (ss_cons (s_set (i := 2) (e_of_o c_int) sc__law_pattern.nd)
  (ss_cons (s_for rfl (i_seqE rfl (v_E (pv 0))) (g_name (i := 3) (own := [3]) sc__law_pattern.nd) (ss_cons (s_append (pv 1) (e_of_o (d_mod (v_R (pv 3)) (r_of_o (d_add rfl (v_R (pv 2)) (r_of_o c_int))))))
  (ss_one (s_if (dt_eq rfl hr (r_of_e (d_ixA rfl (eu1 hr) (v_R (pv 1)) (r_of_o (d_neg (r_of_o c_int))))) (v_R (pv 2))) (ss_one (s_set (i := 2) (e_of_o (d_add rfl (v_R (pv 2)) (r_of_o c_int))) sc__law_pattern.nd)) ss_nil))) PassesOwn.never)
  (ss_one (s_retN (pv 1))))))
theorem ok_grown (T : Txt K mg) : FnOk P w K mg base CX0 2 T.a_grown T.d_grown ["pattern"] (spD K (fun _ => 0) 1 Fn.grown_0f21) :=
  ok_def T.F_grown sc_grown fun cdv A outer s H E F0 hr =>
  (ss_one (s_retO (d_lc (own := [("number", 1)]) rfl sc_grown.nd (i_range1 T.z_range (w_cons (r_of_o (d_add rfl (r_of_e (d_callE (ok_width T) bodyN_len (hr.mono (by decide)) T.m_width T.F_width.kp T.b_width pass0 (fun _ _ _ h => h) (a_cons (v_E (pv 0)) a_nil))) (r_of_o c_int))) w_nil)) (blkOk_by (own := [("number", 1)]) (N := N_grown) (sc := defScope s_grown) (by decide +kernel)) (fun _ _ _ _ _ => (g_name (i := 1) (own := [1]) sc_grown.nd)) (fun _ _ _ _ _ => ts_nil) (fun _ _ _ _ _ => (e_of_o (d_add rfl (v_R (pv 0)) (r_of_o (d_lst (a_cons (v_E (pv 1)) a_nil)))))))))
theorem ok__law_is_pattern (T : Txt K mg) : FnOk P w K mg base CX0 2 T.a__law_is_pattern T.d__law_is_pattern ["found", "count"] (spD K (fun _ => 0) 2 Fn.law_is_pattern_d0e5) :=
  ok_def T.F__law_is_pattern sc__law_is_pattern fun cdv A outer s H E F0 hr =>
  (ss_cons (s_if (t_w (w_or (t_not (dt_val (d_isi rfl (v_R (pv 0)) (ty_of T.z_list (by decide +kernel)) (by decide +kernel) T.z_isinstance))) (w_or1 (dt_ne rfl hr (r_of_o (DL.d_len rfl T.z_len (w_cons (v_R (pv 0)) w_nil))) (v_R (pv 1)))))) (ss_one (s_retO c_bl)) ss_nil)
  (ss_cons (s_set (i := 2) (e_of_o c_int) sc__law_is_pattern.nd)
  (ss_cons (s_for rfl (i_seqE rfl (v_E (pv 0))) (g_name (i := 3) (own := [3]) sc__law_is_pattern.nd) (ss_cons (s_if (t_w (w_or (t_not (dt_val (d_callO (ok__law_whole T) bodyN_len (hr.mono (by decide)) T.m__law_whole T.F__law_whole.kp T.b__law_whole pass0 (fun _ _ _ h => h) (a_cons (v_E (pv 3)) a_nil)))) (w_or (dt_lt (v_R (pv 3)) (r_of_o c_int)) (w_or1 (dt_gt (v_R (pv 3)) (v_R (pv 2))))))) (ss_one (s_retO c_bl)) ss_nil)
  (ss_one (s_if (dt_eq rfl hr (v_R (pv 3)) (v_R (pv 2))) (ss_one (s_set (i := 2) (e_of_o (d_add rfl (v_R (pv 2)) (r_of_o c_int))) sc__law_is_pattern.nd)) ss_nil))) PassesOwn.never)
  (ss_one (s_retO c_bl)))))
theorem ok_shapes (T : Txt K mg) : FnOk P w K mg base CX0 3 T.a_shapes T.d_shapes ["count"] (spD K (fun _ => 0) 1 Fn.shapes_7a1b) :=
  ok_def T.F_shapes sc_shapes fun cdv A outer s H E F0 hr =>
  (ss_cons (s_set (i := 1) (e_of_o (d_lst (a_cons (e_of_o (d_lst a_nil)) a_nil))) sc_shapes.nd)
  (ss_cons (s_for rfl (i_range1 T.z_range (w_cons (v_R (pv 0)) w_nil)) (g_name (i := 2) (own := [2]) sc_shapes.nd) (ss_cons (s_setO (i := 3) (d_lst a_nil) sc_shapes.nd)
  (ss_cons (s_for rfl (i_seqE rfl (v_E (pv 1))) (g_name (i := 4) (own := [4]) sc_shapes.nd) (ss_one (s_extend (pv 3) (r_of_e (d_callE (ok_grown T) bodyN_len (hr.mono (by decide)) T.m_grown T.F_grown.kp T.b_grown pass0 (fun _ _ _ h => h) (a_cons (v_E (pv 4)) a_nil))))) PassesOwn.never)
  (ss_one (s_settle [3] (s_set (i := 1) (v_E (pv 3)) sc_shapes.nd))))) PassesOwn.never)
  (ss_one (s_ret (v_E (pv 1))))))
theorem ok_law (T : Txt K mg) : FnOk P w K mg base CX0 4 T.a_law T.d_law ["script"] (spD K (fun _ => 0) 1 Fn.law_f159) :=
  ok_def T.F_law sc_law fun cdv A outer s H E F0 hr =>
  (ss_cons (s_set (i := 1) (e_of_o (d_mod (r_of_e (d_callE (ok__law_cell T) bodyN_len (hr.mono (by decide)) T.m__law_cell T.F__law_cell.kp T.b__law_cell pass0 (fun _ _ _ h => h) (a_cons (v_E (pv 0)) (a_cons (e_of_o c_int) a_nil)))) (r_of_o c_int))) sc_law.nd)
  (ss_cons (s_setO (i := 2) (d_callDE (ok_shapes T) bodyN_len (hr.mono (by decide)) T.m_shapes T.F_shapes.kp T.b_shapes pass0 (fun _ _ _ h => h) (a_cons (v_E (pv 1)) a_nil)) sc_law.nd)
  (ss_cons (s_if (t_lend (t_w (w_or (t_not (dt_val (d_isi rfl (v_R (pv 2)) (ty_of T.z_list (by decide +kernel)) (by decide +kernel) T.z_isinstance))) (w_or1 (dt_ne rfl hr (r_of_o (DL.d_len rfl T.z_len (w_cons (v_R (pv 2)) w_nil))) (r_of_e (d_ixA rfl (eu1 hr) (r_of_o (d_lst (a_cons (e_of_o c_int) (a_cons (e_of_o c_int) (a_cons (e_of_o c_int) (a_cons (e_of_o c_int) (a_cons (e_of_o c_int) (a_cons (e_of_o c_int) (a_cons (e_of_o c_int) a_nil))))))))) (v_R (pv 1))))))))) (ss_one (s_retO c_bl)) ss_nil)
  (ss_cons (s_for rfl (i_range1 T.z_range (w_cons (r_of_o (e_lend (e_of_o (DL.d_len rfl T.z_len (w_cons (v_R (pv 2)) w_nil))))) w_nil)) (g_name (i := 3) (own := [3]) sc_law.nd) (ss_cons (s_if (t_lend (t_not (dt_val (d_callO (ok__law_is_pattern T) bodyN_len (hr.mono (by decide)) T.m__law_is_pattern T.F__law_is_pattern.kp T.b__law_is_pattern pass0 (fun _ _ _ h => h) (a_cons (d_ixA rfl (eu1 hr) (v_R (pv 2)) (v_R (pv 3))) (a_cons (v_E (pv 1)) a_nil)))))) (ss_one (s_retO c_bl)) ss_nil)
  (ss_one (s_if (t_lend (t_w (w_and (dt_gt (v_R (pv 3)) (r_of_o c_int)) (w_and1 (t_not (dt_ltX rfl hr (r_of_e (d_ixA rfl (eu1 hr) (v_R (pv 2)) (r_of_o (d_sub (v_R (pv 3)) (r_of_o c_int))))) (r_of_e (d_ixA rfl (eu1 hr) (v_R (pv 2)) (v_R (pv 3)))))))))) (ss_one (s_retO c_bl)) ss_nil))) PassesOwn.never)
  (ss_cons (s_toC (s_setLcVO (i := 4) (j := 7) (own := [("pattern", 7)]) rfl rfl sc_law.nd (pv 2) (blkOk_by (own := [("pattern", 7)]) (N := N_law) (sc := defScope s_law) (by decide +kernel)) (fun _ _ _ _ _ => pg_len sc_law.nd rfl (by first | exact .inl rfl | exact .inr rfl) (by first | exact .inl rfl | exact .inr rfl)) (fun x7 _ _ _ _ _ _ _ _ => (e_of_o (DL.d_list rfl T.z_list (w_cons (v_LC (pv 7)) w_nil)))) (sw_true rfl rfl rfl (by decide +kernel))))
  (ss_cons (s_set (i := 5) (e_of_o c_int) sc_law.nd)
  (ss_cons (s_while FU (dt_ltX rfl hr (v_R (pv 5)) (r_of_o (DL.d_len rfl T.z_len (w_cons (v_R (pv 0)) w_nil)))) (ss_cons (s_set (i := 6) (e_of_o (d_slice rfl (r_of_o (d_add rfl (r_of_o (d_slice rfl (v_R (pv 0)) (p_some (o_of_e (v_E (pv 5)))) (p_some (d_add rfl (v_R (pv 5)) (v_R (pv 1)))))) (r_of_o (d_mul (r_of_o (d_lst (a_cons (e_of_o c_int) a_nil))) (v_R (pv 1)))))) p_none (p_some (o_of_e (v_E (pv 1)))))) sc_law.nd)
  (ss_cons (s_if (t_lend (dt_ne rfl hr (r_of_o (d_count rfl (eu65 hr) (v_R (pv 2)) (r_of_e (d_callE (ok__law_pattern T) bodyN_len (hr.mono (by decide)) T.m__law_pattern T.F__law_pattern.kp T.b__law_pattern pass0 (fun _ _ _ h => h) (a_cons (v_E (pv 6)) a_nil))))) (r_of_o c_int))) (ss_one (s_retO c_bl)) ss_nil)
  (ss_one (s_set (i := 5) (e_of_o (d_add rfl (v_R (pv 5)) (r_of_o (DL.d_max rfl T.z_max (w_cons (r_of_o c_int) (w_cons (v_R (pv 1)) w_nil)))))) sc_law.nd)))) PassesOwn.never)
  (ss_cons (s_pApp (p_ix (k := 0) rfl (p_var (pv 2))) (e_of_o c_int))
  (ss_cons (s_pApp (p_var (pv 2)) (e_of_o (d_lst (a_cons (e_of_o c_int) a_nil))))
  (ss_one (s_retO (d_eq rfl hr (r_of_e (d_callE (ok_shapes T) bodyN_len (hr.mono (by decide)) T.m_shapes T.F_shapes.kp T.b_shapes pass0 (fun _ _ _ h => h) (a_cons (v_E (pv 1)) a_nil))) (v_R (pv 4))))))))))))))
end
theorem all_mk (hlaw : ∀ ns : List Int, ns.length ≤ 63 → ∃ o, Fn.law_f159 [.scr ns] = .ok (o, .bl true)) {l : PySem.W.OpenLaw} {w : World} {K : PySem.W.Frag} {h : Heap} {mg : Str → Option Value} {fa : Addr} (X : K.In h) (G : h.Ns mainGlobals mg) (hfa : mg "law" = some (.ref fa))
    {f_width : Addr} {od_width an_width : Option Addr} {sl_width : Array (Option Value)} {oc_width kV_width dc_width pm_width cd_width ct_width : Value}
    {f__law_cell : Addr} {od__law_cell an__law_cell : Option Addr} {sl__law_cell : Array (Option Value)} {oc__law_cell kV__law_cell dc__law_cell pm__law_cell cd__law_cell ct__law_cell : Value}
    {f__law_whole : Addr} {od__law_whole an__law_whole : Option Addr} {sl__law_whole : Array (Option Value)} {oc__law_whole kV__law_whole dc__law_whole pm__law_whole cd__law_whole ct__law_whole : Value}
    {f__law_pattern : Addr} {od__law_pattern an__law_pattern : Option Addr} {sl__law_pattern : Array (Option Value)} {oc__law_pattern kV__law_pattern dc__law_pattern pm__law_pattern cd__law_pattern ct__law_pattern : Value}
    {f_grown : Addr} {od_grown an_grown : Option Addr} {sl_grown : Array (Option Value)} {oc_grown kV_grown dc_grown pm_grown cd_grown ct_grown : Value}
    {f__law_is_pattern : Addr} {od__law_is_pattern an__law_is_pattern : Option Addr} {sl__law_is_pattern : Array (Option Value)} {oc__law_is_pattern kV__law_is_pattern dc__law_is_pattern pm__law_is_pattern cd__law_is_pattern ct__law_is_pattern : Value}
    {f_shapes : Addr} {od_shapes an_shapes : Option Addr} {sl_shapes : Array (Option Value)} {oc_shapes kV_shapes dc_shapes pm_shapes cd_shapes ct_shapes : Value}
    {f_law : Addr} {od_law an_law : Option Addr} {sl_law : Array (Option Value)} {oc_law kV_law dc_law pm_law cd_law ct_law : Value}
    (a_width : PySem.W.nsIn K mainGlobals "width" = some (some (.ref f_width))) (l_width : K.lookup f_width = some ⟨oc_width, od_width, .func (PySem.W.fnOf "width" "width" (defArgs s_width) (defBody s_width) (defScope s_width) .none kV_width dc_width pm_width an_width cd_width ct_width), sl_width⟩) (c_width : PySem.W.codeIn K cd_width "width" = true) (k_width : PySem.W.keepIn K (.ref f_width) = true)
    (a__law_cell : PySem.W.nsIn K mainGlobals "_law_cell" = some (some (.ref f__law_cell))) (l__law_cell : K.lookup f__law_cell = some ⟨oc__law_cell, od__law_cell, .func (PySem.W.fnOf "_law_cell" "_law_cell" (defArgs s__law_cell) (defBody s__law_cell) (defScope s__law_cell) .none kV__law_cell dc__law_cell pm__law_cell an__law_cell cd__law_cell ct__law_cell), sl__law_cell⟩) (c__law_cell : PySem.W.codeIn K cd__law_cell "_law_cell" = true) (k__law_cell : PySem.W.keepIn K (.ref f__law_cell) = true)
    (a__law_whole : PySem.W.nsIn K mainGlobals "_law_whole" = some (some (.ref f__law_whole))) (l__law_whole : K.lookup f__law_whole = some ⟨oc__law_whole, od__law_whole, .func (PySem.W.fnOf "_law_whole" "_law_whole" (defArgs s__law_whole) (defBody s__law_whole) (defScope s__law_whole) .none kV__law_whole dc__law_whole pm__law_whole an__law_whole cd__law_whole ct__law_whole), sl__law_whole⟩) (c__law_whole : PySem.W.codeIn K cd__law_whole "_law_whole" = true) (k__law_whole : PySem.W.keepIn K (.ref f__law_whole) = true)
    (a__law_pattern : PySem.W.nsIn K mainGlobals "_law_pattern" = some (some (.ref f__law_pattern))) (l__law_pattern : K.lookup f__law_pattern = some ⟨oc__law_pattern, od__law_pattern, .func (PySem.W.fnOf "_law_pattern" "_law_pattern" (defArgs s__law_pattern) (defBody s__law_pattern) (defScope s__law_pattern) .none kV__law_pattern dc__law_pattern pm__law_pattern an__law_pattern cd__law_pattern ct__law_pattern), sl__law_pattern⟩) (c__law_pattern : PySem.W.codeIn K cd__law_pattern "_law_pattern" = true) (k__law_pattern : PySem.W.keepIn K (.ref f__law_pattern) = true)
    (a_grown : PySem.W.nsIn K mainGlobals "grown" = some (some (.ref f_grown))) (l_grown : K.lookup f_grown = some ⟨oc_grown, od_grown, .func (PySem.W.fnOf "grown" "grown" (defArgs s_grown) (defBody s_grown) (defScope s_grown) .none kV_grown dc_grown pm_grown an_grown cd_grown ct_grown), sl_grown⟩) (c_grown : PySem.W.codeIn K cd_grown "grown" = true) (k_grown : PySem.W.keepIn K (.ref f_grown) = true)
    (a__law_is_pattern : PySem.W.nsIn K mainGlobals "_law_is_pattern" = some (some (.ref f__law_is_pattern))) (l__law_is_pattern : K.lookup f__law_is_pattern = some ⟨oc__law_is_pattern, od__law_is_pattern, .func (PySem.W.fnOf "_law_is_pattern" "_law_is_pattern" (defArgs s__law_is_pattern) (defBody s__law_is_pattern) (defScope s__law_is_pattern) .none kV__law_is_pattern dc__law_is_pattern pm__law_is_pattern an__law_is_pattern cd__law_is_pattern ct__law_is_pattern), sl__law_is_pattern⟩) (c__law_is_pattern : PySem.W.codeIn K cd__law_is_pattern "_law_is_pattern" = true) (k__law_is_pattern : PySem.W.keepIn K (.ref f__law_is_pattern) = true)
    (a_shapes : PySem.W.nsIn K mainGlobals "shapes" = some (some (.ref f_shapes))) (l_shapes : K.lookup f_shapes = some ⟨oc_shapes, od_shapes, .func (PySem.W.fnOf "shapes" "shapes" (defArgs s_shapes) (defBody s_shapes) (defScope s_shapes) .none kV_shapes dc_shapes pm_shapes an_shapes cd_shapes ct_shapes), sl_shapes⟩) (c_shapes : PySem.W.codeIn K cd_shapes "shapes" = true) (k_shapes : PySem.W.keepIn K (.ref f_shapes) = true)
    (a_law : PySem.W.nsIn K mainGlobals "law" = some (some (.ref f_law))) (l_law : K.lookup f_law = some ⟨oc_law, od_law, .func (PySem.W.fnOf "law" "law" (defArgs s_law) (defBody s_law) (defScope s_law) .none kV_law dc_law pm_law an_law cd_law ct_law), sl_law⟩) (c_law : PySem.W.codeIn K cd_law "law" = true) (k_law : PySem.W.keepIn K (.ref f_law) = true)
    (z_bool : PySem.W.nsIn K mainGlobals "bool" = some none)
    (z_int : PySem.W.nsIn K mainGlobals "int" = some none)
    (z_isinstance : PySem.W.nsIn K mainGlobals "isinstance" = some none)
    (z_len : PySem.W.nsIn K mainGlobals "len" = some none)
    (z_list : PySem.W.nsIn K mainGlobals "list" = some none)
    (z_max : PySem.W.nsIn K mainGlobals "max" = some none)
    (z_range : PySem.W.nsIn K mainGlobals "range" = some none) :
    ∃ fd : FuncData, (∀ (s : Shared) (v : Value), BindsTo s fd ⟨[v], []⟩ [("script", v)]) ∧ ∀ base : Heap, K.In base → base.Ns mainGlobals mg → FnOk l.prog w K mg base CX0 4 fa fd ["script"] (DL.spLaw K) := by
  have e := hfa.symm.trans (PySem.W.mg_of X G a_law)
  cases e
  have F_width := fun_mk (st := s_width) l_width c_width k_width
  have F__law_cell := fun_mk (st := s__law_cell) l__law_cell c__law_cell k__law_cell
  have F__law_whole := fun_mk (st := s__law_whole) l__law_whole c__law_whole k__law_whole
  have F__law_pattern := fun_mk (st := s__law_pattern) l__law_pattern c__law_pattern k__law_pattern
  have F_grown := fun_mk (st := s_grown) l_grown c_grown k_grown
  have F__law_is_pattern := fun_mk (st := s__law_is_pattern) l__law_is_pattern c__law_is_pattern k__law_is_pattern
  have F_shapes := fun_mk (st := s_shapes) l_shapes c_shapes k_shapes
  have F_law := fun_mk (st := s_law) l_law c_law k_law
  let T : Txt K mg := {
    a_width := _, d_width := _, F_width := F_width, m_width := PySem.W.mg_of X G a_width, b_width := (F_width.binds (ps := ["pattern"]) fun _ _ _ _ _ _ us hl => match us, hl with | [_], _ => rfl),
    a__law_cell := _, d__law_cell := _, F__law_cell := F__law_cell, m__law_cell := PySem.W.mg_of X G a__law_cell, b__law_cell := (F__law_cell.binds (ps := ["script", "k"]) fun _ _ _ _ _ _ us hl => match us, hl with | [_, _], _ => rfl),
    a__law_whole := _, d__law_whole := _, F__law_whole := F__law_whole, m__law_whole := PySem.W.mg_of X G a__law_whole, b__law_whole := (F__law_whole.binds (ps := ["found"]) fun _ _ _ _ _ _ us hl => match us, hl with | [_], _ => rfl),
    a__law_pattern := _, d__law_pattern := _, F__law_pattern := F__law_pattern, m__law_pattern := PySem.W.mg_of X G a__law_pattern, b__law_pattern := (F__law_pattern.binds (ps := ["cells"]) fun _ _ _ _ _ _ us hl => match us, hl with | [_], _ => rfl),
    a_grown := _, d_grown := _, F_grown := F_grown, m_grown := PySem.W.mg_of X G a_grown, b_grown := (F_grown.binds (ps := ["pattern"]) fun _ _ _ _ _ _ us hl => match us, hl with | [_], _ => rfl),
    a__law_is_pattern := _, d__law_is_pattern := _, F__law_is_pattern := F__law_is_pattern, m__law_is_pattern := PySem.W.mg_of X G a__law_is_pattern, b__law_is_pattern := (F__law_is_pattern.binds (ps := ["found", "count"]) fun _ _ _ _ _ _ us hl => match us, hl with | [_, _], _ => rfl),
    a_shapes := _, d_shapes := _, F_shapes := F_shapes, m_shapes := PySem.W.mg_of X G a_shapes, b_shapes := (F_shapes.binds (ps := ["count"]) fun _ _ _ _ _ _ us hl => match us, hl with | [_], _ => rfl),
    a_law := _, d_law := _, F_law := F_law, m_law := PySem.W.mg_of X G a_law, b_law := (F_law.binds (ps := ["script"]) fun _ _ _ _ _ _ us hl => match us, hl with | [_], _ => rfl),
    z_bool := PySem.W.mg_none_of X G z_bool,
    z_int := PySem.W.mg_none_of X G z_int,
    z_isinstance := PySem.W.mg_none_of X G z_isinstance,
    z_len := PySem.W.mg_none_of X G z_len,
    z_list := PySem.W.mg_none_of X G z_list,
    z_max := PySem.W.mg_none_of X G z_max,
    z_range := PySem.W.mg_none_of X G z_range }
  exact ⟨PySem.W.fnOf "law" "law" (defArgs s_law) (defBody s_law) (defScope s_law) .none kV_law dc_law pm_law an_law cd_law ct_law, fun s v => .of_eq rfl, fun base _ _ => DL.law_end (ok_law T) hlaw⟩
end Lk12
namespace Fn
open PySem DL
def shape_3859_b1 : En → R Fl :=
  (sSeq (sIf (tst (bop (rd 3) (rd 1) (dIn true))) (sPut 1 (nop (aCons (rd 1) aNil) dLen) (rd 3)) sSkip)
  (sAppend 2 (bop (rd 1) (rd 3) dIxA)))
def shape_3859_g : En → R Fl :=
  (sSeq (sSetO 1 (cst (.dK [])))
  (sSeq (sSetO 2 (nop aNil mkLst))
  (sSeq (sFor (itr (rdE 0)) (gSet 3) shape_3859_b1)
  (sRetO (rdO 2)))))
def shape_3859 : Den := bodyN 1 4 shape_3859_g
end Fn
namespace Fn
open PySem DL
def law_at_cb3a_g : En → R Fl :=
  (sSeq (sIf (tst (bop (rd 1) (nop (aCons (rd 0) aNil) dLen) dLt)) (sRet (bop (rd 0) (rd 1) dIxA)) sSkip)
  (sRetO (cst (.int 0))))
def law_at_cb3a : Den := bodyN 2 2 law_at_cb3a_g
end Fn
namespace Fn
open PySem DL
def law_tie_581c_e1 : En → R D :=
  (rdE 5)
def law_tie_581c_t2 : En → R Bool :=
  (tst (bop (bop (bop (rd 3) (bop (nop (aCons (cst (.int 1)) (aCons (cst (.int 2)) (aCons (cst (.int 4)) (aCons (cst (.int 8)) (aCons (cst (.int 16)) (aCons (cst (.int 32)) aNil)))))) mkLst) (rd 5) dIxA) dDiv) (cst (.int 2)) dMod) (cst (.int 1)) (dEq false)))
def law_tie_581c_g : En → R Fl :=
  (sSeq (sSet 2 (bop (nop (aCons (cst (.str (Str.ofString "most"))) (aCons (cst (.str (Str.ofString "least"))) aNil)) mkLst) (bop (rd 0) (cst (.int 2)) dMod) dIxA))
  (sSeq (sSet 3 (bop (cst (.int 1)) (bop (bop (rd 0) (cst (.int 12)) dDiv) (bop (nop (aCons (cst (.int 1)) (aCons (cst (.int 3)) (aCons (cst (.int 7)) (aCons (cst (.int 15)) (aCons (cst (.int 31)) (aCons (cst (.int 63)) aNil)))))) mkLst) (bop (rd 1) (cst (.int 1)) dSub) dIxA) dMod) dAdd))
  (sSeq (sSet 4 (lcD [5] (irg (aCons (rd 1) aNil) rng1) (gSet 5) law_tie_581c_t2 law_tie_581c_e1))
  (sRetO (nop (aCons (rdE 2) (aCons (bop (cst (.int 1)) (bop (bop (rd 0) (cst (.int 2)) dDiv) (cst (.int 6)) dMod) dAdd) (aCons (nop (aCons (rd 4) aNil) dTuple) aNil))) mkTup)))))
def law_tie_581c : Den := bodyN 2 6 law_tie_581c_g
end Fn
namespace Fn
open PySem DL
def law_unlike_f766_e1 : En → R D :=
  (bop (rd 0) (rd 4) dIxA)
def law_unlike_f766_b2 : En → R Fl :=
  (sIf (tst (bop (bop (rd 0) (bop (rd 1) (rd 3) dIxA) dIxA) (lcD [4] (itr (slc (rd 1) pNone (pSome (uop (rdE 3) flatO)))) (gSet 4) tYesD law_unlike_f766_e1) (dIn true))) (sSet 2 (bop (rd 2) (cst (.int 1)) dAdd)) sSkip)
def law_unlike_f766_g : En → R Fl :=
  (sSeq (sSet 2 (cst (.int 0)))
  (sSeq (sFor (irg (aCons (nop (aCons (rd 1) aNil) dLen) aNil) rng1) (gSet 3) law_unlike_f766_b2)
  (sRet (rdE 2))))
def law_unlike_f766 : Den := bodyN 2 5 law_unlike_f766_g
end Fn
namespace Fn
open PySem DL
def law_badge_12dc_g : En → R Fl :=
  (sSeq (sIf (tst (bop (bop (rd 0) (cst (.int 4)) dMod) (cst (.int 0)) (dEq false))) (sRetO (bop (cst (.int 1)) (bop (bop (rd 0) (cst (.int 4)) dDiv) (bop (cst (.int 10)) (cst (.int 18)) dPow) dMod) dAdd)) sSkip)
  (sSeq (sIf (tst (bop (bop (rd 0) (cst (.int 4)) dMod) (cst (.int 1)) (dEq false))) (sRetO (bop (bop (cst (.int 10)) (cst (.int 18)) dPow) (bop (bop (rd 0) (cst (.int 4)) dDiv) (cst (.int 2)) dMod) dSub)) sSkip)
  (sRetO (bop (cst (.int 1)) (bop (bop (rd 0) (cst (.int 4)) dDiv) (cst (.int 3)) dMod) dAdd))))
def law_badge_12dc : Den := bodyN 1 1 law_badge_12dc_g
end Fn
namespace Fn
open PySem DL
def keeps_c500_e1 : En → R D :=
  (bop (rd 0) (rd 6) dIxA)
def keeps_c500_g : En → R Fl :=
  (sSeq (sUnp (rdE 1) (gSeqD 3 (gsCons (gSet 3) (gsCons (gSet 4) (gsCons (gSet 5) gsNil)))))
  (sSeq (sSet 2 (nop (aCons (lcD [6] (itr (rd 5)) (gSet 6) tYesD keeps_c500_e1) aNil) lenS))
  (sSeq (sIf (tst (bop (rd 3) (cst (.str (Str.ofString "most"))) (dEq false))) (sRetO (bop (rd 2) (rd 4) dLe)) sSkip)
  (sRetO (bop (rd 2) (rd 4) dGe)))))
def keeps_c500 : Den := bodyN 2 7 keeps_c500_g
end Fn
namespace Ti
open PySem DL
local macro_rules | `(tactic| walk_at "dl") => `(tactic| try simp -implicitDefEqProofs only [DL.sort_ints, DL.sum_ints, DL.in_ints, DL.idx_ok, DL.rev_lst, DL.ap_ins, DL.intB_bl, DL.intB_int, DL.itZipL_lst, DL.ap_nrmS, DL.nrm_nil, DL.nrm_cons, DL.nrm_rows, DL.nrm_lst, DL.isC_rows, DL.len_rows, DL.unR_rows, DL.unR_lst, DL.isi_rows, DL.eq_rows, DL.ap_rowM, DL.rowM_ok, DL.rowM2_ok, DL.rowM3_ok, DL.ap_row0, DL.ap_get2, DL.get2_ok, DL.row0_ok, DL.row02_ok, DL.ap_rowsApp, DL.ap_rowPut, DL.rowPut_ok, DL.rowPut2_ok, DL.ap_consL, DL.consL_ok, DL.mkRows_ap, DL.ap_lcR, DL.maxDef_ints, DL.ap_cnt, DL.cnt_ok, DL.ap_idx, DL.ap_txop, DL.tx_ok, DL.ap_jopS, DL.ap_lc, DL.ap_try, DL.try_ok, DL.try_err, DL.ap_tryAs, DL.tryAs_ok, DL.tryAs_err, DL.gone_next, DL.ap_raise, DL.ap_bodyD, DL.end_err, DL.itRev_lst, DL.itZip_lst, DL.itEnum_lst, DL.min_int, DL.max_int, DL.ap_seq, DL.seq_next, DL.seq_ret, DL.seq_brk, DL.seq_cont, DL.seq_err, DL.ap_skip, DL.ap_brk, DL.ap_cont, DL.ap_stl, DL.settle_nil, DL.settle_cons, DL.settle_t, DL.settle_f, DL.ap_if, DL.ite_t, DL.ite_f, DL.ap_set, DL.ap_setO, DL.set_ok, DL.setO_ok, DL.isC_lst, DL.isC_dK, DL.isC_dT, DL.isC_int, DL.isC_str, DL.isC_bl, DL.isC_non, DL.isC_tup, DL.ap_ret, DL.ap_retO, DL.ret_ok, DL.ap_ret0, DL.ap_unp, DL.unp_ok, DL.unp2_ok, DL.ap_drop, DL.ap_gset, DL.ap_gtup, DL.ap_glst, DL.ap_gnil, DL.ap_gcons, DL.ap_rd, DL.ap_rdE, DL.ap_rdO, DL.rd_ok, DL.rdE_ok, DL.rdO_ok, DL.rdO_f, DL.ap_cst, DL.ap_bop, DL.bd2_ok, DL.ap_uop, DL.ap_nop, DL.ap_anil, DL.ap_acons, DL.cons_ok, DL.add_int, DL.add_str, DL.add_lst, DL.sub_int, DL.rep_lst, DL.neg_int, DL.eq_int, DL.eq_str, DL.eq_bl, DL.eq_non_int, DL.eq_int_non, DL.lt_int, DL.le_int, DL.gt_int, DL.ge_int, DL.isN_ap, DL.isN_non, DL.isN_int, DL.isN_str, DL.isN_bl, DL.ap_rdL, DL.rdL_ok, DL.ap_rdF, DL.rdF_int, DL.is_bl, DL.isN_lst, DL.isN_tup, DL.asB_bl, DL.asI_int, DL.mkLst_ap, DL.mkTup_ap, DL.len_lst, DL.len_tup, DL.len_scr, DL.len_str, DL.len_dK, DL.list_lst, DL.list_tup, DL.list_scr, DL.tuple_lst, DL.flatO_int, DL.flatO_bl, DL.flatO_str, DL.flatO_non, DL.flatO_tup, DL.eNot_bl, DL.isi_int, DL.isi_bl, DL.isi_str, DL.isi_non, DL.isi_lst, DL.isi_tup, DL.isB_int_int, DL.isB_int_bl, DL.isB_int_str, DL.isB_int_non, DL.isB_int_lst, DL.isB_int_tup, DL.isB_bool_int, DL.isB_bool_bl, DL.isB_bool_str, DL.isB_bool_non, DL.isB_bool_lst, DL.isB_bool_tup, DL.isB_list_lst, DL.isB_list_int, DL.isB_list_tup, DL.isB_tuple_tup, DL.isB_tuple_lst, DL.isB_str_str, DL.isB_str_int, DL.ap_tst, DL.ap_bnot, DL.ap_band, DL.ap_bor, DL.and_t, DL.and_f, DL.or_t, DL.or_f, DL.ap_eand, DL.ap_eor, DL.eand_t, DL.eand_f, DL.eor_t, DL.eor_f, DL.ap_eif, DL.eif_t, DL.eif_f, DL.ap_chain, DL.chn0_ok, DL.chn_t, DL.chn_f, DL.ap_slc, DL.slc_ok, DL.ap_pnone, DL.ap_psome, DL.cut_lst, DL.cut_scr, DL.ap_for, DL.loop_ok, DL.ap_loop0, DL.ap_loop1, DL.lp1_ok, DL.lp2_next, DL.lp2_cont, DL.lp2_brk, DL.lp2_ret, DL.ap_itr, DL.ap_irg, DL.itD_lst, DL.itD_tup, DL.itD_scr, DL.itD_str, DL.rng1_ap, DL.rng2_ap, DL.wipe_nil, DL.wipe_cons, DL.ap_app, DL.ap_ext, DL.ap_own0, DL.own0_ok, DL.ap_put, DL.put_ok, DL.put2_ok, DL.end_ret, DL.end_next, DL.args_ap, DL.bd_ok, DL.bd_err, DL.bd_bad, DL.grd_t, DL.grd_f, DL.xorB_f, DL.xorB_t, List.map_cons, List.map_nil, List.length_cons, List.length_nil, List.length_map, List.length_append, List.length_range, List.cons_append, List.nil_append, List.append_nil, List.getElem?_cons_zero, List.getElem?_cons_succ, List.set_cons_zero, List.set_cons_succ, List.replicate_succ, List.replicate_zero, Nat.sub_zero, Nat.sub_self, Nat.add_one_sub_one, Nat.reduceAdd, Nat.reduceSub, Nat.zero_add, Option.bind_some, decide_true, decide_false, Bool.and_true, Bool.true_and, Bool.and_false, Bool.false_and, Bool.not_true, Bool.not_false, Bool.or_true, Bool.or_false, Bool.true_or, Bool.false_or, Bool.false_eq_true, ↓reduceIte, Int.reduceToNat, Int.reducePow, Int.reduceMul, Int.reduceAdd, Int.reduceSub, Int.reduceNeg, Int.reduceLT, Int.reduceLE, Nat.reducePow, Int.reduceMod, Int.reduceDiv, Int.reduceEq, Nat.reduceEqDiff, Int.natAbs_cast, DL.mod_pos, DL.div_pos, DL.dEq_ints, DL.dEq_scr, DL.dEq_scr_nil, DL.dEq_ints_nil, DL.ix_l0, DL.ix_t0, DL.ix_ls, DL.ix_ts, Nat.zero_le, Nat.reduceLeDiff, DL.small_of, DL.inR_small, DL.lt_size, DL.mul_small, DL.pow_ok, DL.app_ok, DL.ite_t])
/-! ### the script's cells -/
theorem at_eq (ns : List Int) (k : Nat) : ∃ o, Fn.law_at_cb3a [.scr ns, .int k] = .ok (o, .int (ns.getD k 0)) := by
  unfold Fn.law_at_cb3a; rw [DL.ap_body (by rfl)]; unfold Fn.law_at_cb3a_g
  walk_at "dl"
  by_cases h : (k : Int) < ns.length
  · rw [decide_eq_true h]
    walk_at "dl"
    rw [DL.ixA_scrD (by omega) h]
    walk_at "dl"
    exact ⟨_, rfl⟩
  · rw [decide_eq_false h]
    walk_at "dl"
    rw [List.getD_eq_getElem?_getD, List.getElem?_eq_none (by omega)]
    exact ⟨_, rfl⟩
theorem badge_eq (c : Int) : ∃ (o : Bool) (b : Int), Fn.law_badge_12dc [.int c] = .ok (o, .int b) ∧ 1 ≤ b ∧ b ≤ 1000000000000000000 := by
  unfold Fn.law_badge_12dc; rw [DL.ap_body (by rfl)]; unfold Fn.law_badge_12dc_g
  walk_at "dl"
  rw [DL.ite_ok]
  split
  · walk_at "dl"
    refine ⟨_, _, rfl, ?_⟩
    omega
  · walk_at "dl"
    rw [DL.ite_ok]
    split
    · walk_at "dl"
      refine ⟨_, _, rfl, ?_⟩
      omega
    · walk_at "dl"
      refine ⟨_, _, rfl, ?_⟩
      omega
/-! ### unlike ones -/
theorem uniq_snoc (l : List Int) (x : Int) : uniq (l ++ [x]) = if x ∈ l then uniq l else uniq l ++ [x] := by
  have h : uniq (l ++ [x]) = if x ∈ uniq l then uniq l else uniq l ++ [x] := by
    unfold uniq
    rw [List.foldl_append]
    rfl
  rw [h]
  by_cases hx : x ∈ l
  · rw [if_pos hx, if_pos (mem_uniq.mpr hx)]
  · rw [if_neg hx, if_neg (fun z => hx (mem_uniq.mp z))]
theorem uniq_len (l : List Int) : (uniq l).length ≤ l.length := by
  have h : ∀ n (l : List Int), l.length = n → (uniq l).length ≤ l.length := by
    intro n
    induction n with
    | zero => intro l hl; rw [List.eq_nil_of_length_eq_zero hl]; exact Nat.le_refl _
    | succ n ih =>
      intro l hl
      have hne : l ≠ [] := by rintro rfl; cases hl
      have e := List.dropLast_concat_getLast hne
      have := ih l.dropLast (by rw [List.length_dropLast]; omega)
      rw [← e, uniq_snoc]
      split
      · rw [List.length_append]; omega
      · rw [List.length_append, List.length_append]; simp only [List.length_singleton]; omega
  exact h _ l rfl
/-- the things at the steps -/
def vals (ts : List Int) (ks : List Nat) : List Int := ks.map fun k => ts.getD k 0
def kI (k : Nat) : D := .int (k : Int)
/-- a list's way, a tuple's way -/
structure Seq (σ : List D → D) : Prop where
  len : ∀ ds, dLen [σ ds] = .ok (.int ds.length)
  ix : ∀ ds i x, 0 ≤ i → ds[i.toNat]? = some x → dIxA (σ ds) (.int i) = .ok x
  cut : ∀ ds (k : Nat), k < ds.length → dCut (σ ds) none (some (k : Int)) = .ok (σ (ds.take k))
  it : ∀ ds, itD (σ ds) = .ok ds
theorem seq_lst : Seq D.lst := ⟨fun _ => rfl, fun _ _ _ h h' => ixA_lst h h', fun ds k hk => by
  show R.ok (D.lst (cutD ds none (some (k : Int)))) = _
  rw [cut_to (by omega)]; simp, fun _ => rfl⟩
theorem seq_tup : Seq D.tup := ⟨fun _ => rfl, fun _ _ _ h h' => ixA_tup h h', fun ds k hk => by
  show grd (!(decide (HT.sIx ds.length 0 none = 0) && decide (HT.sIx ds.length ds.length (some (k : Int)) = ds.length))) (R.ok (D.tup (cutD ds none (some (k : Int))))) = _
  rw [HT.sIx_nat, decide_eq_false (show ¬ min k ds.length = ds.length by omega), cut_to (by omega)]
  simp, fun _ => rfl⟩
theorem look (ts : List Int) (k : Nat) (h : k < ts.length) : dIxA (.lst (ts.map .int)) (.int (k : Int)) = .ok (.int (ts.getD k 0)) := by
  rw [ixA_ints (by omega) (by omega)]; rfl
theorem unlike_eq {σ : List D → D} (S : Seq σ) (ts : List Int) (ks : List Nat) (hk : ∀ k ∈ ks, k < ts.length) (hl : ks.length ≤ 1000) : ∃ o, Fn.law_unlike_f766 [.lst (ts.map .int), σ (ks.map kI)] = .ok (o, .int (uniq (vals ts ks)).length) := by
  unfold Fn.law_unlike_f766; rw [DL.ap_body (by rfl)]; unfold Fn.law_unlike_f766_g
  walk_at "dl"
  rw [S.len]
  walk_at "dl"
  rw [inR_small (by omega) (by omega)]
  walk_at "dl"
  obtain ⟨ρ', h1, z, h2⟩ := DL.loop_at (g := gSet 3) (gb := Fn.law_unlike_f766_b2) (fun (i : Nat) => D.int (0 + (i : Int))) (List.range (ks.length : Int).toNat)
    (fun i ρ => ∃ z, ρ = [some (false, .lst (ts.map .int)), some (false, σ (ks.map kI)), some (false, .int (uniq (vals ts (ks.take i))).length), z, none]) _ ⟨none, rfl⟩ (fun i a ρ ha ⟨z, hρ⟩ => by
      subst hρ
      have hi := DL.at_lt ha
      rw [List.length_range] at hi
      rw [List.getElem?_range hi] at ha
      cases ha
      have hi' : i < ks.length := by omega
      refine ⟨_, rfl, ?_⟩
      unfold Fn.law_unlike_f766_b2
      rw [Int.zero_add]
      have e1 : dIxA (σ (ks.map kI)) (.int (i : Int)) = .ok (.int (ks[i] : Nat)) := S.ix _ _ _ (by omega) (by rw [Int.toNat_natCast, List.getElem?_map, List.getElem?_eq_getElem hi']; rfl)
      walk_at "dl"
      rw [e1]
      walk_at "dl"
      rw [look ts _ (hk _ (List.getElem_mem hi')), S.cut _ i (by rw [List.length_map]; exact hi')]
      walk_at "dl"
      rw [S.it]
      rw [DL.lc_is (zs := (vals ts (ks.take i)).map .int) (by rw [List.length_take, List.length_map]; omega) (by
        walk_at "dl"
        rw [← List.map_take]
        unfold vals
        rw [List.map_map]
        have := DL.lc_map (g := gSet 4) (t := tYesD) (f := Fn.law_unlike_f766_e1) (ρ := [some (false, .lst (ts.map .int)), some (false, σ (ks.map kI)), some (false, .int (uniq (vals ts (ks.take i))).length), some (false, .int (i : Int)), none])
          (fun d => match d with | .int k => .int (ts.getD k.toNat 0) | d => d) ((ks.take i).map kI) (fun d hd => by
            obtain ⟨k, hk2, rfl⟩ := List.mem_map.mp hd
            refine DL.lcS_all rfl ?_
            unfold Fn.law_unlike_f766_e1 kI
            walk_at "dl"
            rw [look ts k (hk k (List.mem_of_mem_take hk2))]
            rfl)
        rw [List.map_map] at this
        exact this)]
      walk_at "dl"
      have e2 : vals ts (ks.take (i + 1)) = vals ts (ks.take i) ++ [ts.getD ks[i] 0] := by
        unfold vals; rw [List.take_succ_eq_append_getElem hi', List.map_append]; rfl
      have e3 := uniq_snoc (vals ts (ks.take i)) (ts.getD ks[i] 0)
      have e4 := uniq_len (vals ts (ks.take i))
      have e5 : (vals ts (ks.take i)).length ≤ 1000 := by unfold vals; rw [List.length_map, List.length_take]; omega
      rw [e2, e3]
      by_cases hm : ts.getD ks[i] 0 ∈ vals ts (ks.take i)
      · rw [decide_eq_true hm, if_pos hm]
        walk_at "dl"
        exact ⟨_, rfl, _, rfl⟩
      · rw [decide_eq_false hm, if_neg hm]
        walk_at "dl"
        refine ⟨_, rfl, some (false, .int (i : Int)), ?_⟩
        rw [Int.natCast_add]
        rfl)
  rw [List.length_range] at h2
  rw [Int.toNat_natCast] at h2
  rw [show List.take 0 ks = [] from rfl, show uniq (vals ts []) = [] from rfl] at h1
  erw [h1]
  walk_at "dl"
  have e6 : ks.take (ks.length) = ks := List.take_length
  rw [h2, e6]
  walk_at "dl"
  exact ⟨_, rfl⟩
/-! ### the tie drawn -/
theorem lc_filter {α : Type} {g : D → En → Option En} {t : En → R Bool} {f : En → R D} {ρ : En} (F : α → D) (p : α → Bool) : ∀ (xs : List α), (∀ a ∈ xs, lcStep g t f ρ (F a) = .ok (if p a = true then some (F a) else none)) → lcGo g t f ρ (xs.map F) = .ok ((xs.filter p).map F)
  | [], _ => rfl
  | a :: xs, h => by
    have ih := lc_filter F p xs fun b hb => h b (List.mem_cons_of_mem _ hb)
    rw [List.map_cons]
    unfold lcGo
    rw [h a List.mem_cons_self, ih]
    cases hp : p a with
    | true => rw [List.filter_cons_of_pos hp]; rfl
    | false => rw [List.filter_cons_of_neg (by rw [hp]; exact Bool.false_ne_true)]; rfl
theorem lc_fmap {α : Type} {g : D → En → Option En} {t : En → R Bool} {f : En → R D} {ρ : En} (F G : α → D) (p : α → Bool) : ∀ (xs : List α), (∀ a ∈ xs, lcStep g t f ρ (F a) = .ok (if p a = true then some (G a) else none)) → lcGo g t f ρ (xs.map F) = .ok ((xs.filter p).map G)
  | [], _ => rfl
  | a :: xs, h => by
    have ih := lc_fmap F G p xs fun b hb => h b (List.mem_cons_of_mem _ hb)
    rw [List.map_cons]
    unfold lcGo
    rw [h a List.mem_cons_self, ih]
    cases hp : p a with
    | true => rw [List.filter_cons_of_pos hp]; rfl
    | false => rw [List.filter_cons_of_neg (by rw [hp]; exact Bool.false_ne_true)]; rfl
/-- one turn of a comprehension with a test -/
theorem lc_one {g : D → En → Option En} {t : En → R Bool} {f : En → R D} {ρ ρ1 : En} {d z : D} {b : Bool} (hg : g d ρ = some ρ1) (ht : t ρ1 = .ok b) (hf : b = true → f ρ1 = .ok z) : lcStep g t f ρ d = .ok (if b = true then some z else none) := by
  cases b with
  | true => exact DL.lcS_t hg ht (hf rfl)
  | false => exact DL.lcS_f hg ht
def most : Str := Str.ofString "most"
def least : Str := Str.ofString "least"
theorem tie_eq (c m : Int) (h1 : 1 ≤ m) (h6 : m ≤ 6) : ∃ (o : Bool) (w : Str) (p : Nat → Bool), Fn.law_tie_581c [.int c, .int m] = .ok (o, .tup [.str w, .int (1 + c / 2 % 6), .tup (((List.range m.toNat).filter p).map kI)]) ∧ (w = most ∨ w = least) := by
  unfold Fn.law_tie_581c; rw [DL.ap_body (by rfl)]; unfold Fn.law_tie_581c_g
  walk_at "dl"
  have hw : ∃ w, dIxA (D.lst [D.str (Str.ofString "most"), D.str (Str.ofString "least")]) (D.int (c % 2)) = .ok (.str w) ∧ (w = most ∨ w = least) := by
    rcases (by omega : c % 2 = 0 ∨ c % 2 = 1) with h | h <;> rw [h]
    · exact ⟨most, rfl, .inl rfl⟩
    · exact ⟨least, rfl, .inr rfl⟩
  obtain ⟨w, hw, hw2⟩ := hw
  rw [hw]
  walk_at "dl"
  have hb : ∃ b : Int, 0 < b ∧ dIxA (D.lst [.int 1, .int 3, .int 7, .int 15, .int 31, .int 63]) (.int (m - 1)) = .ok (.int b) := by
    rcases (by omega : m = 1 ∨ m = 2 ∨ m = 3 ∨ m = 4 ∨ m = 5 ∨ m = 6) with h | h | h | h | h | h <;> subst h
    · exact ⟨1, by omega, rfl⟩
    · exact ⟨3, by omega, rfl⟩
    · exact ⟨7, by omega, rfl⟩
    · exact ⟨15, by omega, rfl⟩
    · exact ⟨31, by omega, rfl⟩
    · exact ⟨63, by omega, rfl⟩
  obtain ⟨b, hb, hb2⟩ := hb
  rw [hb2]
  walk_at "dl"
  rw [DL.mod_pos hb]
  walk_at "dl"
  generalize c / 12 % b = M
  rw [inR_small (by omega) (by omega)]
  walk_at "dl"
  have hL : ∀ k : Nat, k < m.toNat → ∃ q : Int, 0 < q ∧ q < 2 ^ 200 ∧ dIxA (D.lst [.int 1, .int 2, .int 4, .int 8, .int 16, .int 32]) (.int (k : Int)) = .ok (.int q) := by
    intro k hk
    rcases (by omega : k = 0 ∨ k = 1 ∨ k = 2 ∨ k = 3 ∨ k = 4 ∨ k = 5) with h | h | h | h | h | h <;> subst h
    · exact ⟨1, by omega, by omega, rfl⟩
    · exact ⟨2, by omega, by omega, rfl⟩
    · exact ⟨4, by omega, by omega, rfl⟩
    · exact ⟨8, by omega, by omega, rfl⟩
    · exact ⟨16, by omega, by omega, rfl⟩
    · exact ⟨32, by omega, by omega, rfl⟩
  let p : Nat → Bool := fun k => match dIxA (D.lst [D.int 1, D.int 2, D.int 4, D.int 8, D.int 16, D.int 32]) (D.int (k : Int)) with | .ok (.int q) => decide ((1 + M) / q % 2 = 1) | _ => false
  have hz : (fun (i : Nat) => D.int (0 + (i : Int))) = kI := by funext i; unfold kI; rw [Int.zero_add]
  rw [hz]
  rw [DL.lc_is (zs := ((List.range m.toNat).filter p).map kI) (by rw [List.length_map, List.length_range]; omega) (by
    refine lc_filter kI p _ fun k hk => ?_
    obtain ⟨q, hq, hq2, hq3⟩ := hL k (List.mem_range.mp hk)
    have hp : p k = decide ((1 + M) / q % 2 = 1) := by show (match dIxA _ _ with | .ok (.int q) => _ | _ => _) = _; rw [hq3]
    have ht : Fn.law_tie_581c_t2 [some (false, D.int c), some (false, D.int m), some (false, D.str w), some (false, D.int (1 + M)), none, some (false, kI k)] = .ok (p k) := by
      unfold Fn.law_tie_581c_t2 kI
      walk_at "dl"
      rw [hq3]
      walk_at "dl"
      rw [DL.div_pos hq hq2]
      walk_at "dl"
      rw [hp]
    cases h : p k with
    | true =>
      rw [h] at ht
      exact DL.lcS_t rfl ht rfl
    | false =>
      rw [h] at ht
      exact DL.lcS_f rfl ht)]
  walk_at "dl"
  exact ⟨_, w, p, rfl, hw2⟩
/-! ### keeps -/
def keepsB (hs : List Int) (w : Str) (l : Int) (ks : List Nat) : Bool := if w = most then decide (((uniq (vals hs ks)).length : Int) ≤ l) else decide (l ≤ ((uniq (vals hs ks)).length : Int))
theorem keeps_eq (hs : List Int) (w : Str) (l : Int) (ks : List Nat) (hk : ∀ k ∈ ks, k < hs.length) (hl : ks.length ≤ 1000) : ∃ o, Fn.keeps_c500 [.lst (hs.map .int), .tup [.str w, .int l, .tup (ks.map kI)]] = .ok (o, .bl (keepsB hs w l ks)) := by
  unfold Fn.keeps_c500; rw [DL.ap_body (by rfl)]; unfold Fn.keeps_c500_g
  walk_at "dl"
  rw [DL.lc_is (zs := (vals hs ks).map .int) (by rw [List.length_map]; omega) (by
    rw [show (vals hs ks).map D.int = (ks.map kI).map (fun d => match d with | .int k => .int (hs.getD k.toNat 0) | d => d) by unfold vals; rw [List.map_map, List.map_map]; rfl]
    refine DL.lc_map _ _ fun d hd => ?_
    obtain ⟨k, hk2, rfl⟩ := List.mem_map.mp hd
    refine DL.lcS_all rfl ?_
    unfold Fn.keeps_c500_e1 kI
    walk_at "dl"
    rw [look hs k (hk k hk2)]
    rfl)]
  walk_at "dl"
  rw [DL.lenS_ints (by unfold vals; rw [List.length_map]; omega)]
  walk_at "dl"
  unfold keepsB
  by_cases h : w = most
  · rw [decide_eq_true (show w = Str.ofString "most" from h), if_pos h]
    walk_at "dl"
    exact ⟨_, rfl⟩
  · rw [decide_eq_false (show ¬ w = Str.ofString "most" from h), if_neg h]
    walk_at "dl"
    exact ⟨_, rfl⟩
theorem at_eqI (ns : List Int) (k : Int) (h : 0 ≤ k) : ∃ o, Fn.law_at_cb3a [.scr ns, .int k] = .ok (o, .int (ns.getD k.toNat 0)) := by
  obtain ⟨n, rfl⟩ := Int.eq_ofNat_of_zero_le h
  exact at_eq ns n
theorem lc_ex {α β : Type} {g : D → En → Option En} {t : En → R Bool} {f : En → R D} {ρ : En} (F : α → D) (G : β → D) (P : β → Prop) : ∀ (xs : List α), (∀ a ∈ xs, ∃ b, lcStep g t f ρ (F a) = .ok (some (G b)) ∧ P b) → ∃ bs : List β, bs.length = xs.length ∧ lcGo g t f ρ (xs.map F) = .ok (bs.map G) ∧ ∀ b ∈ bs, P b
  | [], _ => ⟨[], rfl, rfl, fun _ h => nomatch h⟩
  | a :: xs, h => by
    obtain ⟨b, h1, h2⟩ := h a List.mem_cons_self
    obtain ⟨bs, h3, h4, h5⟩ := lc_ex F G P xs fun b hb => h b (List.mem_cons_of_mem _ hb)
    refine ⟨b :: bs, by rw [List.length_cons, List.length_cons, h3], ?_, ?_⟩
    · rw [List.map_cons]
      unfold lcGo
      rw [h1, h4]; rfl
    · intro z hz
      rcases List.mem_cons.mp hz with rfl | hz
      · exact h2
      · exact h5 z hz
theorem tie_at (p : Nat → Bool) {m : Int} {n : Nat} (hn : m.toNat ≤ n) : ∀ k ∈ (List.range m.toNat).filter p, k < n := fun k hk => by
  have := List.mem_range.mp (List.mem_filter.mp hk).1
  omega
theorem tie_len (p : Nat → Bool) {m : Int} (h : m ≤ 6) : ((List.range m.toNat).filter p).length ≤ 6 := by
  have := List.length_filter_le p (List.range m.toNat)
  rw [List.length_range] at this
  omega
/-- a while over the script's cells -/
theorem at_loop {t : En → R Bool} {gb : En → R Fl} (s : Int) (L : Nat) (I : Nat → En → Prop) (ht : ∀ n ρ, I n ρ → t ρ = .ok (if (n : Int) = s then true else decide ((n : Int) < L))) (hs : ∀ n ρ, I n ρ → ∃ n' ρ', n < n' ∧ gb ρ = .ok (.next ρ') ∧ I n' ρ') : ∀ (k n : Nat) (ρ : En), I n ρ → s.toNat + L + 2 - n < k → ∃ n' ρ', I n' ρ' ∧ whileD t gb k ρ = .ok (.next ρ')
  | 0, _, _, _, h => absurd h (Nat.not_lt_zero _)
  | k + 1, n, ρ, h0, h => by
    unfold whileD
    rw [ht n ρ h0, DL.bd_ok]
    by_cases hc : (n : Int) = s ∨ (n : Int) < L
    · obtain ⟨n', ρ', h1, h2, h3⟩ := hs n ρ h0
      have e : (if (n : Int) = s then true else decide ((n : Int) < L)) = true := by
        split
        · rfl
        · exact decide_eq_true (hc.resolve_left ‹_›)
      rw [e, if_pos rfl, h2]
      exact at_loop s L I ht hs k n' ρ' h3 (by omega)
    · have e : (if (n : Int) = s then true else decide ((n : Int) < L)) = false := by
        rw [if_neg fun e => hc (.inl e)]
        exact decide_eq_false fun e => hc (.inr e)
      rw [e, if_neg Bool.false_ne_true]
      exact ⟨n, ρ, h0, rfl⟩
end Ti
namespace Di
open PySem DL PySem.Spec L2
abbrev Ky := Int ⊕ Str
/-! dicts whose keys are whole numbers -/
def dKI (kvs : List (Int × D)) : D := .dK (kvs.map fun kv => (Sum.inl kv.1, kv.2))
theorem dKI_nil : D.dK [] = dKI [] := rfl
theorem any_inl (q : Int) : ∀ kvs : List (Int × D), ((kvs.map fun kv => ((Sum.inl kv.1 : Ky), kv.2)).any fun kv => decide (kv.1 = Sum.inl q)) = kvs.any fun kv => decide (kv.1 = q)
  | [] => rfl
  | kv :: kvs => by
    rw [List.map_cons, List.any_cons, List.any_cons, any_inl q kvs]
    congr 1
    rw [decide_eq_decide]
    exact ⟨fun h => Sum.inl.inj h, fun h => congrArg _ h⟩
theorem putD_inl (q : Int) (v : D) (kvs : List (Int × D)) : putD (kvs.map fun kv => ((Sum.inl kv.1 : Ky), kv.2)) (Sum.inl q) v = (putD kvs q v).map fun kv => (Sum.inl kv.1, kv.2) := by
  unfold putD
  rw [any_inl]
  split
  · rw [List.map_map, List.map_map]
    refine List.map_congr_left fun kv _ => ?_
    show (if (Sum.inl kv.1 : Ky) = Sum.inl q then _ else _) = _
    by_cases h : kv.1 = q
    · rw [if_pos (congrArg _ h)]
      show _ = (Sum.inl (if kv.1 = q then (kv.1, v) else kv).1, (if kv.1 = q then (kv.1, v) else kv).2)
      rw [if_pos h]
    · rw [if_neg fun z => h (Sum.inl.inj z)]
      show _ = (Sum.inl (if kv.1 = q then (kv.1, v) else kv).1, (if kv.1 = q then (kv.1, v) else kv).2)
      rw [if_neg h]
  · rw [List.map_append]; rfl
theorem lkD_inl (q : Int) : ∀ (kvs : List (Int × D)), lkD (kvs.map fun kv => ((Sum.inl kv.1 : Ky), kv.2)) (Sum.inl q) = lkD kvs q
  | [] => rfl
  | kv :: kvs => by
    have ih := lkD_inl q kvs
    unfold lkD at ih ⊢
    rw [List.map_cons]
    by_cases h : kv.1 = q
    · rw [List.find?_cons_of_pos (by simp only [h, decide_true]), List.find?_cons_of_pos (by simp only [h, decide_true])]; rfl
    · rw [List.find?_cons_of_neg (by simpa using h), List.find?_cons_of_neg (by simpa using h), ih]
theorem put_ki {kvs : List (Int × D)} {q : Int} {v : D} (h : kvs.length ≤ 1000000) : putA (dKI kvs) (.int q) v = .ok (dKI (putD kvs q v)) := by
  show grd (decide ((kvs.map _).length < sizeLine)) _ = _
  rw [List.length_map, DL.lt_size h]
  show R.ok (D.dK (putD (kvs.map fun kv => ((Sum.inl kv.1 : Ky), kv.2)) (Sum.inl q) v)) = _
  rw [putD_inl]
  rfl
theorem get_ki (kvs : List (Int × D)) (q : Int) : dGet? (dKI kvs) (.int q) = some (lkD kvs q) := by
  rw [← lkD_inl]; rfl
theorem ix_ki {kvs : List (Int × D)} {q : Int} {z : D} (h : lkD kvs q = some z) : dIxA (dKI kvs) (.int q) = .ok z := by
  unfold dIxA; rw [get_ki, h]
theorem in_ki {neg : Bool} {kvs : List (Int × D)} {q : Int} : dIn neg (.int q) (dKI kvs) = .ok (.bl (xorB neg (lkD kvs q).isSome)) := by
  show (match dGet? (dKI kvs) (.int q) with | some o => R.ok (D.bl (xorB neg o.isSome)) | none => R.bad) = _
  rw [get_ki]
theorem len_ki {kvs : List (Int × D)} : dLen [dKI kvs] = .ok (.int kvs.length) := by
  show R.ok (D.int ((kvs.map _).length : Nat)) = _
  rw [List.length_map]
theorem isC_ki {kvs : List (Int × D)} : isC (dKI kvs) = true := rfl
/-! the plain law of such a dict -/
def keys (kvs : List (Int × D)) : List Int := kvs.map (·.1)
theorem lk_some {q : Int} : ∀ {kvs : List (Int × D)}, (lkD kvs q).isSome = decide (q ∈ keys kvs)
  | [] => rfl
  | kv :: kvs => by
    have ih := lk_some (q := q) (kvs := kvs)
    unfold lkD at ih ⊢
    unfold keys at ih ⊢
    by_cases h : kv.1 = q
    · rw [List.find?_cons_of_pos (by simp only [h, decide_true]), decide_eq_true (by rw [List.map_cons, h]; exact List.mem_cons_self)]; rfl
    · rw [List.find?_cons_of_neg (by simpa using h), ih, decide_eq_decide, List.map_cons, List.mem_cons]
      exact ⟨.inr, fun z => z.resolve_left fun e => h e.symm⟩
theorem lk_in {kvs : List (Int × D)} {q : Int} : (lkD kvs q).isSome = true ↔ q ∈ keys kvs := by rw [lk_some, decide_eq_true_iff]
theorem keys_put (kvs : List (Int × D)) (q : Int) (v : D) : keys (putD kvs q v) = if q ∈ keys kvs then keys kvs else keys kvs ++ [q] := by
  unfold putD
  have e : (kvs.any fun kv => decide (kv.1 = q)) = decide (q ∈ keys kvs) := by
    rw [← Bool.decide_coe (kvs.any _), decide_eq_decide, List.any_eq_true]
    unfold keys
    simp only [List.mem_map, decide_eq_true_eq]
  rw [e]
  by_cases h : q ∈ keys kvs
  · rw [if_pos (decide_eq_true h), if_pos h]
    unfold keys
    rw [List.map_map]
    refine List.map_congr_left fun kv _ => ?_
    show (if kv.1 = q then (kv.1, v) else kv).1 = kv.1
    split <;> rfl
  · rw [if_neg (by rw [decide_eq_false h]; exact Bool.false_ne_true), if_neg h]
    unfold keys
    rw [List.map_append]; rfl
theorem lk_map (q r : Int) (v : D) : ∀ kvs : List (Int × D), lkD (kvs.map fun kv => if kv.1 = q then (kv.1, v) else kv) r = if r = q then (lkD kvs r).map fun _ => v else lkD kvs r
  | [] => by split <;> rfl
  | kv :: kvs => by
    have ih := lk_map q r v kvs
    unfold lkD at ih ⊢
    rw [List.map_cons]
    by_cases h : kv.1 = r
    · rw [List.find?_cons_of_pos (by show decide ((if kv.1 = q then (kv.1, v) else kv).1 = r) = true; split <;> simp only [h, decide_true]), List.find?_cons_of_pos (by simp only [h, decide_true])]
      subst h
      by_cases e : kv.1 = q
      · rw [if_pos e, if_pos e]; rfl
      · rw [if_neg e, if_neg e]
    · rw [List.find?_cons_of_neg (by show ¬ decide ((if kv.1 = q then (kv.1, v) else kv).1 = r) = true; split <;> simpa using h), List.find?_cons_of_neg (by simpa using h), ih]
theorem lk_app (q r : Int) (v : D) : ∀ kvs : List (Int × D), lkD (kvs ++ [(q, v)]) r = if (lkD kvs r).isSome then lkD kvs r else if r = q then some v else none
  | [] => by
    unfold lkD
    rw [List.nil_append]
    by_cases h : q = r
    · rw [List.find?_cons_of_pos (by simp only [h, decide_true])]; rw [if_pos h.symm]; rfl
    · rw [List.find?_cons_of_neg (by simpa using h)]
      show (none : Option D) = if r = q then some v else none
      rw [if_neg fun z => h z.symm]
  | kv :: kvs => by
    have ih := lk_app q r v kvs
    unfold lkD at ih ⊢
    rw [List.cons_append]
    by_cases h : kv.1 = r
    · rw [List.find?_cons_of_pos (by simp only [h, decide_true]), List.find?_cons_of_pos (by simp only [h, decide_true])]; rfl
    · rw [List.find?_cons_of_neg (by simpa using h), List.find?_cons_of_neg (by simpa using h), ih]
theorem lk_put (kvs : List (Int × D)) (q r : Int) (v : D) : lkD (putD kvs q v) r = if r = q then some v else lkD kvs r := by
  have e : (kvs.any fun kv => decide (kv.1 = q)) = decide (q ∈ keys kvs) := by
    rw [← Bool.decide_coe (kvs.any _), decide_eq_decide, List.any_eq_true]
    unfold keys
    simp only [List.mem_map, decide_eq_true_eq]
  unfold putD
  rw [e]
  by_cases h : q ∈ keys kvs
  · rw [if_pos (decide_eq_true h), lk_map]
    by_cases hr : r = q
    · rw [if_pos hr, if_pos hr]
      have := lk_in.mpr (hr ▸ h : r ∈ keys kvs)
      cases hl : lkD kvs r with
      | none => rw [hl] at this; cases this
      | some _ => rfl
    · rw [if_neg hr, if_neg hr]
  · rw [if_neg (by rw [decide_eq_false h]; exact Bool.false_ne_true), lk_app]
    by_cases hr : r = q
    · rw [if_neg (fun z => h (hr ▸ lk_in.mp z)), if_pos hr, if_pos hr]
    · rw [if_neg hr, if_neg hr]
      cases hl : lkD kvs r <;> rfl
end Di
namespace Sh
open PySem DL Ti Di
local macro_rules | `(tactic| walk_at "dl") => `(tactic| try simp -implicitDefEqProofs only [DL.sort_ints, DL.sum_ints, DL.in_ints, DL.idx_ok, DL.rev_lst, DL.ap_ins, DL.intB_bl, DL.intB_int, DL.itZipL_lst, DL.ap_nrmS, DL.nrm_nil, DL.nrm_cons, DL.nrm_rows, DL.nrm_lst, DL.isC_rows, DL.len_rows, DL.unR_rows, DL.unR_lst, DL.isi_rows, DL.eq_rows, DL.ap_rowM, DL.rowM_ok, DL.rowM2_ok, DL.rowM3_ok, DL.ap_row0, DL.ap_get2, DL.get2_ok, DL.row0_ok, DL.row02_ok, DL.ap_rowsApp, DL.ap_rowPut, DL.rowPut_ok, DL.rowPut2_ok, DL.ap_consL, DL.consL_ok, DL.mkRows_ap, DL.ap_lcR, DL.maxDef_ints, DL.ap_cnt, DL.cnt_ok, DL.ap_idx, DL.ap_txop, DL.tx_ok, DL.ap_jopS, DL.ap_lc, DL.ap_try, DL.try_ok, DL.try_err, DL.ap_tryAs, DL.tryAs_ok, DL.tryAs_err, DL.gone_next, DL.ap_raise, DL.ap_bodyD, DL.end_err, DL.itRev_lst, DL.itZip_lst, DL.itEnum_lst, DL.min_int, DL.max_int, DL.ap_seq, DL.seq_next, DL.seq_ret, DL.seq_brk, DL.seq_cont, DL.seq_err, DL.ap_skip, DL.ap_brk, DL.ap_cont, DL.ap_stl, DL.settle_nil, DL.settle_cons, DL.settle_t, DL.settle_f, DL.ap_if, DL.ite_t, DL.ite_f, DL.ap_set, DL.ap_setO, DL.set_ok, DL.setO_ok, DL.isC_lst, DL.isC_dK, DL.isC_dT, DL.isC_int, DL.isC_str, DL.isC_bl, DL.isC_non, DL.isC_tup, DL.ap_ret, DL.ap_retO, DL.ret_ok, DL.ap_ret0, DL.ap_unp, DL.unp_ok, DL.unp2_ok, DL.ap_drop, DL.ap_gset, DL.ap_gtup, DL.ap_glst, DL.ap_gnil, DL.ap_gcons, DL.ap_rd, DL.ap_rdE, DL.ap_rdO, DL.rd_ok, DL.rdE_ok, DL.rdO_ok, DL.rdO_f, DL.ap_cst, DL.ap_bop, DL.bd2_ok, DL.ap_uop, DL.ap_nop, DL.ap_anil, DL.ap_acons, DL.cons_ok, DL.add_int, DL.add_str, DL.add_lst, DL.sub_int, DL.rep_lst, DL.neg_int, DL.eq_int, DL.eq_str, DL.eq_bl, DL.eq_non_int, DL.eq_int_non, DL.lt_int, DL.le_int, DL.gt_int, DL.ge_int, DL.isN_ap, DL.isN_non, DL.isN_int, DL.isN_str, DL.isN_bl, DL.ap_rdL, DL.rdL_ok, DL.ap_rdF, DL.rdF_int, DL.is_bl, DL.isN_lst, DL.isN_tup, DL.asB_bl, DL.asI_int, DL.mkLst_ap, DL.mkTup_ap, DL.len_lst, DL.len_tup, DL.len_scr, DL.len_str, DL.len_dK, DL.list_lst, DL.list_tup, DL.list_scr, DL.tuple_lst, DL.flatO_int, DL.flatO_bl, DL.flatO_str, DL.flatO_non, DL.flatO_tup, DL.eNot_bl, DL.isi_int, DL.isi_bl, DL.isi_str, DL.isi_non, DL.isi_lst, DL.isi_tup, DL.isB_int_int, DL.isB_int_bl, DL.isB_int_str, DL.isB_int_non, DL.isB_int_lst, DL.isB_int_tup, DL.isB_bool_int, DL.isB_bool_bl, DL.isB_bool_str, DL.isB_bool_non, DL.isB_bool_lst, DL.isB_bool_tup, DL.isB_list_lst, DL.isB_list_int, DL.isB_list_tup, DL.isB_tuple_tup, DL.isB_tuple_lst, DL.isB_str_str, DL.isB_str_int, DL.ap_tst, DL.ap_bnot, DL.ap_band, DL.ap_bor, DL.and_t, DL.and_f, DL.or_t, DL.or_f, DL.ap_eand, DL.ap_eor, DL.eand_t, DL.eand_f, DL.eor_t, DL.eor_f, DL.ap_eif, DL.eif_t, DL.eif_f, DL.ap_chain, DL.chn0_ok, DL.chn_t, DL.chn_f, DL.ap_slc, DL.slc_ok, DL.ap_pnone, DL.ap_psome, DL.cut_lst, DL.cut_scr, DL.ap_for, DL.loop_ok, DL.ap_loop0, DL.ap_loop1, DL.lp1_ok, DL.lp2_next, DL.lp2_cont, DL.lp2_brk, DL.lp2_ret, DL.ap_itr, DL.ap_irg, DL.itD_lst, DL.itD_tup, DL.itD_scr, DL.itD_str, DL.rng1_ap, DL.rng2_ap, DL.wipe_nil, DL.wipe_cons, DL.ap_app, DL.ap_ext, DL.ap_own0, DL.own0_ok, DL.ap_put, DL.put_ok, DL.put2_ok, DL.end_ret, DL.end_next, DL.args_ap, DL.bd_ok, DL.bd_err, DL.bd_bad, DL.grd_t, DL.grd_f, DL.xorB_f, DL.xorB_t, List.map_cons, List.map_nil, List.length_cons, List.length_nil, List.length_map, List.length_append, List.length_range, List.cons_append, List.nil_append, List.append_nil, List.getElem?_cons_zero, List.getElem?_cons_succ, List.set_cons_zero, List.set_cons_succ, List.replicate_succ, List.replicate_zero, Nat.sub_zero, Nat.sub_self, Nat.add_one_sub_one, Nat.reduceAdd, Nat.reduceSub, Nat.zero_add, Option.bind_some, decide_true, decide_false, Bool.and_true, Bool.true_and, Bool.and_false, Bool.false_and, Bool.not_true, Bool.not_false, Bool.or_true, Bool.or_false, Bool.true_or, Bool.false_or, Bool.false_eq_true, ↓reduceIte, Int.reduceToNat, Int.reducePow, Int.reduceMul, Int.reduceAdd, Int.reduceSub, Int.reduceNeg, Int.reduceLT, Int.reduceLE, Nat.reducePow, Int.reduceMod, Int.reduceDiv, Int.reduceEq, Nat.reduceEqDiff, Int.natAbs_cast, DL.mod_pos, DL.div_pos, DL.dEq_ints, DL.dEq_scr, DL.dEq_scr_nil, DL.dEq_ints_nil, DL.ix_l0, DL.ix_t0, DL.ix_ls, DL.ix_ts, Nat.zero_le, Nat.reduceLeDiff, DL.small_of, DL.inR_small, DL.lt_size, DL.mul_small, DL.pow_ok, DL.app_ok, DL.ite_t])
/-! ### counts of unlike ones -/
theorem nodup_len : ∀ {l m : List Int}, l.Nodup → (∀ x ∈ l, x ∈ m) → l.length ≤ m.length
  | [], _, _, _ => Nat.zero_le _
  | x :: l, m, h, s => by
    have hx := s x List.mem_cons_self
    have hn := List.nodup_cons.mp h
    have := nodup_len (m := m.erase x) hn.2 fun y hy => (List.mem_erase_of_ne (fun (e : y = x) => hn.1 (e ▸ hy))).mpr (s y (List.mem_cons_of_mem _ hy))
    rw [List.length_erase_of_mem hx] at this
    have hp := List.length_pos_of_mem hx
    rw [List.length_cons]
    omega
/-- how many unlike ones -/
def U (l : List Int) : Nat := (uniq l).length
theorem U_le {l m : List Int} (s : ∀ x ∈ l, x ∈ m) : U l ≤ m.length := nodup_len (uniq_nodup l) fun x hx => s x (mem_uniq.mp hx)
theorem U_mono {l m : List Int} (s : ∀ x ∈ l, x ∈ m) : U l ≤ U m := nodup_len (uniq_nodup l) fun x hx => mem_uniq.mpr (s x (mem_uniq.mp hx))
theorem U_ge {l m : List Int} (h : l.Nodup) (s : ∀ x ∈ l, x ∈ m) : l.length ≤ U m := nodup_len h fun x hx => mem_uniq.mpr (s x hx)
theorem U_map {f : Int → Int} {l : List Int} (hf : ∀ x ∈ l, ∀ y ∈ l, f x = f y → x = y) : U (l.map f) = U l := by
  apply Nat.le_antisymm
  · have := U_le (l := l.map f) (m := (uniq l).map f) fun x hx => by
      obtain ⟨y, hy, rfl⟩ := List.mem_map.mp hx
      exact List.mem_map_of_mem (mem_uniq.mpr hy)
    rw [List.length_map] at this
    exact this
  · have := U_ge (l := (uniq l).map f) (m := l.map f) (by
      unfold List.Nodup
      rw [List.pairwise_map]
      refine (uniq_nodup l).imp_of_mem fun ha hb hne e => hne (hf _ (mem_uniq.mp ha) _ (mem_uniq.mp hb) e)) fun x hx => by
        obtain ⟨y, hy, rfl⟩ := List.mem_map.mp hx
        exact List.mem_map_of_mem (mem_uniq.mp hy)
    rw [List.length_map] at this
    exact this
/-! ### the shape -/
def num (l : List Int) (x : Int) : Int := ((uniq l).idxOf x : Nat)
def shapeOf (l : List Int) : List Int := l.map (num l)
theorem num_inj {l : List Int} {x y : Int} (hx : x ∈ l) (hy : y ∈ l) (h : num l x = num l y) : x = y := by
  unfold num at h
  have h1 := List.idxOf_lt_length_of_mem (mem_uniq.mpr hx)
  have h2 := List.idxOf_lt_length_of_mem (mem_uniq.mpr hy)
  have e : (uniq l).idxOf x = (uniq l).idxOf y := by omega
  have e1 := List.getElem_idxOf h1
  have e2 := List.getElem_idxOf h2
  rw [← e1, ← e2]
  congr 1
theorem num_app {l : List Int} {x y : Int} (hx : x ∈ l) : num (l ++ [y]) x = num l x := by
  unfold num
  rw [uniq_snoc]
  split
  · rfl
  · rw [List.idxOf_append, if_pos (mem_uniq.mpr hx)]
theorem num_new {l : List Int} {x : Int} (hx : x ∉ l) : num (l ++ [x]) x = (uniq l).length := by
  unfold num
  rw [uniq_snoc, if_neg hx, List.idxOf_append, if_neg (fun z => hx (mem_uniq.mp z))]
  simp
theorem shape_snoc (l : List Int) (x : Int) : shapeOf (l ++ [x]) = shapeOf l ++ [num (l ++ [x]) x] := by
  unfold shapeOf
  rw [List.map_append]
  congr 1
  exact List.map_congr_left fun y hy => num_app hy
theorem shape_len (l : List Int) : (shapeOf l).length = l.length := List.length_map _
theorem shape_eq (l : List Int) (hl : l.length ≤ 1000) : Fn.shape_3859 [.lst (l.map .int)] = .ok (true, .lst ((shapeOf l).map .int)) := by
  unfold Fn.shape_3859; rw [DL.ap_body (by rfl)]; unfold Fn.shape_3859_g
  walk_at "dl"
  obtain ⟨ρ', h1, kvs, z, h2, -⟩ := DL.loop_at (g := gSet 3) (gb := Fn.shape_3859_b1) D.int l
    (fun i ρ => ∃ (kvs : List (Int × D)) (z : DL.Slot), ρ = [some (false, .lst (l.map .int)), some (true, dKI kvs), some (true, .lst ((shapeOf (l.take i)).map .int)), z] ∧ keys kvs = uniq (l.take i) ∧ ∀ x ∈ l.take i, lkD kvs x = some (.int (num (l.take i) x))) _ ⟨[], none, rfl, rfl, fun _ h => nomatch h⟩ (fun i a ρ ha ⟨kvs, z, hρ, hk, hn⟩ => by
      subst hρ
      have hi := DL.at_lt ha
      have ht : l.take (i + 1) = l.take i ++ [a] := by
        rw [List.take_succ_eq_append_getElem hi]
        rw [List.getElem?_eq_getElem hi] at ha
        cases ha; rfl
      have hkl : kvs.length = (uniq (l.take i)).length := by rw [← hk]; unfold keys; rw [List.length_map]
      have hkl2 := uniq_len (l.take i)
      rw [List.length_take] at hkl2
      rw [ht, shape_snoc]
      refine ⟨_, rfl, ?_⟩
      unfold Fn.shape_3859_b1
      walk_at "dl"
      rw [in_ki, lk_some, hk]
      walk_at "dl"
      by_cases hm : a ∈ l.take i
      · rw [decide_eq_true (mem_uniq.mpr hm)]
        walk_at "dl"
        rw [ix_ki (hn a hm)]
        rw [DL.app_ok (by rw [List.length_map, shape_len, List.length_take]; omega)]
        walk_at "dl"
        refine ⟨_, rfl, kvs, some (false, .int a), ?_, ?_, ?_⟩
        rotate_left
        · rw [hk, uniq_snoc, if_pos hm]
        · intro x hx
          have hx : x ∈ l.take i := by
            rcases List.mem_append.mp hx with h | h
            · exact h
            · rw [List.mem_singleton.mp h]; exact hm
          rw [num_app hx]
          exact hn x hx
        · rw [num_app hm, List.map_append]
          rfl
      · rw [decide_eq_false (fun z => hm (mem_uniq.mp z))]
        walk_at "dl"
        rw [len_ki]
        walk_at "dl"
        rw [put_ki (by omega)]
        walk_at "dl"
        rw [ix_ki (z := .int kvs.length) (by rw [lk_put, if_pos rfl])]
        rw [DL.app_ok (by rw [List.length_map, shape_len, List.length_take]; omega)]
        walk_at "dl"
        refine ⟨_, rfl, putD kvs a (.int kvs.length), some (false, .int a), ?_, ?_, ?_⟩
        rotate_left
        · rw [keys_put, hk, uniq_snoc, if_neg (fun z => hm (mem_uniq.mp z)), if_neg hm]
        · intro x hx
          rw [lk_put]
          by_cases e : x = a
          · subst e
            rw [if_pos rfl, num_new hm, hkl]
          · have hx : x ∈ l.take i := by
              rcases List.mem_append.mp hx with h | h
              · exact h
              · exact absurd (List.mem_singleton.mp h) e
            rw [if_neg e, num_app hx]
            exact hn x hx
        · rw [num_new hm, hkl, List.map_append]
          rfl)
  erw [h1]
  subst h2
  walk_at "dl"
  rw [List.take_length]
/-- what is counted in a shape -/
theorem U_shape (l : List Int) (ks : List Nat) (hk : ∀ k ∈ ks, k < l.length) : U (vals (shapeOf l) ks) = U (vals l ks) := by
  have e : vals (shapeOf l) ks = (vals l ks).map (num l) := by
    unfold vals shapeOf
    rw [List.map_map]
    refine List.map_congr_left fun k h => ?_
    have := hk k h
    show (l.map (num l)).getD k 0 = num l (l.getD k 0)
    rw [List.getD_eq_getElem?_getD, List.getD_eq_getElem?_getD, List.getElem?_map, List.getElem?_eq_getElem this]
    rfl
  rw [e]
  refine U_map fun x hx y hy h => ?_
  have hm : ∀ z ∈ vals l ks, z ∈ l := fun z hz => by
    obtain ⟨k, h, rfl⟩ := List.mem_map.mp hz
    have := hk k h
    rw [List.getD_eq_getElem?_getD, List.getElem?_eq_getElem this]
    exact List.getElem_mem this
  exact num_inj (hm x hx) (hm y hy) h
end Sh
namespace De
open PySem DL
/-! equality of nested data without truth values -/
inductive NB : Nat → D → Prop
  | non {n : Nat} : NB n .non
  | int {n : Nat} (i : Int) : NB n (.int i)
  | str {n : Nat} (x : Str) : PyData.canLay0 (.str x) = true → NB n (.str x)
  | lst {n : Nat} {ds : List D} : (∀ d ∈ ds, NB n d) → NB (n + 1) (.lst ds)
  | tup {n : Nat} {ds : List D} : (∀ d ∈ ds, NB n d) → NB (n + 1) (.tup ds)
theorem py_all {n : Nat} : ∀ {ds : List D}, (∀ d ∈ ds, ∃ p, py d = some p ∧ p.canLay0 = true ∧ p.depth ≤ n) → ∃ ps, pys ds = some ps ∧ PyData.canLayAll0 ps = true ∧ PyData.depthAll ps ≤ n
  | [], _ => ⟨[], rfl, rfl, Nat.zero_le _⟩
  | d :: ds, h => by
    obtain ⟨p, h1, h2, h3⟩ := h d List.mem_cons_self
    obtain ⟨ps, h4, h5, h6⟩ := py_all fun e he => h e (List.mem_cons_of_mem _ he)
    refine ⟨p :: ps, ?_, ?_, ?_⟩
    · unfold pys; rw [h1, h4]; rfl
    · unfold PyData.canLayAll0; rw [h2, h5]; rfl
    · unfold PyData.depthAll; omega
theorem NB.py {n : Nat} {d : D} (h : NB n d) : ∃ p, DL.py d = some p ∧ p.canLay0 = true ∧ p.depth ≤ n := by
  induction h with
  | non => exact ⟨.none, rfl, by simp [PyData.canLay0], by simp [PyData.depth]⟩
  | int i => exact ⟨.int i, rfl, by simp [PyData.canLay0], by simp [PyData.depth]⟩
  | str x hx => exact ⟨.str x, rfl, hx, by simp [PyData.depth]⟩
  | lst _ ih =>
    obtain ⟨ps, h1, h2, h3⟩ := py_all ih
    refine ⟨.list ps, ?_, ?_, ?_⟩
    · unfold DL.py; rw [h1]; rfl
    · simp [PyData.canLay0, h2]
    · simp [PyData.depth]; omega
  | tup _ ih =>
    obtain ⟨ps, h1, h2, h3⟩ := py_all ih
    refine ⟨.tuple ps, ?_, ?_, ?_⟩
    · unfold DL.py; rw [h1]; rfl
    · simp [PyData.canLay0, h2]
    · simp [PyData.depth]; omega
theorem eqv_all {ds : List D} (ih : ∀ d ∈ ds, ∀ {m : Nat} {e : D} {p q : PyData}, NB m e → DL.py d = some p → DL.py e = some q → (PyData.eqv p q = true ↔ d = e)) : ∀ {m : Nat} {es : List D} {ps qs : List PyData}, (∀ e ∈ es, NB m e) → pys ds = some ps → pys es = some qs → (PyData.eqvAll ps qs = true ↔ ds = es) := by
  induction ds with
  | nil =>
    intro m es ps qs hes hp hq
    cases hp
    cases es with
    | nil => cases hq; exact ⟨fun _ => rfl, fun _ => rfl⟩
    | cons e es =>
      unfold pys at hq
      cases h1 : DL.py e with
      | none => rw [h1] at hq; cases hq
      | some q1 =>
        cases h2 : pys es with
        | none => rw [h1, h2] at hq; cases hq
        | some q2 =>
          rw [h1, h2] at hq; cases hq
          exact ⟨fun h => (by simp [PyData.eqvAll] at h), fun h => nomatch h⟩
  | cons d ds ih2 =>
    intro m es ps qs hes hp hq
    unfold pys at hp
    cases g1 : DL.py d with
    | none => rw [g1] at hp; cases hp
    | some p1 =>
      cases g2 : pys ds with
      | none => rw [g1, g2] at hp; cases hp
      | some p2 =>
        rw [g1, g2] at hp; cases hp
        cases es with
        | nil => cases hq; exact ⟨fun h => (by simp [PyData.eqvAll] at h), fun h => nomatch h⟩
        | cons e es =>
          unfold pys at hq
          cases h1 : DL.py e with
          | none => rw [h1] at hq; cases hq
          | some q1 =>
            cases h2 : pys es with
            | none => rw [h1, h2] at hq; cases hq
            | some q2 =>
              rw [h1, h2] at hq; cases hq
              have a1 := ih d List.mem_cons_self (hes e List.mem_cons_self) g1 h1
              have a2 := ih2 (fun d hd => ih d (List.mem_cons_of_mem _ hd)) (fun e he => hes e (List.mem_cons_of_mem _ he)) g2 h2
              show (PyData.eqvAll (p1 :: p2) (q1 :: q2) = true) ↔ _
              unfold PyData.eqvAll
              rw [Bool.and_eq_true, a1, a2]
              exact ⟨fun ⟨x, y⟩ => by rw [x, y], fun h => by cases h; exact ⟨rfl, rfl⟩⟩
theorem NB.eqv {n : Nat} {d : D} (h : NB n d) : ∀ {m : Nat} {e : D} {p q : PyData}, NB m e → DL.py d = some p → DL.py e = some q → (PyData.eqv p q = true ↔ d = e) := by
  induction h with
  | non =>
    intro m e p q he hp hq
    cases hp
    cases he with
    | non => cases hq; simp [PyData.eqv]
    | int i => cases hq; simp [PyData.eqv]
    | str x hx => cases hq; simp [PyData.eqv]
    | lst h => obtain ⟨ps, h1, -, -⟩ := py_all (fun d hd => (h d hd).py); unfold DL.py at hq; rw [h1] at hq; cases hq; simp [PyData.eqv]
    | tup h => obtain ⟨ps, h1, -, -⟩ := py_all (fun d hd => (h d hd).py); unfold DL.py at hq; rw [h1] at hq; cases hq; simp [PyData.eqv]
  | int i =>
    intro m e p q he hp hq
    cases hp
    cases he with
    | non => cases hq; simp [PyData.eqv]
    | int i => cases hq; simp [PyData.eqv]
    | str x hx => cases hq; simp [PyData.eqv]
    | lst h => obtain ⟨ps, h1, -, -⟩ := py_all (fun d hd => (h d hd).py); unfold DL.py at hq; rw [h1] at hq; cases hq; simp [PyData.eqv]
    | tup h => obtain ⟨ps, h1, -, -⟩ := py_all (fun d hd => (h d hd).py); unfold DL.py at hq; rw [h1] at hq; cases hq; simp [PyData.eqv]
  | str x hx =>
    intro m e p q he hp hq
    cases hp
    cases he with
    | non => cases hq; simp [PyData.eqv]
    | int i => cases hq; simp [PyData.eqv]
    | str x hx => cases hq; simp [PyData.eqv]
    | lst h => obtain ⟨ps, h1, -, -⟩ := py_all (fun d hd => (h d hd).py); unfold DL.py at hq; rw [h1] at hq; cases hq; simp [PyData.eqv]
    | tup h => obtain ⟨ps, h1, -, -⟩ := py_all (fun d hd => (h d hd).py); unfold DL.py at hq; rw [h1] at hq; cases hq; simp [PyData.eqv]
  | lst hd ih =>
    intro m e p q he hp hq
    obtain ⟨ps, h1, -, -⟩ := py_all (fun d h => (hd d h).py)
    unfold DL.py at hp; rw [h1] at hp; cases hp
    cases he with
    | non => cases hq; simp [PyData.eqv]
    | int i => cases hq; simp [PyData.eqv]
    | str x hx => cases hq; simp [PyData.eqv]
    | lst h =>
      obtain ⟨qs, h2, -, -⟩ := py_all (fun d hd => (h d hd).py)
      unfold DL.py at hq; rw [h2] at hq; cases hq
      have := eqv_all (fun d hd {m e p q} => ih d hd) h h1 h2
      show PyData.eqv (.list ps) (.list qs) = true ↔ _
      unfold PyData.eqv
      rw [this]
      exact ⟨fun h => by rw [h], fun h => by cases h; rfl⟩
    | tup h => obtain ⟨ps, h1, -, -⟩ := py_all (fun d hd => (h d hd).py); unfold DL.py at hq; rw [h1] at hq; cases hq; simp [PyData.eqv]
  | tup hd ih =>
    intro m e p q he hp hq
    obtain ⟨ps, h1, -, -⟩ := py_all (fun d h => (hd d h).py)
    unfold DL.py at hp; rw [h1] at hp; cases hp
    cases he with
    | non => cases hq; simp [PyData.eqv]
    | int i => cases hq; simp [PyData.eqv]
    | str x hx => cases hq; simp [PyData.eqv]
    | lst h => obtain ⟨ps, h1, -, -⟩ := py_all (fun d hd => (h d hd).py); unfold DL.py at hq; rw [h1] at hq; cases hq; simp [PyData.eqv]
    | tup h =>
      obtain ⟨qs, h2, -, -⟩ := py_all (fun d hd => (h d hd).py)
      unfold DL.py at hq; rw [h2] at hq; cases hq
      have := eqv_all (fun d hd {m e p q} => ih d hd) h h1 h2
      show PyData.eqv (.tuple ps) (.tuple qs) = true ↔ _
      unfold PyData.eqv
      rw [this]
      exact ⟨fun h => by rw [h], fun h => by cases h; rfl⟩
theorem deep_eq {neg : Bool} {n m : Nat} {a b : D} (ha : NB n a) (hb : NB m b) (hn : n ≤ 60) (hm : m ≤ 60) {P : Prop} [Decidable P] (hP : a = b ↔ P) : deepEq neg a b = .ok (.bl (xorB neg (decide P))) := by
  obtain ⟨p, h1, h2, h3⟩ := ha.py
  obtain ⟨q, g1, g2, g3⟩ := hb.py
  have e := ha.eqv hb h1 g1
  have e2 : PyData.eqv p q = decide P := by
    rw [← Bool.decide_coe (PyData.eqv p q), decide_eq_decide, e, hP]
  unfold deepEq
  rw [h1, g1]
  show grd (SeqAt.shaped p && SeqAt.shaped q) (R.ok (D.bl (xorB neg (PyData.eqv p q)))) = _
  have s1 : SeqAt.shaped p = true := by unfold SeqAt.shaped; rw [h2, decide_eq_true (by omega)]; rfl
  have s2 : SeqAt.shaped q = true := by unfold SeqAt.shaped; rw [g2, decide_eq_true (by omega)]; rfl
  rw [s1, s2, e2]; rfl
theorem eq_lsts {neg : Bool} {n m : Nat} {xs ys : List D} (ha : NB n (.lst xs)) (hb : NB m (.lst ys)) (hn : n ≤ 60) (hm : m ≤ 60) {P : Prop} [Decidable P] (hP : xs = ys ↔ P) : dEq neg (.lst xs) (.lst ys) = .ok (.bl (xorB neg (decide P))) :=
  deep_eq ha hb hn hm ⟨fun h => hP.mp (by cases h; rfl), fun h => by rw [hP.mpr h]⟩
theorem eq_self {neg : Bool} {n : Nat} {xs : List D} (ha : NB n (.lst xs)) (hn : n ≤ 60) : dEq neg (.lst xs) (.lst xs) = .ok (.bl (xorB neg true)) := by
  have := eq_lsts (neg := neg) ha ha hn hn (P := True) ⟨fun _ => trivial, fun _ => rfl⟩
  rw [decide_true] at this
  exact this
theorem NB.ints {n : Nat} (ns : List Int) : NB (n + 1) (.lst (ns.map .int)) := .lst fun d hd => by
  obtain ⟨i, _, rfl⟩ := List.mem_map.mp hd
  exact .int i
end De
namespace Gw
open PySem DL Ti Di Sh De
local macro_rules | `(tactic| walk_at "dl") => `(tactic| try simp -implicitDefEqProofs only [DL.sort_ints, DL.sum_ints, DL.in_ints, DL.idx_ok, DL.rev_lst, DL.ap_ins, DL.intB_bl, DL.intB_int, DL.itZipL_lst, DL.ap_nrmS, DL.nrm_nil, DL.nrm_cons, DL.nrm_rows, DL.nrm_lst, DL.isC_rows, DL.len_rows, DL.unR_rows, DL.unR_lst, DL.isi_rows, DL.eq_rows, DL.ap_rowM, DL.rowM_ok, DL.rowM2_ok, DL.rowM3_ok, DL.ap_row0, DL.ap_get2, DL.get2_ok, DL.row0_ok, DL.row02_ok, DL.ap_rowsApp, DL.ap_rowPut, DL.rowPut_ok, DL.rowPut2_ok, DL.ap_consL, DL.consL_ok, DL.mkRows_ap, DL.ap_lcR, DL.maxDef_ints, DL.ap_cnt, DL.cnt_ok, DL.ap_idx, DL.ap_txop, DL.tx_ok, DL.ap_jopS, DL.ap_lc, DL.ap_try, DL.try_ok, DL.try_err, DL.ap_tryAs, DL.tryAs_ok, DL.tryAs_err, DL.gone_next, DL.ap_raise, DL.ap_bodyD, DL.end_err, DL.itRev_lst, DL.itZip_lst, DL.itEnum_lst, DL.min_int, DL.max_int, DL.ap_seq, DL.seq_next, DL.seq_ret, DL.seq_brk, DL.seq_cont, DL.seq_err, DL.ap_skip, DL.ap_brk, DL.ap_cont, DL.ap_stl, DL.settle_nil, DL.settle_cons, DL.settle_t, DL.settle_f, DL.ap_if, DL.ite_t, DL.ite_f, DL.ap_set, DL.ap_setO, DL.set_ok, DL.setO_ok, DL.isC_lst, DL.isC_dK, DL.isC_dT, DL.isC_int, DL.isC_str, DL.isC_bl, DL.isC_non, DL.isC_tup, DL.ap_ret, DL.ap_retO, DL.ret_ok, DL.ap_ret0, DL.ap_unp, DL.unp_ok, DL.unp2_ok, DL.ap_drop, DL.ap_gset, DL.ap_gtup, DL.ap_glst, DL.ap_gnil, DL.ap_gcons, DL.ap_rd, DL.ap_rdE, DL.ap_rdO, DL.rd_ok, DL.rdE_ok, DL.rdO_ok, DL.rdO_f, DL.ap_cst, DL.ap_bop, DL.bd2_ok, DL.ap_uop, DL.ap_nop, DL.ap_anil, DL.ap_acons, DL.cons_ok, DL.add_int, DL.add_str, DL.add_lst, DL.sub_int, DL.rep_lst, DL.neg_int, DL.eq_int, DL.eq_str, DL.eq_bl, DL.eq_non_int, DL.eq_int_non, DL.lt_int, DL.le_int, DL.gt_int, DL.ge_int, DL.isN_ap, DL.isN_non, DL.isN_int, DL.isN_str, DL.isN_bl, DL.ap_rdL, DL.rdL_ok, DL.ap_rdF, DL.rdF_int, DL.is_bl, DL.isN_lst, DL.isN_tup, DL.asB_bl, DL.asI_int, DL.mkLst_ap, DL.mkTup_ap, DL.len_lst, DL.len_tup, DL.len_scr, DL.len_str, DL.len_dK, DL.list_lst, DL.list_tup, DL.list_scr, DL.tuple_lst, DL.flatO_int, DL.flatO_bl, DL.flatO_str, DL.flatO_non, DL.flatO_tup, DL.eNot_bl, DL.isi_int, DL.isi_bl, DL.isi_str, DL.isi_non, DL.isi_lst, DL.isi_tup, DL.isB_int_int, DL.isB_int_bl, DL.isB_int_str, DL.isB_int_non, DL.isB_int_lst, DL.isB_int_tup, DL.isB_bool_int, DL.isB_bool_bl, DL.isB_bool_str, DL.isB_bool_non, DL.isB_bool_lst, DL.isB_bool_tup, DL.isB_list_lst, DL.isB_list_int, DL.isB_list_tup, DL.isB_tuple_tup, DL.isB_tuple_lst, DL.isB_str_str, DL.isB_str_int, DL.ap_tst, DL.ap_bnot, DL.ap_band, DL.ap_bor, DL.and_t, DL.and_f, DL.or_t, DL.or_f, DL.ap_eand, DL.ap_eor, DL.eand_t, DL.eand_f, DL.eor_t, DL.eor_f, DL.ap_eif, DL.eif_t, DL.eif_f, DL.ap_chain, DL.chn0_ok, DL.chn_t, DL.chn_f, DL.ap_slc, DL.slc_ok, DL.ap_pnone, DL.ap_psome, DL.cut_lst, DL.cut_scr, DL.ap_for, DL.loop_ok, DL.ap_loop0, DL.ap_loop1, DL.lp1_ok, DL.lp2_next, DL.lp2_cont, DL.lp2_brk, DL.lp2_ret, DL.ap_itr, DL.ap_irg, DL.itD_lst, DL.itD_tup, DL.itD_scr, DL.itD_str, DL.rng1_ap, DL.rng2_ap, DL.wipe_nil, DL.wipe_cons, DL.ap_app, DL.ap_ext, DL.ap_own0, DL.own0_ok, DL.ap_put, DL.put_ok, DL.put2_ok, DL.end_ret, DL.end_next, DL.args_ap, DL.bd_ok, DL.bd_err, DL.bd_bad, DL.grd_t, DL.grd_f, DL.xorB_f, DL.xorB_t, List.map_cons, List.map_nil, List.length_cons, List.length_nil, List.length_map, List.length_append, List.length_range, List.cons_append, List.nil_append, List.append_nil, List.getElem?_cons_zero, List.getElem?_cons_succ, List.set_cons_zero, List.set_cons_succ, List.replicate_succ, List.replicate_zero, Nat.sub_zero, Nat.sub_self, Nat.add_one_sub_one, Nat.reduceAdd, Nat.reduceSub, Nat.zero_add, Option.bind_some, decide_true, decide_false, Bool.and_true, Bool.true_and, Bool.and_false, Bool.false_and, Bool.not_true, Bool.not_false, Bool.or_true, Bool.or_false, Bool.true_or, Bool.false_or, Bool.false_eq_true, ↓reduceIte, Int.reduceToNat, Int.reducePow, Int.reduceMul, Int.reduceAdd, Int.reduceSub, Int.reduceNeg, Int.reduceLT, Int.reduceLE, Nat.reducePow, Int.reduceMod, Int.reduceDiv, Int.reduceEq, Nat.reduceEqDiff, Int.natAbs_cast, DL.mod_pos, DL.div_pos, DL.dEq_ints, DL.dEq_scr, DL.dEq_scr_nil, DL.dEq_ints_nil, DL.ix_l0, DL.ix_t0, DL.ix_ls, DL.ix_ts, Nat.zero_le, Nat.reduceLeDiff, DL.small_of, DL.inR_small, DL.lt_size, DL.mul_small, DL.pow_ok, DL.app_ok, DL.ite_t])
theorem snoc_ind {P : List Int → Prop} (h0 : P []) (hs : ∀ l x, P l → P (l ++ [x])) : ∀ l, P l := fun l => by
  have h : ∀ r : List Int, P r.reverse := fun r => by
    induction r with
    | nil => exact h0
    | cons x r ih => rw [List.reverse_cons]; exact hs _ _ ih
  have := h l.reverse
  rwa [List.reverse_reverse] at this
def lI (l : List Int) : D := .lst (l.map .int)
/-- width: one more than the greatest -/
def W (l : List Int) : Int := maxI l (-1) + 1
theorem maxI_snoc (l : List Int) (x : Int) (hx : -1 ≤ x) : maxI (l ++ [x]) (-1) = max (maxI l (-1)) x := by
  cases l with
  | nil =>
    show x = max (-1) x
    omega
  | cons a l =>
    show (l ++ [x]).foldl max a = _
    rw [List.foldl_append]; rfl
theorem num_lt {l : List Int} {x : Int} (h : x ∈ l) : num l x < (U l : Int) ∧ 0 ≤ num l x := by
  have := List.idxOf_lt_length_of_mem (mem_uniq.mpr h)
  unfold num U
  omega
theorem W_shape : ∀ l : List Int, W (shapeOf l) = (U l : Int) := by
  refine snoc_ind rfl fun l x ih => ?_
  unfold W at ih ⊢
  rw [shape_snoc]
  unfold U at ih ⊢
  rw [uniq_snoc]
  by_cases hm : x ∈ l
  · obtain ⟨h1, h2⟩ := num_lt hm
    unfold U at h1
    rw [num_app hm, maxI_snoc _ _ (by omega), if_pos hm]
    omega
  · rw [num_new hm, maxI_snoc _ _ (by omega), if_neg hm, List.length_append, List.length_singleton]
    omega
def grownL (l : List Int) : List (List Int) := (List.range (W l + 1).toNat).map fun k : Nat => l ++ [(k : Int)]
theorem width_eq (l : List Int) : ∃ o, Fn.width_9fdd [.lst (l.map .int)] = .ok (o, .int (W l)) := by
  unfold Fn.width_9fdd; rw [DL.ap_body (by rfl)]; unfold Fn.width_9fdd_g
  walk_at "dl"
  exact ⟨_, rfl⟩
theorem grown_eq (l : List Int) (hl : l.length ≤ 1000) (h0 : 0 ≤ W l) (h1 : W l ≤ 1000) : ∃ o, Fn.grown_0f21 [.lst (l.map .int)] = .ok (o, .lst ((grownL l).map lI)) := by
  obtain ⟨o, e⟩ := width_eq l
  unfold Fn.grown_0f21; rw [DL.ap_body (by rfl)]; unfold Fn.grown_0f21_g
  walk_at "dl"
  rw [DL.callE_of e]
  walk_at "dl"
  rw [DL.inR_small (by omega) (by omega)]
  walk_at "dl"
  rw [DL.lc_is (zs := (grownL l).map lI) (by rw [List.length_map, List.length_range]; omega) (by
    have := lc_fmap (g := gSet 1) (t := tYesD) (f := Fn.grown_0f21_e1) (ρ := [some (false, .lst (l.map .int)), none]) (fun i : Nat => D.int (0 + (i : Int))) (fun k : Nat => lI (l ++ [(k : Int)])) (fun _ => true) (List.range (W l + 1).toNat) (fun k hk => by
      refine lc_one rfl rfl fun h => ?_
      unfold Fn.grown_0f21_e1
      walk_at "dl"
      rw [DL.small_of (by omega)]
      walk_at "dl"
      unfold lI
      rw [List.map_append, Int.zero_add]; rfl)
    rw [List.filter_eq_self.mpr (fun _ _ => rfl)] at this
    unfold grownL
    rw [List.map_map]
    exact this)]
  walk_at "dl"
  exact ⟨_, rfl⟩
/-! counted -/
theorem pys_ints : ∀ l : List Int, pys (l.map .int) = some (l.map PyData.int)
  | [] => rfl
  | x :: l => by
    show (py (.int x)).bind (fun p => (pys (l.map .int)).map fun ps => p :: ps) = _
    rw [pys_ints l]; rfl
theorem pys_lI : ∀ ls : List (List Int), pys (ls.map lI) = some (ls.map fun l => PyData.list (l.map .int))
  | [] => rfl
  | l :: ls => by
    show (py (lI l)).bind (fun p => (pys (ls.map lI)).map fun ps => p :: ps) = _
    rw [pys_lI ls]
    show ((pys (l.map .int)).map PyData.list).bind _ = _
    rw [pys_ints l]; rfl
theorem eqv_ints : ∀ l m : List Int, PyData.eqvAll (l.map .int) (m.map .int) = decide (l = m)
  | [], [] => rfl
  | [], _ :: _ => rfl
  | _ :: _, [] => rfl
  | x :: l, y :: m => by
    show (PyData.eqv (.int x) (.int y) && PyData.eqvAll (l.map .int) (m.map .int)) = _
    rw [eqv_ints l m]
    show ((x == y) && _) = _
    rw [Bool.eq_iff_iff]
    simp
theorem lay_ints : ∀ l : List Int, PyData.canLayAll0 (l.map PyData.int) = true ∧ PyData.depthAll (l.map PyData.int) = 0
  | [] => ⟨rfl, rfl⟩
  | x :: l => by
    obtain ⟨h1, h2⟩ := lay_ints l
    refine ⟨?_, ?_⟩
    · simp only [List.map_cons, PyData.canLayAll0, PyData.canLay0, h1, Bool.and_self]
    · simp only [List.map_cons, PyData.depthAll, PyData.depth, h2, Nat.max_self]
theorem lay_lI : ∀ ls : List (List Int), PyData.canLayAll0 (ls.map fun l => PyData.list (l.map .int)) = true ∧ PyData.depthAll (ls.map fun l => PyData.list (l.map .int)) ≤ 1
  | [] => ⟨rfl, Nat.zero_le _⟩
  | l :: ls => by
    obtain ⟨h1, h2⟩ := lay_lI ls
    obtain ⟨h3, h4⟩ := lay_ints l
    refine ⟨?_, ?_⟩
    · simp only [List.map_cons, PyData.canLayAll0, PyData.canLay0, h1, h3, Bool.and_self]
    · simp only [List.map_cons, PyData.depthAll, PyData.depth, h4]
      omega
theorem shaped_of {p : PyData} (h : p.canLay0 = true) (h' : p.depth ≤ 60) : SeqAt.shaped p = true := by
  show (p.canLay0 && decide (p.depth ≤ 64)) = true
  rw [h, decide_eq_true (by omega)]; rfl
theorem count_lI (ls : List (List Int)) (m : List Int) : dCount (.lst (ls.map lI)) (lI m) = .ok (.int (ls.count m : Nat)) := by
  show (match pys (ls.map lI), (pys (m.map .int)).map PyData.list with
    | some ps, some q => grd (SeqAt.shaped (.list ps) && SeqAt.shaped q) (R.ok (D.int (ps.countP fun z => PyData.eqv z q : Nat)))
    | _, _ => .bad) = _
  rw [pys_lI, pys_ints]
  obtain ⟨h1, h2⟩ := lay_lI ls
  obtain ⟨h3, h4⟩ := lay_ints m
  show grd (SeqAt.shaped (.list _) && SeqAt.shaped (.list _)) _ = _
  rw [shaped_of (p := .list _) (by simp only [PyData.canLay0]; exact h1) (by simp only [PyData.depth]; omega), shaped_of (p := .list _) (by simp only [PyData.canLay0]; exact h3) (by simp only [PyData.depth]; omega)]
  show R.ok _ = _
  congr 3
  rw [List.countP_map]
  unfold List.count
  refine List.countP_congr fun l _ => ?_
  show PyData.eqv (.list (l.map .int)) (.list (m.map .int)) = true ↔ _
  simp only [PyData.eqv, eqv_ints]
  simp
theorem cnt_range {α : Type} [BEq α] [LawfulBEq α] {f : Nat → α} (hf : ∀ i j, f i = f j → i = j) : ∀ (n k : Nat), k < n → ((List.range n).map f).count (f k) = 1
  | 0, _, h => absurd h (Nat.not_lt_zero _)
  | n + 1, k, h => by
    rw [List.range_succ, List.map_append, List.count_append]
    by_cases e : k = n
    · subst e
      have : ((List.range k).map f).count (f k) = 0 := List.count_eq_zero.mpr fun z => by
        obtain ⟨j, hj, ej⟩ := List.mem_map.mp z
        have := hf _ _ ej
        rw [List.mem_range] at hj
        omega
      rw [this]
      simp
    · rw [cnt_range hf n k (by omega)]
      have : ([n].map f).count (f k) = 0 := List.count_eq_zero.mpr fun z => by
        obtain ⟨j, hj, ej⟩ := List.mem_map.mp z
        rw [List.mem_singleton] at hj
        have := hf _ _ ej
        omega
      rw [this]
theorem count_grown (l : List Int) {x : Int} (h0 : 0 ≤ x) (h1 : x ≤ W l) : (grownL l).count (l ++ [x]) = 1 := by
  have := cnt_range (f := fun k : Nat => l ++ [(k : Int)]) (fun i j h => by
    have := List.append_cancel_left h
    injection this with h _
    omega) (W l + 1).toNat x.toNat (by omega)
  rw [Int.toNat_of_nonneg h0] at this
  exact this
end Gw
namespace Ce
open PySem DL Ti
local macro_rules | `(tactic| walk_at "dl") => `(tactic| try simp -implicitDefEqProofs only [DL.sort_ints, DL.sum_ints, DL.in_ints, DL.idx_ok, DL.rev_lst, DL.ap_ins, DL.intB_bl, DL.intB_int, DL.itZipL_lst, DL.ap_nrmS, DL.nrm_nil, DL.nrm_cons, DL.nrm_rows, DL.nrm_lst, DL.isC_rows, DL.len_rows, DL.unR_rows, DL.unR_lst, DL.isi_rows, DL.eq_rows, DL.ap_rowM, DL.rowM_ok, DL.rowM2_ok, DL.rowM3_ok, DL.ap_row0, DL.ap_get2, DL.get2_ok, DL.row0_ok, DL.row02_ok, DL.ap_rowsApp, DL.ap_rowPut, DL.rowPut_ok, DL.rowPut2_ok, DL.ap_consL, DL.consL_ok, DL.mkRows_ap, DL.ap_lcR, DL.maxDef_ints, DL.ap_cnt, DL.cnt_ok, DL.ap_idx, DL.ap_txop, DL.tx_ok, DL.ap_jopS, DL.ap_lc, DL.ap_try, DL.try_ok, DL.try_err, DL.ap_tryAs, DL.tryAs_ok, DL.tryAs_err, DL.gone_next, DL.ap_raise, DL.ap_bodyD, DL.end_err, DL.itRev_lst, DL.itZip_lst, DL.itEnum_lst, DL.min_int, DL.max_int, DL.ap_seq, DL.seq_next, DL.seq_ret, DL.seq_brk, DL.seq_cont, DL.seq_err, DL.ap_skip, DL.ap_brk, DL.ap_cont, DL.ap_stl, DL.settle_nil, DL.settle_cons, DL.settle_t, DL.settle_f, DL.ap_if, DL.ite_t, DL.ite_f, DL.ap_set, DL.ap_setO, DL.set_ok, DL.setO_ok, DL.isC_lst, DL.isC_dK, DL.isC_dT, DL.isC_int, DL.isC_str, DL.isC_bl, DL.isC_non, DL.isC_tup, DL.ap_ret, DL.ap_retO, DL.ret_ok, DL.ap_ret0, DL.ap_unp, DL.unp_ok, DL.unp2_ok, DL.ap_drop, DL.ap_gset, DL.ap_gtup, DL.ap_glst, DL.ap_gnil, DL.ap_gcons, DL.ap_rd, DL.ap_rdE, DL.ap_rdO, DL.rd_ok, DL.rdE_ok, DL.rdO_ok, DL.rdO_f, DL.ap_cst, DL.ap_bop, DL.bd2_ok, DL.ap_uop, DL.ap_nop, DL.ap_anil, DL.ap_acons, DL.cons_ok, DL.add_int, DL.add_str, DL.add_lst, DL.sub_int, DL.rep_lst, DL.neg_int, DL.eq_int, DL.eq_str, DL.eq_bl, DL.eq_non_int, DL.eq_int_non, DL.lt_int, DL.le_int, DL.gt_int, DL.ge_int, DL.isN_ap, DL.isN_non, DL.isN_int, DL.isN_str, DL.isN_bl, DL.ap_rdL, DL.rdL_ok, DL.ap_rdF, DL.rdF_int, DL.is_bl, DL.isN_lst, DL.isN_tup, DL.asB_bl, DL.asI_int, DL.mkLst_ap, DL.mkTup_ap, DL.len_lst, DL.len_tup, DL.len_scr, DL.len_str, DL.len_dK, DL.list_lst, DL.list_tup, DL.list_scr, DL.tuple_lst, DL.flatO_int, DL.flatO_bl, DL.flatO_str, DL.flatO_non, DL.flatO_tup, DL.eNot_bl, DL.isi_int, DL.isi_bl, DL.isi_str, DL.isi_non, DL.isi_lst, DL.isi_tup, DL.isB_int_int, DL.isB_int_bl, DL.isB_int_str, DL.isB_int_non, DL.isB_int_lst, DL.isB_int_tup, DL.isB_bool_int, DL.isB_bool_bl, DL.isB_bool_str, DL.isB_bool_non, DL.isB_bool_lst, DL.isB_bool_tup, DL.isB_list_lst, DL.isB_list_int, DL.isB_list_tup, DL.isB_tuple_tup, DL.isB_tuple_lst, DL.isB_str_str, DL.isB_str_int, DL.ap_tst, DL.ap_bnot, DL.ap_band, DL.ap_bor, DL.and_t, DL.and_f, DL.or_t, DL.or_f, DL.ap_eand, DL.ap_eor, DL.eand_t, DL.eand_f, DL.eor_t, DL.eor_f, DL.ap_eif, DL.eif_t, DL.eif_f, DL.ap_chain, DL.chn0_ok, DL.chn_t, DL.chn_f, DL.ap_slc, DL.slc_ok, DL.ap_pnone, DL.ap_psome, DL.cut_lst, DL.cut_scr, DL.ap_for, DL.loop_ok, DL.ap_loop0, DL.ap_loop1, DL.lp1_ok, DL.lp2_next, DL.lp2_cont, DL.lp2_brk, DL.lp2_ret, DL.ap_itr, DL.ap_irg, DL.itD_lst, DL.itD_tup, DL.itD_scr, DL.itD_str, DL.rng1_ap, DL.rng2_ap, DL.wipe_nil, DL.wipe_cons, DL.ap_app, DL.ap_ext, DL.ap_own0, DL.own0_ok, DL.ap_put, DL.put_ok, DL.put2_ok, DL.end_ret, DL.end_next, DL.args_ap, DL.bd_ok, DL.bd_err, DL.bd_bad, DL.grd_t, DL.grd_f, DL.xorB_f, DL.xorB_t, List.map_cons, List.map_nil, List.length_cons, List.length_nil, List.length_map, List.length_append, List.length_range, List.cons_append, List.nil_append, List.append_nil, List.getElem?_cons_zero, List.getElem?_cons_succ, List.set_cons_zero, List.set_cons_succ, List.replicate_succ, List.replicate_zero, Nat.sub_zero, Nat.sub_self, Nat.add_one_sub_one, Nat.reduceAdd, Nat.reduceSub, Nat.zero_add, Option.bind_some, decide_true, decide_false, Bool.and_true, Bool.true_and, Bool.and_false, Bool.false_and, Bool.not_true, Bool.not_false, Bool.or_true, Bool.or_false, Bool.true_or, Bool.false_or, Bool.false_eq_true, ↓reduceIte, Int.reduceToNat, Int.reducePow, Int.reduceMul, Int.reduceAdd, Int.reduceSub, Int.reduceNeg, Int.reduceLT, Int.reduceLE, Nat.reducePow, Int.reduceMod, Int.reduceDiv, Int.reduceEq, Nat.reduceEqDiff, Int.natAbs_cast, DL.mod_pos, DL.div_pos, DL.dEq_ints, DL.dEq_scr, DL.dEq_scr_nil, DL.dEq_ints_nil, DL.ix_l0, DL.ix_t0, DL.ix_ls, DL.ix_ts, Nat.zero_le, Nat.reduceLeDiff, DL.small_of, DL.inR_small, DL.lt_size, DL.mul_small, DL.pow_ok, DL.app_ok, DL.ite_t])
/-! ### the script's cells, going on past its end -/
def cellOf (ns : List Int) (k : Int) : Int :=
  if k < ns.length then ns.getD k.toNat 0
  else if ns = [] then k * k * 7919 + 13 * k
  else (ns.getD (k % ns.length).toNat 0 + k * k * 7919 + 1) * 48271 % 2147483647
theorem cell_eq (ns : List Int) (k : Int) (h0 : 0 ≤ k) (h1 : k ≤ 1000000) : ∃ o, Fn.law_cell_547d [.scr ns, .int k] = .ok (o, .int (cellOf ns k)) := by
  unfold Fn.law_cell_547d; rw [DL.ap_body (by rfl)]; unfold Fn.law_cell_547d_g
  walk_at "dl"
  unfold cellOf
  by_cases h : k < ns.length
  · rw [decide_eq_true h, if_pos h]
    walk_at "dl"
    rw [DL.ixA_scrD h0 h]
    walk_at "dl"
    exact ⟨_, rfl⟩
  · rw [decide_eq_false h, if_neg h]
    walk_at "dl"
    by_cases he : ns = []
    · rw [decide_eq_true he, if_pos he]
      walk_at "dl"
      rw [DL.mul_r (by omega) (by omega)]
      walk_at "dl"
      rw [DL.mul_r (by omega) (by omega)]
      walk_at "dl"
      rw [DL.mul_l (by omega) (by omega)]
      walk_at "dl"
      exact ⟨_, rfl⟩
    · rw [decide_eq_false he, if_neg he]
      have hp : 0 < ns.length := List.length_pos_iff.mpr he
      have q1 := Int.emod_nonneg k (show (ns.length : Int) ≠ 0 by omega)
      have q2 := Int.emod_lt_of_pos k (show (0 : Int) < ns.length by omega)
      walk_at "dl"
      rw [DL.mod_pos (by omega)]
      walk_at "dl"
      rw [DL.ixA_scrD q1 q2]
      walk_at "dl"
      rw [DL.mul_r (by omega) (by omega)]
      walk_at "dl"
      rw [DL.mul_r (by omega) (by omega)]
      walk_at "dl"
      rw [DL.mul_r (by omega) (by omega)]
      walk_at "dl"
      exact ⟨_, rfl⟩
end Ce
namespace Fn
open PySem DL
def breaks_a702_b1 : En → R Fl :=
  (sIf (tst (bop (rd 4) (nop (aCons (rd 0) aNil) dLen) dLt)) (sPut 2 (cst (.bl true)) (bop (rd 0) (rd 4) dIxA)) (sSet 3 (bop (rd 3) (cst (.int 1)) dAdd)))
def breaks_a702_g : En → R Fl :=
  (sSeq (sUnp (rdE 1) (gSeqD 3 (gsCons (gSet 5) (gsCons (gSet 6) (gsCons (gSet 7) gsNil)))))
  (sSeq (sSetO 2 (cst (.dK [])))
  (sSeq (sSet 3 (cst (.int 0)))
  (sSeq (sFor (itr (rdE 7)) (gSet 4) breaks_a702_b1)
  (sSeq (sIf (tst (bop (rd 5) (cst (.str (Str.ofString "most"))) (dEq false))) (sRetO (bop (nop (aCons (rd 2) aNil) dLen) (rd 6) dGt)) sSkip)
  (sRetO (bop (bop (nop (aCons (rd 2) aNil) dLen) (rd 3) dAdd) (rd 6) dLt)))))))
def breaks_a702 : Den := bodyN 2 8 breaks_a702_g
end Fn
namespace Fn
open PySem DL
def law_breaks_a0c3_e1 : En → R D :=
  (rdE 4)
def law_breaks_a0c3_t2 : En → R Bool :=
  (tst (bop (rd 4) (nop (aCons (rd 0) aNil) dLen) dLt))
def law_breaks_a0c3_g : En → R Fl :=
  (sSeq (sSet 2 (lcD [4] (itr (bop (rd 1) (cst (.int 2)) dIxA)) (gSet 4) law_breaks_a0c3_t2 law_breaks_a0c3_e1))
  (sSeq (sSet 3 (nop (aCons (rdE 0) (aCons (rdE 2) aNil)) (callE Fn.law_unlike_f766)))
  (sSeq (sIf (tst (bop (bop (rd 1) (cst (.int 0)) dIxA) (cst (.str (Str.ofString "most"))) (dEq false))) (sRetO (bop (rd 3) (bop (rd 1) (cst (.int 1)) dIxA) dGt)) sSkip)
  (sRetO (bop (bop (bop (rd 3) (nop (aCons (bop (rd 1) (cst (.int 2)) dIxA) aNil) dLen) dAdd) (nop (aCons (rd 2) aNil) dLen) dSub) (bop (rd 1) (cst (.int 1)) dIxA) dLt)))))
def law_breaks_a0c3 : Den := bodyN 2 5 law_breaks_a0c3_g
end Fn
namespace Br
open PySem DL Ti Di
local macro_rules | `(tactic| walk_at "dl") => `(tactic| try simp -implicitDefEqProofs only [DL.sort_ints, DL.sum_ints, DL.in_ints, DL.idx_ok, DL.rev_lst, DL.ap_ins, DL.intB_bl, DL.intB_int, DL.itZipL_lst, DL.ap_nrmS, DL.nrm_nil, DL.nrm_cons, DL.nrm_rows, DL.nrm_lst, DL.isC_rows, DL.len_rows, DL.unR_rows, DL.unR_lst, DL.isi_rows, DL.eq_rows, DL.ap_rowM, DL.rowM_ok, DL.rowM2_ok, DL.rowM3_ok, DL.ap_row0, DL.ap_get2, DL.get2_ok, DL.row0_ok, DL.row02_ok, DL.ap_rowsApp, DL.ap_rowPut, DL.rowPut_ok, DL.rowPut2_ok, DL.ap_consL, DL.consL_ok, DL.mkRows_ap, DL.ap_lcR, DL.maxDef_ints, DL.ap_cnt, DL.cnt_ok, DL.ap_idx, DL.ap_txop, DL.tx_ok, DL.ap_jopS, DL.ap_lc, DL.ap_try, DL.try_ok, DL.try_err, DL.ap_tryAs, DL.tryAs_ok, DL.tryAs_err, DL.gone_next, DL.ap_raise, DL.ap_bodyD, DL.end_err, DL.itRev_lst, DL.itZip_lst, DL.itEnum_lst, DL.min_int, DL.max_int, DL.ap_seq, DL.seq_next, DL.seq_ret, DL.seq_brk, DL.seq_cont, DL.seq_err, DL.ap_skip, DL.ap_brk, DL.ap_cont, DL.ap_stl, DL.settle_nil, DL.settle_cons, DL.settle_t, DL.settle_f, DL.ap_if, DL.ite_t, DL.ite_f, DL.ap_set, DL.ap_setO, DL.set_ok, DL.setO_ok, DL.isC_lst, DL.isC_dK, DL.isC_dT, DL.isC_int, DL.isC_str, DL.isC_bl, DL.isC_non, DL.isC_tup, DL.ap_ret, DL.ap_retO, DL.ret_ok, DL.ap_ret0, DL.ap_unp, DL.unp_ok, DL.unp2_ok, DL.ap_drop, DL.ap_gset, DL.ap_gtup, DL.ap_glst, DL.ap_gnil, DL.ap_gcons, DL.ap_rd, DL.ap_rdE, DL.ap_rdO, DL.rd_ok, DL.rdE_ok, DL.rdO_ok, DL.rdO_f, DL.ap_cst, DL.ap_bop, DL.bd2_ok, DL.ap_uop, DL.ap_nop, DL.ap_anil, DL.ap_acons, DL.cons_ok, DL.add_int, DL.add_str, DL.add_lst, DL.sub_int, DL.rep_lst, DL.neg_int, DL.eq_int, DL.eq_str, DL.eq_bl, DL.eq_non_int, DL.eq_int_non, DL.lt_int, DL.le_int, DL.gt_int, DL.ge_int, DL.isN_ap, DL.isN_non, DL.isN_int, DL.isN_str, DL.isN_bl, DL.ap_rdL, DL.rdL_ok, DL.ap_rdF, DL.rdF_int, DL.is_bl, DL.isN_lst, DL.isN_tup, DL.asB_bl, DL.asI_int, DL.mkLst_ap, DL.mkTup_ap, DL.len_lst, DL.len_tup, DL.len_scr, DL.len_str, DL.len_dK, DL.list_lst, DL.list_tup, DL.list_scr, DL.tuple_lst, DL.flatO_int, DL.flatO_bl, DL.flatO_str, DL.flatO_non, DL.flatO_tup, DL.eNot_bl, DL.isi_int, DL.isi_bl, DL.isi_str, DL.isi_non, DL.isi_lst, DL.isi_tup, DL.isB_int_int, DL.isB_int_bl, DL.isB_int_str, DL.isB_int_non, DL.isB_int_lst, DL.isB_int_tup, DL.isB_bool_int, DL.isB_bool_bl, DL.isB_bool_str, DL.isB_bool_non, DL.isB_bool_lst, DL.isB_bool_tup, DL.isB_list_lst, DL.isB_list_int, DL.isB_list_tup, DL.isB_tuple_tup, DL.isB_tuple_lst, DL.isB_str_str, DL.isB_str_int, DL.ap_tst, DL.ap_bnot, DL.ap_band, DL.ap_bor, DL.and_t, DL.and_f, DL.or_t, DL.or_f, DL.ap_eand, DL.ap_eor, DL.eand_t, DL.eand_f, DL.eor_t, DL.eor_f, DL.ap_eif, DL.eif_t, DL.eif_f, DL.ap_chain, DL.chn0_ok, DL.chn_t, DL.chn_f, DL.ap_slc, DL.slc_ok, DL.ap_pnone, DL.ap_psome, DL.cut_lst, DL.cut_scr, DL.ap_for, DL.loop_ok, DL.ap_loop0, DL.ap_loop1, DL.lp1_ok, DL.lp2_next, DL.lp2_cont, DL.lp2_brk, DL.lp2_ret, DL.ap_itr, DL.ap_irg, DL.itD_lst, DL.itD_tup, DL.itD_scr, DL.itD_str, DL.rng1_ap, DL.rng2_ap, DL.wipe_nil, DL.wipe_cons, DL.ap_app, DL.ap_ext, DL.ap_own0, DL.own0_ok, DL.ap_put, DL.put_ok, DL.put2_ok, DL.end_ret, DL.end_next, DL.args_ap, DL.bd_ok, DL.bd_err, DL.bd_bad, DL.grd_t, DL.grd_f, DL.xorB_f, DL.xorB_t, List.map_cons, List.map_nil, List.length_cons, List.length_nil, List.length_map, List.length_append, List.length_range, List.cons_append, List.nil_append, List.append_nil, List.getElem?_cons_zero, List.getElem?_cons_succ, List.set_cons_zero, List.set_cons_succ, List.replicate_succ, List.replicate_zero, Nat.sub_zero, Nat.sub_self, Nat.add_one_sub_one, Nat.reduceAdd, Nat.reduceSub, Nat.zero_add, Option.bind_some, decide_true, decide_false, Bool.and_true, Bool.true_and, Bool.and_false, Bool.false_and, Bool.not_true, Bool.not_false, Bool.or_true, Bool.or_false, Bool.true_or, Bool.false_or, Bool.false_eq_true, ↓reduceIte, Int.reduceToNat, Int.reducePow, Int.reduceMul, Int.reduceAdd, Int.reduceSub, Int.reduceNeg, Int.reduceLT, Int.reduceLE, Nat.reducePow, Int.reduceMod, Int.reduceDiv, Int.reduceEq, Nat.reduceEqDiff, Int.natAbs_cast, DL.mod_pos, DL.div_pos, DL.dEq_ints, DL.dEq_scr, DL.dEq_scr_nil, DL.dEq_ints_nil, DL.ix_l0, DL.ix_t0, DL.ix_ls, DL.ix_ts, Nat.zero_le, Nat.reduceLeDiff, DL.small_of, DL.inR_small, DL.lt_size, DL.mul_small, DL.pow_ok, DL.app_ok, DL.ite_t])
/-! ### broken ties -/
def hereOf (ps : List Int) (ks : List Nat) : List Nat := ks.filter fun k => decide ((k : Int) < ps.length)
def breaksB (ps : List Int) (w : Str) (l : Int) (ks : List Nat) : Bool :=
  if w = most then decide (l < ((uniq (vals ps (hereOf ps ks))).length : Int)) else decide (((uniq (vals ps (hereOf ps ks))).length : Int) + (ks.length - (hereOf ps ks).length) < l)
theorem here_snoc (ps : List Int) (pre : List Nat) (k : Nat) : hereOf ps (pre ++ [k]) = if (k : Int) < ps.length then hereOf ps pre ++ [k] else hereOf ps pre := by
  unfold hereOf
  rw [List.filter_append]
  by_cases h : (k : Int) < ps.length
  · rw [if_pos h]
    simp only [List.filter_cons, List.filter_nil, h, decide_true, if_true]
  · rw [if_neg h]
    simp only [List.filter_cons, List.filter_nil, h, decide_false, if_neg Bool.false_ne_true, List.append_nil]
theorem here_len (ps : List Int) (ks : List Nat) : (hereOf ps ks).length ≤ ks.length := List.length_filter_le _ _
theorem here_lt (ps : List Int) (ks : List Nat) : ∀ k ∈ hereOf ps ks, k < ps.length := fun k hk => by
  have := of_decide_eq_true (List.mem_filter.mp hk).2
  omega
theorem breaks_eq (ps : List Int) (w : Str) (l : Int) (ks : List Nat) (hl : ks.length ≤ 1000) : ∃ o, Fn.breaks_a702 [.lst (ps.map .int), .tup [.str w, .int l, .tup (ks.map kI)]] = .ok (o, .bl (breaksB ps w l ks)) := by
  unfold Fn.breaks_a702; rw [DL.ap_body (by rfl)]; unfold Fn.breaks_a702_g
  walk_at "dl"
  obtain ⟨ρ', h1, kvs, z, h2, h3⟩ := DL.loop_at (g := gSet 4) (gb := Fn.breaks_a702_b1) kI ks
    (fun i ρ => ∃ kvs z, ρ = [some (false, .lst (ps.map .int)), some (false, .tup [.str w, .int l, .tup (ks.map kI)]), some (true, dKI kvs), some (false, .int ((i : Int) - (hereOf ps (ks.take i)).length)), z, some (false, .str w), some (false, .int l), some (false, .tup (ks.map kI))] ∧ keys kvs = uniq (vals ps (hereOf ps (ks.take i)))) _ ⟨[], none, rfl, rfl⟩ (fun i a ρ ha ⟨kvs, z, hρ, hk⟩ => by
      subst hρ
      have hi := DL.at_lt ha
      refine ⟨_, rfl, ?_⟩
      have ht : ks.take (i + 1) = ks.take i ++ [a] := by
        rw [List.take_succ_eq_append_getElem hi]
        rw [List.getElem?_eq_getElem hi] at ha
        cases ha; rfl
      rw [ht, here_snoc]
      unfold Fn.breaks_a702_b1
      rw [show kI a = .int (a : Int) from rfl]
      walk_at "dl"
      have hkl : kvs.length ≤ 1000 := by
        have e1 : kvs.length = (keys kvs).length := by unfold keys; rw [List.length_map]
        have e2 := uniq_len (vals ps (hereOf ps (ks.take i)))
        have e3 : (vals ps (hereOf ps (ks.take i))).length = (hereOf ps (ks.take i)).length := by unfold vals; rw [List.length_map]
        have e4 := here_len ps (ks.take i)
        rw [List.length_take] at e4
        rw [hk] at e1
        omega
      by_cases h : (a : Int) < ps.length
      · rw [decide_eq_true h, if_pos h]
        walk_at "dl"
        rw [look ps a (by omega)]
        walk_at "dl"
        rw [put_ki (by omega)]
        walk_at "dl"
        rw [show ((i + 1 : Nat) : Int) - (((hereOf ps (ks.take i)).length + 1 : Nat) : Int) = (i : Int) - ((hereOf ps (ks.take i)).length : Nat) by omega]
        refine ⟨_, rfl, _, _, rfl, ?_⟩
        · rw [keys_put, hk]
          unfold vals
          rw [List.map_append]
          show _ = uniq (_ ++ [ps.getD a 0])
          rw [uniq_snoc]
          by_cases hm : ps.getD a 0 ∈ (hereOf ps (ks.take i)).map fun k => ps.getD k 0
          · rw [if_pos hm, if_pos (mem_uniq.mpr hm)]
          · rw [if_neg hm, if_neg (fun z => hm (mem_uniq.mp z))]
      · rw [decide_eq_false h, if_neg h]
        walk_at "dl"
        rw [show ((i + 1 : Nat) : Int) - ((hereOf ps (ks.take i)).length : Nat) = (i : Int) - ((hereOf ps (ks.take i)).length : Nat) + 1 by omega]
        exact ⟨_, rfl, _, _, rfl, hk⟩)
  have e0 : (([] : List (Int × D)).length : Int) = 0 := rfl
  erw [h1]
  subst h2
  walk_at "dl"
  rw [List.take_length] at h3
  have hn : kvs.length = (uniq (vals ps (hereOf ps ks))).length := by rw [← h3]; unfold keys; rw [List.length_map]
  rw [List.take_length]
  unfold breaksB
  by_cases h : w = most
  · rw [decide_eq_true (show w = Str.ofString "most" from h), if_pos h]
    walk_at "dl"
    rw [len_ki]
    walk_at "dl"
    rw [hn]
    exact ⟨_, rfl⟩
  · rw [decide_eq_false (show ¬ w = Str.ofString "most" from h), if_neg h]
    walk_at "dl"
    rw [len_ki]
    walk_at "dl"
    rw [hn]
    exact ⟨_, rfl⟩
theorem law_breaks_eq (ps : List Int) (w : Str) (l : Int) (ks : List Nat) (hl : ks.length ≤ 1000) : ∃ o, Fn.law_breaks_a0c3 [.lst (ps.map .int), .tup [.str w, .int l, .tup (ks.map kI)]] = .ok (o, .bl (breaksB ps w l ks)) := by
  unfold Fn.law_breaks_a0c3; rw [DL.ap_body (by rfl)]; unfold Fn.law_breaks_a0c3_g
  walk_at "dl"
  rw [DL.lc_is (zs := (hereOf ps ks).map kI) (by rw [List.length_map]; omega) (by
    refine lc_filter kI _ _ fun k hk => ?_
    have ht : Fn.law_breaks_a0c3_t2 [some (false, D.lst (ps.map .int)), some (false, D.tup [.str w, .int l, .tup (ks.map kI)]), none, none, some (false, kI k)] = .ok (decide ((k : Int) < ps.length)) := by
      unfold Fn.law_breaks_a0c3_t2 kI
      walk_at "dl"
    cases h : decide ((k : Int) < ps.length) with
    | true =>
      rw [h] at ht
      exact DL.lcS_t rfl ht rfl
    | false =>
      rw [h] at ht
      exact DL.lcS_f rfl ht)]
  walk_at "dl"
  obtain ⟨o, h1⟩ := unlike_eq seq_lst ps (hereOf ps ks) (here_lt ps ks) (by have := here_len ps ks; omega)
  rw [DL.callE_of h1]
  walk_at "dl"
  unfold breaksB
  by_cases h : w = most
  · rw [decide_eq_true (show w = Str.ofString "most" from h), if_pos h]
    walk_at "dl"
    exact ⟨_, rfl⟩
  · rw [decide_eq_false (show ¬ w = Str.ofString "most" from h), if_neg h]
    walk_at "dl"
    exact ⟨true, congrArg (fun b => R.ok (true, D.bl b)) (by rw [decide_eq_decide]; omega)⟩
theorem pattern_eq (cs : List Int) (hl : cs.length ≤ 1000) : ∃ ps : List Int, ps.length = cs.length ∧ Fn.law_pattern_2b1b [.lst (cs.map .int)] = .ok (true, .lst (ps.map .int)) := by
  unfold Fn.law_pattern_2b1b; rw [DL.ap_body (by rfl)]; unfold Fn.law_pattern_2b1b_g
  walk_at "dl"
  obtain ⟨ρ', h1, ps, w, z, h2, h3, -⟩ := DL.loop_at (g := gSet 3) (gb := Fn.law_pattern_2b1b_b1) D.int cs
    (fun i ρ => ∃ (ps : List Int) (w : Nat) (z : DL.Slot), ρ = [some (false, .lst (cs.map .int)), some (true, .lst (ps.map .int)), some (false, .int w), z] ∧ ps.length = i ∧ w ≤ i) _ ⟨[], 0, none, rfl, rfl, Nat.le_refl _⟩ (fun i a ρ ha ⟨ps, w, z, hρ, hp, hw⟩ => by
      subst hρ
      have hi := DL.at_lt ha
      refine ⟨_, rfl, ?_⟩
      unfold Fn.law_pattern_2b1b_b1
      walk_at "dl"
      rw [DL.mod_pos (by omega)]
      walk_at "dl"
      rw [DL.app_ok (by rw [List.length_map]; omega)]
      walk_at "dl"
      rw [show dIxA (D.lst (ps.map .int ++ [D.int (a % (w + 1))])) (.int (-1)) = .ok (.int (a % (w + 1))) by
        show (match L2.atI (ps.map D.int ++ [D.int (a % (w + 1))]) (-1) with | some d => R.ok d | none => R.bad) = _
        rw [L2.atI_last]]
      walk_at "dl"
      have hm : ps.map D.int ++ [D.int (a % (w + 1))] = (ps ++ [a % ((w : Int) + 1)]).map D.int := by rw [List.map_append]; rfl
      rw [hm]
      by_cases h : a % ((w : Int) + 1) = w
      · rw [decide_eq_true h]
        walk_at "dl"
        rw [show (w : Int) + 1 = ((w + 1 : Nat) : Int) by omega]
        exact ⟨_, rfl, ps ++ [a % ((w + 1 : Nat) : Int)], w + 1, _, rfl, by rw [List.length_append, List.length_singleton, hp], by omega⟩
      · rw [decide_eq_false h]
        walk_at "dl"
        exact ⟨_, rfl, ps ++ [a % ((w : Int) + 1)], w, _, rfl, by rw [List.length_append, List.length_singleton, hp], by omega⟩)
  erw [h1]
  subst h2
  walk_at "dl"
  exact ⟨ps, h3, rfl⟩
end Br
namespace Pt
open PySem DL Ti Di Sh De Gw
local macro_rules | `(tactic| walk_at "dl") => `(tactic| try simp -implicitDefEqProofs only [DL.sort_ints, DL.sum_ints, DL.in_ints, DL.idx_ok, DL.rev_lst, DL.ap_ins, DL.intB_bl, DL.intB_int, DL.itZipL_lst, DL.ap_nrmS, DL.nrm_nil, DL.nrm_cons, DL.nrm_rows, DL.nrm_lst, DL.isC_rows, DL.len_rows, DL.unR_rows, DL.unR_lst, DL.isi_rows, DL.eq_rows, DL.ap_rowM, DL.rowM_ok, DL.rowM2_ok, DL.rowM3_ok, DL.ap_row0, DL.ap_get2, DL.get2_ok, DL.row0_ok, DL.row02_ok, DL.ap_rowsApp, DL.ap_rowPut, DL.rowPut_ok, DL.rowPut2_ok, DL.ap_consL, DL.consL_ok, DL.mkRows_ap, DL.ap_lcR, DL.maxDef_ints, DL.ap_cnt, DL.cnt_ok, DL.ap_idx, DL.ap_txop, DL.tx_ok, DL.ap_jopS, DL.ap_lc, DL.ap_try, DL.try_ok, DL.try_err, DL.ap_tryAs, DL.tryAs_ok, DL.tryAs_err, DL.gone_next, DL.ap_raise, DL.ap_bodyD, DL.end_err, DL.itRev_lst, DL.itZip_lst, DL.itEnum_lst, DL.min_int, DL.max_int, DL.ap_seq, DL.seq_next, DL.seq_ret, DL.seq_brk, DL.seq_cont, DL.seq_err, DL.ap_skip, DL.ap_brk, DL.ap_cont, DL.ap_stl, DL.settle_nil, DL.settle_cons, DL.settle_t, DL.settle_f, DL.ap_if, DL.ite_t, DL.ite_f, DL.ap_set, DL.ap_setO, DL.set_ok, DL.setO_ok, DL.isC_lst, DL.isC_dK, DL.isC_dT, DL.isC_int, DL.isC_str, DL.isC_bl, DL.isC_non, DL.isC_tup, DL.ap_ret, DL.ap_retO, DL.ret_ok, DL.ap_ret0, DL.ap_unp, DL.unp_ok, DL.unp2_ok, DL.ap_drop, DL.ap_gset, DL.ap_gtup, DL.ap_glst, DL.ap_gnil, DL.ap_gcons, DL.ap_rd, DL.ap_rdE, DL.ap_rdO, DL.rd_ok, DL.rdE_ok, DL.rdO_ok, DL.rdO_f, DL.ap_cst, DL.ap_bop, DL.bd2_ok, DL.ap_uop, DL.ap_nop, DL.ap_anil, DL.ap_acons, DL.cons_ok, DL.add_int, DL.add_str, DL.add_lst, DL.sub_int, DL.rep_lst, DL.neg_int, DL.eq_int, DL.eq_str, DL.eq_bl, DL.eq_non_int, DL.eq_int_non, DL.lt_int, DL.le_int, DL.gt_int, DL.ge_int, DL.isN_ap, DL.isN_non, DL.isN_int, DL.isN_str, DL.isN_bl, DL.ap_rdL, DL.rdL_ok, DL.ap_rdF, DL.rdF_int, DL.is_bl, DL.isN_lst, DL.isN_tup, DL.asB_bl, DL.asI_int, DL.mkLst_ap, DL.mkTup_ap, DL.len_lst, DL.len_tup, DL.len_scr, DL.len_str, DL.len_dK, DL.list_lst, DL.list_tup, DL.list_scr, DL.tuple_lst, DL.flatO_int, DL.flatO_bl, DL.flatO_str, DL.flatO_non, DL.flatO_tup, DL.eNot_bl, DL.isi_int, DL.isi_bl, DL.isi_str, DL.isi_non, DL.isi_lst, DL.isi_tup, DL.isB_int_int, DL.isB_int_bl, DL.isB_int_str, DL.isB_int_non, DL.isB_int_lst, DL.isB_int_tup, DL.isB_bool_int, DL.isB_bool_bl, DL.isB_bool_str, DL.isB_bool_non, DL.isB_bool_lst, DL.isB_bool_tup, DL.isB_list_lst, DL.isB_list_int, DL.isB_list_tup, DL.isB_tuple_tup, DL.isB_tuple_lst, DL.isB_str_str, DL.isB_str_int, DL.ap_tst, DL.ap_bnot, DL.ap_band, DL.ap_bor, DL.and_t, DL.and_f, DL.or_t, DL.or_f, DL.ap_eand, DL.ap_eor, DL.eand_t, DL.eand_f, DL.eor_t, DL.eor_f, DL.ap_eif, DL.eif_t, DL.eif_f, DL.ap_chain, DL.chn0_ok, DL.chn_t, DL.chn_f, DL.ap_slc, DL.slc_ok, DL.ap_pnone, DL.ap_psome, DL.cut_lst, DL.cut_scr, DL.ap_for, DL.loop_ok, DL.ap_loop0, DL.ap_loop1, DL.lp1_ok, DL.lp2_next, DL.lp2_cont, DL.lp2_brk, DL.lp2_ret, DL.ap_itr, DL.ap_irg, DL.itD_lst, DL.itD_tup, DL.itD_scr, DL.itD_str, DL.rng1_ap, DL.rng2_ap, DL.wipe_nil, DL.wipe_cons, DL.ap_app, DL.ap_ext, DL.ap_own0, DL.own0_ok, DL.ap_put, DL.put_ok, DL.put2_ok, DL.end_ret, DL.end_next, DL.args_ap, DL.bd_ok, DL.bd_err, DL.bd_bad, DL.grd_t, DL.grd_f, DL.xorB_f, DL.xorB_t, List.map_cons, List.map_nil, List.length_cons, List.length_nil, List.length_map, List.length_append, List.length_range, List.cons_append, List.nil_append, List.append_nil, List.getElem?_cons_zero, List.getElem?_cons_succ, List.set_cons_zero, List.set_cons_succ, List.replicate_succ, List.replicate_zero, Nat.sub_zero, Nat.sub_self, Nat.add_one_sub_one, Nat.reduceAdd, Nat.reduceSub, Nat.zero_add, Option.bind_some, decide_true, decide_false, Bool.and_true, Bool.true_and, Bool.and_false, Bool.false_and, Bool.not_true, Bool.not_false, Bool.or_true, Bool.or_false, Bool.true_or, Bool.false_or, Bool.false_eq_true, ↓reduceIte, Int.reduceToNat, Int.reducePow, Int.reduceMul, Int.reduceAdd, Int.reduceSub, Int.reduceNeg, Int.reduceLT, Int.reduceLE, Nat.reducePow, Int.reduceMod, Int.reduceDiv, Int.reduceEq, Nat.reduceEqDiff, Int.natAbs_cast, DL.mod_pos, DL.div_pos, DL.dEq_ints, DL.dEq_scr, DL.dEq_scr_nil, DL.dEq_ints_nil, DL.ix_l0, DL.ix_t0, DL.ix_ls, DL.ix_ts, Nat.zero_le, Nat.reduceLeDiff, DL.small_of, DL.inR_small, DL.lt_size, DL.mul_small, DL.pow_ok, DL.app_ok, DL.ite_t])
/-- a pattern is its own shape -/
def IsP (ps : List Int) : Prop := shapeOf ps = ps
theorem pt_num {ps : List Int} (h : IsP ps) {j : Int} (hj : j ∈ ps) : num ps j = j := by
  have h : shapeOf ps = ps := h
  unfold shapeOf at h
  obtain ⟨i, hi, e⟩ := List.getElem_of_mem hj
  have h2 : (ps.map (num ps))[i]? = ps[i]? := by rw [h]
  rw [List.getElem?_map, List.getElem?_eq_getElem hi] at h2
  injection h2 with h2
  rw [e] at h2
  exact h2
theorem pt_mem {ps : List Int} (h : IsP ps) {j : Int} (h0 : 0 ≤ j) (h1 : j < (U ps : Int)) : j ∈ ps := by
  have hlt : j.toNat < (uniq ps).length := by unfold U at h1; omega
  have hy : (uniq ps)[j.toNat] ∈ ps := mem_uniq.mp (List.getElem_mem hlt)
  have e := pt_num h hy
  have e2 : num ps (uniq ps)[j.toNat] = (j.toNat : Int) := by
    unfold num
    have h3 := List.idxOf_lt_length_of_mem (List.getElem_mem hlt)
    have h4 := (List.getElem_inj (uniq_nodup ps)).mp (List.getElem_idxOf h3)
    rw [h4]
  rw [e2] at e
  have : (uniq ps)[j.toNat] = j := by rw [← e]; omega
  rw [this] at hy
  exact hy
theorem pt_W {ps : List Int} (h : IsP ps) : W ps = (U ps : Int) := by
  have h2 : shapeOf ps = ps := h
  have := W_shape ps
  rwa [h2] at this
theorem pt_snoc {ps : List Int} (h : IsP ps) {j : Int} (h0 : 0 ≤ j) (h1 : j ≤ W ps) : IsP (ps ++ [j]) := by
  have h2 : shapeOf ps = ps := h
  rw [pt_W h] at h1
  unfold IsP
  rw [shape_snoc, h2]
  by_cases hm : j ∈ ps
  · rw [num_app hm, pt_num h hm]
  · rw [num_new hm]
    have : ¬ j < (U ps : Int) := fun z => hm (pt_mem h h0 z)
    unfold U at this h1
    rw [show ((uniq ps).length : Int) = j by omega]
theorem pt_lt {ps : List Int} (h : IsP ps) {j : Int} (hj : j ∈ ps) : 0 ≤ j ∧ j < (U ps : Int) := by
  have e := pt_num h hj
  obtain ⟨h1, h2⟩ := num_lt hj
  omega
theorem U_snoc (ps : List Int) (j : Int) : U (ps ++ [j]) = if j ∈ ps then U ps else U ps + 1 := by
  unfold U
  rw [uniq_snoc]
  split
  · rfl
  · rw [List.length_append]; rfl
theorem pt_new {ps : List Int} (h : IsP ps) {j : Int} (h0 : 0 ≤ j) (h1 : j ≤ (U ps : Int)) : (j ∈ ps ↔ j < (U ps : Int)) := ⟨fun hj => (pt_lt h hj).2, fun hj => pt_mem h h0 hj⟩
theorem pt_nil : IsP [] := rfl
/-- a pattern of the law's own making -/
theorem pattern_pt (cs : List Int) (hl : cs.length ≤ 1000) : ∃ ps : List Int, ps.length = cs.length ∧ IsP ps ∧ Fn.law_pattern_2b1b [.lst (cs.map .int)] = .ok (true, .lst (ps.map .int)) := by
  unfold Fn.law_pattern_2b1b; rw [DL.ap_body (by rfl)]; unfold Fn.law_pattern_2b1b_g
  walk_at "dl"
  obtain ⟨ρ', h1, ps, z, hlen, hp, h2⟩ := DL.loop_at (g := gSet 3) (gb := Fn.law_pattern_2b1b_b1) D.int cs
    (fun i ρ => ∃ (ps : List Int) (z : DL.Slot), ps.length = i ∧ IsP ps ∧ ρ = [some (false, .lst (cs.map .int)), some (true, .lst (ps.map .int)), some (false, .int (U ps : Nat)), z]) _ ⟨[], none, rfl, rfl, rfl⟩ (fun i c ρ hc ⟨ps, z, hlen, hp, hρ⟩ => by
      subst hρ
      have hi := DL.at_lt hc
      have hU : U ps ≤ ps.length := U_le fun x hx => hx
      refine ⟨_, rfl, ?_⟩
      unfold Fn.law_pattern_2b1b_b1
      walk_at "dl"
      rw [DL.mod_pos (by omega)]
      walk_at "dl"
      have q1 := Int.emod_nonneg c (show (U ps : Int) + 1 ≠ 0 by omega)
      have q2 := Int.emod_lt_of_pos c (show (0 : Int) < (U ps : Int) + 1 by omega)
      generalize c % ((U ps : Int) + 1) = j at q1 q2 ⊢
      rw [DL.app_ok (by rw [List.length_map]; omega)]
      walk_at "dl"
      have hx : dIxA (.lst (ps.map .int ++ [.int j])) (.int (-1)) = .ok (.int j) := by
        show (match L2.atI (ps.map D.int ++ [D.int j]) (-1) with | some d => R.ok d | none => R.bad) = _
        rw [L2.atI_last]
      rw [hx]
      walk_at "dl"
      have hps := pt_snoc hp q1 (by rw [pt_W hp]; omega)
      have hnew := pt_new hp q1 (by omega)
      by_cases hj : j = (U ps : Int)
      · rw [decide_eq_true hj]
        walk_at "dl"
        refine ⟨_, rfl, ps ++ [j], some (false, .int c), by rw [List.length_append, List.length_singleton, hlen], hps, ?_⟩
        rw [List.map_append, U_snoc, if_neg (fun z => by have := hnew.mp z; omega)]
        rfl
      · rw [decide_eq_false hj]
        walk_at "dl"
        refine ⟨_, rfl, ps ++ [j], some (false, .int c), by rw [List.length_append, List.length_singleton, hlen], hps, ?_⟩
        rw [List.map_append, U_snoc, if_pos (hnew.mpr (by omega))]
        rfl)
  erw [h1]
  subst h2
  walk_at "dl"
  exact ⟨ps, hlen, hp, rfl⟩
end Pt
namespace Fn
open PySem DL
def common_38af_e1 (ds : List D) : En → R D :=
  (rdE 2)
def common_38af_t2 (ds : List D) : En → R Bool :=
  (tst (bop (rd 2) (rdL ds 1) (dIn false)))
def common_38af_g (ds : List D) : En → R Fl :=
  (sRetO (lcD [2] (itr (rdL ds 0)) (gSet 2) (common_38af_t2 ds) (common_38af_e1 ds)))
def common_38af : Den := bodyV 2 3 common_38af_g
end Fn
namespace Fn
open PySem DL
def pools_of_5f44_b1 : En → R Fl :=
  (sIf (tst (bop (rd 4) (nop (aCons (rd 2) aNil) dLen) (dEq false))) (sRowsApp 2 (nop (aCons (bop (rd 1) (rd 3) dIxA) aNil) dList)) (sRowPut 2 (nop (aCons (bop (rd 2) (rd 4) dIxR) (aCons (bop (rd 1) (rd 3) dIxA) aNil)) (callO Fn.common_38af)) (rd 4)))
def pools_of_5f44_g : En → R Fl :=
  (sSeq (sSetO 2 (nop aNil mkRows))
  (sSeq (sFor (irg (aCons (rdE 0) aNil) itEnum) (gSeqD 2 (gsCons (gSet 3) (gsCons (gSet 4) gsNil))) pools_of_5f44_b1)
  (sRetO (rdO 2))))
def pools_of_5f44 : Den := bodyN 2 5 pools_of_5f44_g
end Fn
namespace Fn
open PySem DL
def law_numbers_c7ce_e1 (ds : List D) : En → R D :=
  (rdE 2)
def law_numbers_c7ce_t2 (ds : List D) : En → R Bool :=
  (tst (nop (aCons (rdE 2) aNil) (callO Fn.law_whole_9e39)))
def law_numbers_c7ce_g (ds : List D) : En → R Fl :=
  (sSeq (sIf (bOr (bNot (tst (uop (rdL ds 0) (isiD "list")))) (tst (bop (rdL ds 0) (rdL ds 1) (dEq true)))) (sRetO (cst (.bl false))) sSkip)
  (sRetO (bop (nop (aCons (lcD [2] (itr (rdL ds 0)) (gSet 2) (law_numbers_c7ce_t2 ds) (law_numbers_c7ce_e1 ds)) aNil) dLen) (nop (aCons (rdL ds 1) aNil) dLen) (dEq false))))
def law_numbers_c7ce : Den := bodyV 2 3 law_numbers_c7ce_g
end Fn
namespace Nu
open PySem DL Ti
local macro_rules | `(tactic| walk_at "dl") => `(tactic| try simp -implicitDefEqProofs only [DL.sort_ints, DL.sum_ints, DL.in_ints, DL.idx_ok, DL.rev_lst, DL.ap_ins, DL.intB_bl, DL.intB_int, DL.itZipL_lst, DL.ap_nrmS, DL.nrm_nil, DL.nrm_cons, DL.nrm_rows, DL.nrm_lst, DL.isC_rows, DL.len_rows, DL.unR_rows, DL.unR_lst, DL.isi_rows, DL.eq_rows, DL.ap_rowM, DL.rowM_ok, DL.rowM2_ok, DL.rowM3_ok, DL.ap_row0, DL.ap_get2, DL.get2_ok, DL.row0_ok, DL.row02_ok, DL.ap_rowsApp, DL.ap_rowPut, DL.rowPut_ok, DL.rowPut2_ok, DL.ap_consL, DL.consL_ok, DL.mkRows_ap, DL.ap_lcR, DL.maxDef_ints, DL.ap_cnt, DL.cnt_ok, DL.ap_idx, DL.ap_txop, DL.tx_ok, DL.ap_jopS, DL.ap_lc, DL.ap_try, DL.try_ok, DL.try_err, DL.ap_tryAs, DL.tryAs_ok, DL.tryAs_err, DL.gone_next, DL.ap_raise, DL.ap_bodyD, DL.end_err, DL.itRev_lst, DL.itZip_lst, DL.itEnum_lst, DL.min_int, DL.max_int, DL.ap_seq, DL.seq_next, DL.seq_ret, DL.seq_brk, DL.seq_cont, DL.seq_err, DL.ap_skip, DL.ap_brk, DL.ap_cont, DL.ap_stl, DL.settle_nil, DL.settle_cons, DL.settle_t, DL.settle_f, DL.ap_if, DL.ite_t, DL.ite_f, DL.ap_set, DL.ap_setO, DL.set_ok, DL.setO_ok, DL.isC_lst, DL.isC_dK, DL.isC_dT, DL.isC_int, DL.isC_str, DL.isC_bl, DL.isC_non, DL.isC_tup, DL.ap_ret, DL.ap_retO, DL.ret_ok, DL.ap_ret0, DL.ap_unp, DL.unp_ok, DL.unp2_ok, DL.ap_drop, DL.ap_gset, DL.ap_gtup, DL.ap_glst, DL.ap_gnil, DL.ap_gcons, DL.ap_rd, DL.ap_rdE, DL.ap_rdO, DL.rd_ok, DL.rdE_ok, DL.rdO_ok, DL.rdO_f, DL.ap_cst, DL.ap_bop, DL.bd2_ok, DL.ap_uop, DL.ap_nop, DL.ap_anil, DL.ap_acons, DL.cons_ok, DL.add_int, DL.add_str, DL.add_lst, DL.sub_int, DL.rep_lst, DL.neg_int, DL.eq_int, DL.eq_str, DL.eq_bl, DL.eq_non_int, DL.eq_int_non, DL.lt_int, DL.le_int, DL.gt_int, DL.ge_int, DL.isN_ap, DL.isN_non, DL.isN_int, DL.isN_str, DL.isN_bl, DL.ap_rdL, DL.rdL_ok, DL.ap_rdF, DL.rdF_int, DL.is_bl, DL.isN_lst, DL.isN_tup, DL.asB_bl, DL.asI_int, DL.mkLst_ap, DL.mkTup_ap, DL.len_lst, DL.len_tup, DL.len_scr, DL.len_str, DL.len_dK, DL.list_lst, DL.list_tup, DL.list_scr, DL.tuple_lst, DL.flatO_int, DL.flatO_bl, DL.flatO_str, DL.flatO_non, DL.flatO_tup, DL.eNot_bl, DL.isi_int, DL.isi_bl, DL.isi_str, DL.isi_non, DL.isi_lst, DL.isi_tup, DL.isB_int_int, DL.isB_int_bl, DL.isB_int_str, DL.isB_int_non, DL.isB_int_lst, DL.isB_int_tup, DL.isB_bool_int, DL.isB_bool_bl, DL.isB_bool_str, DL.isB_bool_non, DL.isB_bool_lst, DL.isB_bool_tup, DL.isB_list_lst, DL.isB_list_int, DL.isB_list_tup, DL.isB_tuple_tup, DL.isB_tuple_lst, DL.isB_str_str, DL.isB_str_int, DL.ap_tst, DL.ap_bnot, DL.ap_band, DL.ap_bor, DL.and_t, DL.and_f, DL.or_t, DL.or_f, DL.ap_eand, DL.ap_eor, DL.eand_t, DL.eand_f, DL.eor_t, DL.eor_f, DL.ap_eif, DL.eif_t, DL.eif_f, DL.ap_chain, DL.chn0_ok, DL.chn_t, DL.chn_f, DL.ap_slc, DL.slc_ok, DL.ap_pnone, DL.ap_psome, DL.cut_lst, DL.cut_scr, DL.ap_for, DL.loop_ok, DL.ap_loop0, DL.ap_loop1, DL.lp1_ok, DL.lp2_next, DL.lp2_cont, DL.lp2_brk, DL.lp2_ret, DL.ap_itr, DL.ap_irg, DL.itD_lst, DL.itD_tup, DL.itD_scr, DL.itD_str, DL.rng1_ap, DL.rng2_ap, DL.wipe_nil, DL.wipe_cons, DL.ap_app, DL.ap_ext, DL.ap_own0, DL.own0_ok, DL.ap_put, DL.put_ok, DL.put2_ok, DL.end_ret, DL.end_next, DL.args_ap, DL.bd_ok, DL.bd_err, DL.bd_bad, DL.grd_t, DL.grd_f, DL.xorB_f, DL.xorB_t, List.map_cons, List.map_nil, List.length_cons, List.length_nil, List.length_map, List.length_append, List.length_range, List.cons_append, List.nil_append, List.append_nil, List.getElem?_cons_zero, List.getElem?_cons_succ, List.set_cons_zero, List.set_cons_succ, List.replicate_succ, List.replicate_zero, Nat.sub_zero, Nat.sub_self, Nat.add_one_sub_one, Nat.reduceAdd, Nat.reduceSub, Nat.zero_add, Option.bind_some, decide_true, decide_false, Bool.and_true, Bool.true_and, Bool.and_false, Bool.false_and, Bool.not_true, Bool.not_false, Bool.or_true, Bool.or_false, Bool.true_or, Bool.false_or, Bool.false_eq_true, ↓reduceIte, Int.reduceToNat, Int.reducePow, Int.reduceMul, Int.reduceAdd, Int.reduceSub, Int.reduceNeg, Int.reduceLT, Int.reduceLE, Nat.reducePow, Int.reduceMod, Int.reduceDiv, Int.reduceEq, Nat.reduceEqDiff, Int.natAbs_cast, DL.mod_pos, DL.div_pos, DL.dEq_ints, DL.dEq_scr, DL.dEq_scr_nil, DL.dEq_ints_nil, DL.ix_l0, DL.ix_t0, DL.ix_ls, DL.ix_ts, Nat.zero_le, Nat.reduceLeDiff, DL.small_of, DL.inR_small, DL.lt_size, DL.mul_small, DL.pow_ok, DL.app_ok, DL.ite_t])
theorem whole_eq (n : Int) : ∃ o, Fn.law_whole_9e39 [.int n] = .ok (o, .bl true) := by
  unfold Fn.law_whole_9e39; rw [DL.ap_body (by rfl)]; unfold Fn.law_whole_9e39_g
  walk_at "dl"
  exact ⟨_, rfl⟩
theorem numbers_eq (l : List Int) (hl : l.length ≤ 1000) : ∃ o, Fn.law_numbers_c7ce [.lst (l.map .int), .lst (l.map .int)] = .ok (o, .bl true) := by
  unfold Fn.law_numbers_c7ce; rw [DL.ap_bodyV (by rfl)]; unfold Fn.law_numbers_c7ce_g
  rw [show List.replicate (2 + (3 - 2)) (none : DL.Slot) = [none, none, none] from rfl]
  walk_at "dl"
  rw [DL.lc_is (zs := l.map .int) (by rw [List.length_map]; omega) (by
    have := lc_fmap (g := gSet 2) (t := Fn.law_numbers_c7ce_t2 [.lst (l.map .int), .lst (l.map .int)]) (f := Fn.law_numbers_c7ce_e1 [.lst (l.map .int), .lst (l.map .int)]) (ρ := [none, none, none]) D.int D.int (fun _ => true) l (fun k hk => by
      refine lc_one rfl ?_ fun h => rfl
      obtain ⟨o, e⟩ := whole_eq k
      unfold Fn.law_numbers_c7ce_t2
      walk_at "dl"
      rw [DL.callO_flat e rfl]
      walk_at "dl")
    rw [List.filter_eq_self.mpr (fun _ _ => rfl)] at this
    exact this)]
  walk_at "dl"
  exact ⟨_, rfl⟩
end Nu
namespace Fn
open PySem DL
def law_menu_2938_b1 : En → R Fl :=
  (sSeq (sSet 5 (nop (aCons (rdE 0) (aCons (bop (rd 1) (rd 4) dAdd) aNil)) (callE Fn.law_cell_547d)))
  (sAppend 3 (bop (cst (.int 1)) (bop (bop (rd 5) (cst (.int 3)) dDiv) (bop (nop (aCons (cst (.int 7)) (aCons (cst (.int 30)) (aCons (bop (cst (.int 10)) (cst (.int 18)) dPow) aNil))) mkLst) (bop (rd 5) (cst (.int 3)) dMod) dIxA) dMod) dAdd)))
def law_menu_2938_g : En → R Fl :=
  (sSeq (sSetO 3 (nop aNil mkLst))
  (sSeq (sFor (irg (aCons (rd 2) aNil) rng1) (gSet 4) law_menu_2938_b1)
  (sRetO (nop (aCons (rd 3) aNil) sortS))))
def law_menu_2938 : Den := bodyN 3 6 law_menu_2938_g
end Fn
namespace Fn
open PySem DL
def law_bond_8e48_e1 : En → R D :=
  (rdE 5)
def law_bond_8e48_t2 : En → R Bool :=
  (tst (bop (bop (bop (rd 2) (bop (nop (aCons (cst (.int 1)) (aCons (cst (.int 2)) (aCons (cst (.int 4)) (aCons (cst (.int 8)) (aCons (cst (.int 16)) (aCons (cst (.int 32)) aNil)))))) mkLst) (rd 5) dIxA) dDiv) (cst (.int 2)) dMod) (cst (.int 1)) (dEq false)))
def law_bond_8e48_g : En → R Fl :=
  (sSeq (sSet 2 (bop (cst (.int 1)) (bop (bop (rd 0) (cst (.int 12)) dDiv) (bop (nop (aCons (cst (.int 1)) (aCons (cst (.int 3)) (aCons (cst (.int 7)) (aCons (cst (.int 15)) (aCons (cst (.int 31)) (aCons (cst (.int 63)) aNil)))))) mkLst) (bop (rd 1) (cst (.int 1)) dSub) dIxA) dMod) dAdd))
  (sSeq (sSet 3 (lcD [5] (irg (aCons (rd 1) aNil) rng1) (gSet 5) law_bond_8e48_t2 law_bond_8e48_e1))
  (sSeq (sSet 4 (bop (cst (.int 1)) (bop (bop (rd 0) (cst (.int 2)) dDiv) (cst (.int 6)) dMod) dAdd))
  (sSeq (sIf (tst (bop (bop (bop (rd 0) (cst (.int 1000)) dDiv) (cst (.int 8)) dMod) (cst (.int 0)) dGt)) (sSet 4 (bop (cst (.int 1)) (bop (bop (rd 4) (cst (.int 1)) dSub) (nop (aCons (rd 3) aNil) dLen) dMod) dAdd)) sSkip)
  (sRetO (nop (aCons (bop (nop (aCons (cst (.str (Str.ofString "most"))) (aCons (cst (.str (Str.ofString "least"))) aNil)) mkLst) (bop (rd 0) (cst (.int 2)) dMod) dIxA) (aCons (rdE 4) (aCons (nop (aCons (rd 3) aNil) dTuple) aNil))) mkTup))))))
def law_bond_8e48 : Den := bodyN 2 6 law_bond_8e48_g
end Fn
namespace Fn
open PySem DL
def law_drawn_8e11_e1 : En → R D :=
  (nop (aCons (rd 3) aNil) dList)
def law_drawn_8e11_b2 : En → R Fl :=
  (sSeq (sSet 9 (nop (aCons (rdE 0) (aCons (rdE 8) aNil)) (callE Fn.law_cell_547d)))
  (sSeq (sSet 10 (bop (rd 3) (bop (bop (rd 9) (rd 5) dDiv) (nop (aCons (rd 3) aNil) dLen) dMod) dIxA))
  (sIf (bAnd (tst (bop (bop (rd 9) (rd 5) dMod) (cst (.int 0)) (dEq false))) (tst (bop (nop (aCons (rd 7) aNil) dLen) (cst (.int 12)) dLt))) (sAppend 7 (nop (aCons (bop (rd 9) (rd 5) dDiv) (aCons (rdE 4) aNil)) (callE Fn.law_bond_8e48))) (sIf (tst (bop (rd 10) (bop (rd 6) (bop (rd 8) (rd 4) dMod) dIxR) (dIn false))) (sRowM 6 (bop (rd 8) (rd 4) dMod) (rd 10) wRemove) (sRowM 6 (bop (rd 8) (rd 4) dMod) (rdE 10) wAppend)))))
def law_drawn_8e11_e3 : En → R D :=
  (nop (aCons (rd 11) aNil) dSorted)
def law_drawn_8e11_g : En → R Fl :=
  (sSeq (sSet 2 (nop (aCons (rdE 0) (aCons (cst (.int 0)) aNil)) (callE Fn.law_cell_547d)))
  (sSeq (sSet 3 (nop (aCons (rdE 0) (aCons (cst (.int 1)) (aCons (bop (nop (aCons (cst (.int 3)) (aCons (cst (.int 5)) (aCons (cst (.int 5)) (aCons (cst (.int 8)) aNil)))) mkLst) (bop (bop (rd 2) (cst (.int 24)) dDiv) (cst (.int 4)) dMod) dIxA) aNil))) (callE Fn.law_menu_2938)))
  (sSeq (sSet 4 (nop (aCons (rd 1) (aCons (bop (nop (aCons (cst (.int 1)) (aCons (cst (.int 2)) (aCons (cst (.int 3)) (aCons (cst (.int 4)) (aCons (cst (.int 4)) (aCons (cst (.int 5)) (aCons (cst (.int 3)) (aCons (cst (.int 6)) aNil)))))))) mkLst) (bop (rd 2) (cst (.int 8)) dMod) dIxA) aNil)) dMin))
  (sSeq (sSet 5 (bop (nop (aCons (cst (.int 6)) (aCons (cst (.int 14)) (aCons (cst (.int 40)) aNil))) mkLst) (bop (bop (rd 2) (cst (.int 8)) dDiv) (cst (.int 3)) dMod) dIxA))
  (sSeq (sSetO 6 (lcR [8] (irg (aCons (rd 4) aNil) rng1) (gSet 8) tYesD law_drawn_8e11_e1))
  (sSeq (sSetO 7 (nop aNil mkLst))
  (sSeq (sFor (irg (aCons (cst (.int 9)) (aCons (nop (aCons (nop (aCons (rd 0) aNil) dLen) (aCons (cst (.int 21)) aNil)) dMax) aNil)) rng2) (gSet 8) law_drawn_8e11_b2)
  (sNrm [6] (sStl [7] (sRetO (nop (aCons (rdE 3) (aCons (lcD [11] (itr (rd 6)) (gSet 11) tYesD law_drawn_8e11_e3) (aCons (rdE 7) aNil))) mkLst)))))))))))
def law_drawn_8e11 : Den := bodyN 2 12 law_drawn_8e11_g
end Fn
namespace Bo
open PySem DL Ti
local macro_rules | `(tactic| walk_at "dl") => `(tactic| try simp -implicitDefEqProofs only [DL.sort_ints, DL.sum_ints, DL.in_ints, DL.idx_ok, DL.rev_lst, DL.ap_ins, DL.intB_bl, DL.intB_int, DL.itZipL_lst, DL.ap_nrmS, DL.nrm_nil, DL.nrm_cons, DL.nrm_rows, DL.nrm_lst, DL.isC_rows, DL.len_rows, DL.unR_rows, DL.unR_lst, DL.isi_rows, DL.eq_rows, DL.ap_rowM, DL.rowM_ok, DL.rowM2_ok, DL.rowM3_ok, DL.ap_row0, DL.ap_get2, DL.get2_ok, DL.row0_ok, DL.row02_ok, DL.ap_rowsApp, DL.ap_rowPut, DL.rowPut_ok, DL.rowPut2_ok, DL.ap_consL, DL.consL_ok, DL.mkRows_ap, DL.ap_lcR, DL.maxDef_ints, DL.ap_cnt, DL.cnt_ok, DL.ap_idx, DL.ap_txop, DL.tx_ok, DL.ap_jopS, DL.ap_lc, DL.ap_try, DL.try_ok, DL.try_err, DL.ap_tryAs, DL.tryAs_ok, DL.tryAs_err, DL.gone_next, DL.ap_raise, DL.ap_bodyD, DL.end_err, DL.itRev_lst, DL.itZip_lst, DL.itEnum_lst, DL.min_int, DL.max_int, DL.ap_seq, DL.seq_next, DL.seq_ret, DL.seq_brk, DL.seq_cont, DL.seq_err, DL.ap_skip, DL.ap_brk, DL.ap_cont, DL.ap_stl, DL.settle_nil, DL.settle_cons, DL.settle_t, DL.settle_f, DL.ap_if, DL.ite_t, DL.ite_f, DL.ap_set, DL.ap_setO, DL.set_ok, DL.setO_ok, DL.isC_lst, DL.isC_dK, DL.isC_dT, DL.isC_int, DL.isC_str, DL.isC_bl, DL.isC_non, DL.isC_tup, DL.ap_ret, DL.ap_retO, DL.ret_ok, DL.ap_ret0, DL.ap_unp, DL.unp_ok, DL.unp2_ok, DL.ap_drop, DL.ap_gset, DL.ap_gtup, DL.ap_glst, DL.ap_gnil, DL.ap_gcons, DL.ap_rd, DL.ap_rdE, DL.ap_rdO, DL.rd_ok, DL.rdE_ok, DL.rdO_ok, DL.rdO_f, DL.ap_cst, DL.ap_bop, DL.bd2_ok, DL.ap_uop, DL.ap_nop, DL.ap_anil, DL.ap_acons, DL.cons_ok, DL.add_int, DL.add_str, DL.add_lst, DL.sub_int, DL.rep_lst, DL.neg_int, DL.eq_int, DL.eq_str, DL.eq_bl, DL.eq_non_int, DL.eq_int_non, DL.lt_int, DL.le_int, DL.gt_int, DL.ge_int, DL.isN_ap, DL.isN_non, DL.isN_int, DL.isN_str, DL.isN_bl, DL.ap_rdL, DL.rdL_ok, DL.ap_rdF, DL.rdF_int, DL.is_bl, DL.isN_lst, DL.isN_tup, DL.asB_bl, DL.asI_int, DL.mkLst_ap, DL.mkTup_ap, DL.len_lst, DL.len_tup, DL.len_scr, DL.len_str, DL.len_dK, DL.list_lst, DL.list_tup, DL.list_scr, DL.tuple_lst, DL.flatO_int, DL.flatO_bl, DL.flatO_str, DL.flatO_non, DL.flatO_tup, DL.eNot_bl, DL.isi_int, DL.isi_bl, DL.isi_str, DL.isi_non, DL.isi_lst, DL.isi_tup, DL.isB_int_int, DL.isB_int_bl, DL.isB_int_str, DL.isB_int_non, DL.isB_int_lst, DL.isB_int_tup, DL.isB_bool_int, DL.isB_bool_bl, DL.isB_bool_str, DL.isB_bool_non, DL.isB_bool_lst, DL.isB_bool_tup, DL.isB_list_lst, DL.isB_list_int, DL.isB_list_tup, DL.isB_tuple_tup, DL.isB_tuple_lst, DL.isB_str_str, DL.isB_str_int, DL.ap_tst, DL.ap_bnot, DL.ap_band, DL.ap_bor, DL.and_t, DL.and_f, DL.or_t, DL.or_f, DL.ap_eand, DL.ap_eor, DL.eand_t, DL.eand_f, DL.eor_t, DL.eor_f, DL.ap_eif, DL.eif_t, DL.eif_f, DL.ap_chain, DL.chn0_ok, DL.chn_t, DL.chn_f, DL.ap_slc, DL.slc_ok, DL.ap_pnone, DL.ap_psome, DL.cut_lst, DL.cut_scr, DL.ap_for, DL.loop_ok, DL.ap_loop0, DL.ap_loop1, DL.lp1_ok, DL.lp2_next, DL.lp2_cont, DL.lp2_brk, DL.lp2_ret, DL.ap_itr, DL.ap_irg, DL.itD_lst, DL.itD_tup, DL.itD_scr, DL.itD_str, DL.rng1_ap, DL.rng2_ap, DL.wipe_nil, DL.wipe_cons, DL.ap_app, DL.ap_ext, DL.ap_own0, DL.own0_ok, DL.ap_put, DL.put_ok, DL.put2_ok, DL.end_ret, DL.end_next, DL.args_ap, DL.bd_ok, DL.bd_err, DL.bd_bad, DL.grd_t, DL.grd_f, DL.xorB_f, DL.xorB_t, List.map_cons, List.map_nil, List.length_cons, List.length_nil, List.length_map, List.length_append, List.length_range, List.cons_append, List.nil_append, List.append_nil, List.getElem?_cons_zero, List.getElem?_cons_succ, List.set_cons_zero, List.set_cons_succ, List.replicate_succ, List.replicate_zero, Nat.sub_zero, Nat.sub_self, Nat.add_one_sub_one, Nat.reduceAdd, Nat.reduceSub, Nat.zero_add, Option.bind_some, decide_true, decide_false, Bool.and_true, Bool.true_and, Bool.and_false, Bool.false_and, Bool.not_true, Bool.not_false, Bool.or_true, Bool.or_false, Bool.true_or, Bool.false_or, Bool.false_eq_true, ↓reduceIte, Int.reduceToNat, Int.reducePow, Int.reduceMul, Int.reduceAdd, Int.reduceSub, Int.reduceNeg, Int.reduceLT, Int.reduceLE, Nat.reducePow, Int.reduceMod, Int.reduceDiv, Int.reduceEq, Nat.reduceEqDiff, Int.natAbs_cast, DL.mod_pos, DL.div_pos, DL.dEq_ints, DL.dEq_scr, DL.dEq_scr_nil, DL.dEq_ints_nil, DL.ix_l0, DL.ix_t0, DL.ix_ls, DL.ix_ts, Nat.zero_le, Nat.reduceLeDiff, DL.small_of, DL.inR_small, DL.lt_size, DL.mul_small, DL.pow_ok, DL.app_ok, DL.ite_t])
abbrev Tie := Str × Int × List Nat
def dT (t : Tie) : D := .tup [.str t.1, .int t.2.1, .tup (t.2.2.map kI)]
/-- a tie of the first m steps -/
structure TieOk (m : Nat) (t : Tie) : Prop where
  word : t.1 = most ∨ t.1 = least
  lo : 1 ≤ t.2.1
  hi : t.2.1 ≤ 6
  ne : t.2.2 ≠ []
  sub : t.2.2.Sublist (List.range m)
theorem TieOk.lt {m : Nat} {t : Tie} (h : TieOk m t) : ∀ k ∈ t.2.2, k < m := fun k hk => List.mem_range.mp (h.sub.subset hk)
theorem TieOk.nd {m : Nat} {t : Tie} (h : TieOk m t) : t.2.2.Nodup := h.sub.nodup List.nodup_range
theorem TieOk.len {m : Nat} {t : Tie} (h : TieOk m t) : t.2.2.length ≤ m := by
  have := h.sub.length_le
  rwa [List.length_range] at this
theorem bit_some (N : Int) (m : Nat) (h1 : 1 ≤ N) (hm : 1 ≤ m) (h6 : m ≤ 6) (h2 : N < 2 ^ m) : ∃ k : Nat, k < m ∧ N / 2 ^ k % 2 = 1 := by
  by_cases h : ∃ k : Nat, k < m ∧ N / 2 ^ k % 2 = 1
  · exact h
  · exfalso
    have g : ∀ k : Nat, k < m → ¬ N / 2 ^ k % 2 = 1 := fun k hk e => h ⟨k, hk, e⟩
    rcases (by omega : m = 1 ∨ m = 2 ∨ m = 3 ∨ m = 4 ∨ m = 5 ∨ m = 6) with e | e | e | e | e | e <;> subst e
    · have g0 := g 0 (by omega)
      omega
    · have g0 := g 0 (by omega)
      have g1 := g 1 (by omega)
      omega
    · have g0 := g 0 (by omega)
      have g1 := g 1 (by omega)
      have g2 := g 2 (by omega)
      omega
    · have g0 := g 0 (by omega)
      have g1 := g 1 (by omega)
      have g2 := g 2 (by omega)
      have g3 := g 3 (by omega)
      omega
    · have g0 := g 0 (by omega)
      have g1 := g 1 (by omega)
      have g2 := g 2 (by omega)
      have g3 := g 3 (by omega)
      have g4 := g 4 (by omega)
      omega
    · have g0 := g 0 (by omega)
      have g1 := g 1 (by omega)
      have g2 := g 2 (by omega)
      have g3 := g 3 (by omega)
      have g4 := g 4 (by omega)
      have g5 := g 5 (by omega)
      omega
theorem bond_eq (c m : Int) (h1 : 1 ≤ m) (h6 : m ≤ 6) : ∃ (o : Bool) (t : Tie), Fn.law_bond_8e48 [.int c, .int m] = .ok (o, dT t) ∧ TieOk m.toNat t := by
  unfold Fn.law_bond_8e48; rw [DL.ap_body (by rfl)]; unfold Fn.law_bond_8e48_g
  walk_at "dl"
  have hb : ∃ b : Int, 0 < b ∧ b = 2 ^ m.toNat - 1 ∧ dIxA (D.lst [.int 1, .int 3, .int 7, .int 15, .int 31, .int 63]) (.int (m - 1)) = .ok (.int b) := by
    rcases (by omega : m = 1 ∨ m = 2 ∨ m = 3 ∨ m = 4 ∨ m = 5 ∨ m = 6) with h | h | h | h | h | h <;> subst h
    · exact ⟨1, by omega, by decide, rfl⟩
    · exact ⟨3, by omega, by decide, rfl⟩
    · exact ⟨7, by omega, by decide, rfl⟩
    · exact ⟨15, by omega, by decide, rfl⟩
    · exact ⟨31, by omega, by decide, rfl⟩
    · exact ⟨63, by omega, by decide, rfl⟩
  obtain ⟨b, hb, hb3, hb2⟩ := hb
  rw [hb2]
  walk_at "dl"
  rw [DL.mod_pos hb]
  walk_at "dl"
  have q1 := Int.emod_nonneg (c / 12) (show b ≠ 0 by omega)
  have q2 := Int.emod_lt_of_pos (c / 12) hb
  generalize c / 12 % b = M at q1 q2 ⊢
  rw [inR_small (by omega) (by omega)]
  walk_at "dl"
  have hL : ∀ k : Nat, k < m.toNat → dIxA (D.lst [.int 1, .int 2, .int 4, .int 8, .int 16, .int 32]) (.int (k : Int)) = .ok (.int (2 ^ k)) := by
    intro k hk
    rcases (by omega : k = 0 ∨ k = 1 ∨ k = 2 ∨ k = 3 ∨ k = 4 ∨ k = 5) with h | h | h | h | h | h <;> subst h <;> rfl
  have h2k : ∀ k : Nat, k < m.toNat → (0 : Int) < 2 ^ k ∧ (2 : Int) ^ k < 2 ^ 200 := by
    intro k hk
    rcases (by omega : k = 0 ∨ k = 1 ∨ k = 2 ∨ k = 3 ∨ k = 4 ∨ k = 5) with h | h | h | h | h | h <;> subst h <;> omega
  let p : Nat → Bool := fun k => decide ((1 + M) / 2 ^ k % 2 = 1)
  have hz : (fun (i : Nat) => D.int (0 + (i : Int))) = kI := by funext i; unfold kI; rw [Int.zero_add]
  rw [hz]
  rw [DL.lc_is (zs := ((List.range m.toNat).filter p).map kI) (by rw [List.length_map, List.length_range]; omega) (by
    refine lc_filter kI p _ fun k hk => ?_
    have hk2 := List.mem_range.mp hk
    obtain ⟨hq, hq2⟩ := h2k k hk2
    have ht : Fn.law_bond_8e48_t2 [some (false, D.int c), some (false, D.int m), some (false, D.int (1 + M)), none, none, some (false, kI k)] = .ok (p k) := by
      unfold Fn.law_bond_8e48_t2 kI
      walk_at "dl"
      rw [hL k hk2]
      walk_at "dl"
      rw [DL.div_pos hq hq2]
      walk_at "dl"
      rfl
    cases h : p k with
    | true =>
      rw [h] at ht
      exact DL.lcS_t rfl ht rfl
    | false =>
      rw [h] at ht
      exact DL.lcS_f rfl ht)]
  walk_at "dl"
  have hne : (List.range m.toNat).filter p ≠ [] := fun he => by
    obtain ⟨k, hk, e⟩ := bit_some (1 + M) m.toNat (by omega) (by omega) (by omega) (by omega)
    have : k ∈ (List.range m.toNat).filter p := List.mem_filter.mpr ⟨List.mem_range.mpr hk, decide_eq_true e⟩
    rw [he] at this
    cases this
  have hsub : ((List.range m.toNat).filter p).Sublist (List.range m.toNat) := List.filter_sublist
  generalize (List.range m.toNat).filter p = ks at hne hsub ⊢
  have hpos : 0 < (ks.length : Int) := by
    have := List.length_pos_iff.mpr hne
    omega
  have hkl : (ks.length : Int) ≤ 6 := by
    have := hsub.length_le
    rw [List.length_range] at this
    omega
  have hw : ∃ w, dIxA (D.lst [D.str (Str.ofString "most"), D.str (Str.ofString "least")]) (D.int (c % 2)) = .ok (.str w) ∧ (w = most ∨ w = least) := by
    rcases (by omega : c % 2 = 0 ∨ c % 2 = 1) with h | h <;> rw [h]
    · exact ⟨most, rfl, .inl rfl⟩
    · exact ⟨least, rfl, .inr rfl⟩
  obtain ⟨w, hw, hw2⟩ := hw
  by_cases hc : (0 : Int) < c / 1000 % 8
  · rw [decide_eq_true hc]
    walk_at "dl"
    rw [DL.mod_pos hpos]
    walk_at "dl"
    have q3 := Int.emod_nonneg (1 + c / 2 % 6 - 1) (show (ks.length : Int) ≠ 0 by omega)
    have q4 := Int.emod_lt_of_pos (1 + c / 2 % 6 - 1) hpos
    generalize (1 + c / 2 % 6 - 1) % (ks.length : Int) = r at q3 q4 ⊢
    rw [hw]
    walk_at "dl"
    exact ⟨_, (w, 1 + r, ks), rfl, hw2, show 1 ≤ 1 + r by omega, show 1 + r ≤ 6 by omega, hne, hsub⟩
  · rw [decide_eq_false hc]
    walk_at "dl"
    rw [hw]
    walk_at "dl"
    exact ⟨_, (w, 1 + c / 2 % 6, ks), rfl, hw2, show 1 ≤ 1 + c / 2 % 6 by omega, show 1 + c / 2 % 6 ≤ 6 by omega, hne, hsub⟩
end Bo
namespace Fn
open PySem DL
def law_some_2382_b1 : En → R Fl :=
  (sSeq (sIf (tst (bop (bop (rd 4) (rd 2) dMod) (cst (.int 1)) (dEq false))) (sAppend 3 (rdE 5)) sSkip)
  (sSet 4 (bop (rd 4) (rd 2) dDiv)))
def law_some_2382_g : En → R Fl :=
  (sSeq (sSetO 3 (nop aNil mkLst))
  (sSeq (sSet 4 (bop (rd 1) (bop (cst (.int 10)) (cst (.int 18)) dPow) dMod))
  (sSeq (sFor (itr (rdE 0)) (gSet 5) law_some_2382_b1)
  (sRetO (rdO 3)))))
def law_some_2382 : Den := bodyN 3 6 law_some_2382_g
end Fn
namespace Tr
open PySem DL Ti Sh
/-! ### trying badges in a row -/
def nx (b : Int) : Int := b % 1000000000000000000 + 1
def itN : Nat → Int → Int
  | 0, b => b
  | n + 1, b => itN n (nx b)
def Bg (b : Int) : Prop := 1 ≤ b ∧ b ≤ 1000000000000000000
theorem nx_bg (b : Int) : Bg (nx b) := by unfold Bg nx; omega
theorem itN_eq : ∀ (n : Nat) (b : Int), Bg b → n ≤ 100000 → itN n b = (b - 1 + n) % 1000000000000000000 + 1
  | 0, b, h, _ => by
    show b = _
    unfold Bg at h
    omega
  | n + 1, b, h, hn => by
    show itN n (nx b) = _
    rw [itN_eq n (nx b) (nx_bg b) (by omega)]
    unfold Bg at h
    unfold nx
    omega
theorem itN_inj {b : Int} (h : Bg b) {i j : Nat} (hi : i ≤ 100000) (hj : j ≤ 100000) (e : itN i b = itN j b) : i = j := by
  rw [itN_eq i b h hi, itN_eq j b h hj] at e
  unfold Bg at h
  omega
theorem free {b : Int} (h : Bg b) (l : List Int) (hl : l.length ≤ 1000) : ∃ i, i ≤ l.length ∧ itN i b ∉ l := by
  by_cases hc : ∃ i, i ≤ l.length ∧ itN i b ∉ l
  · exact hc
  · exfalso
    have := nodup_len (l := (List.range (l.length + 1)).map fun i => itN i b) (m := l) (by
      unfold List.Nodup
      rw [List.pairwise_map]
      refine List.nodup_range.imp_of_mem fun ha hb hne e => hne ?_
      rw [List.mem_range] at ha hb
      exact itN_inj h (by omega) (by omega) e) fun x hx => by
        obtain ⟨i, hi, rfl⟩ := List.mem_map.mp hx
        rw [List.mem_range] at hi
        by_cases hm : itN i b ∈ l
        · exact hm
        · exact absurd ⟨i, by omega, hm⟩ hc
    rw [List.length_map, List.length_range] at this
    omega
/-- the while that tries them -/
theorem tries {t : En → R Bool} {gb : En → R Fl} (E : Int → En) (l : List Int) (ht : ∀ b, t (E b) = .ok (decide (b ∈ l))) (hs : ∀ b, gb (E b) = .ok (.next (E (nx b)))) : ∀ (k i : Nat) (b : Int), itN i b ∉ l → Bg b → i < k → ∃ b', Bg b' ∧ b' ∉ l ∧ whileD t gb k (E b) = .ok (.next (E b'))
  | 0, _, _, _, _, h => absurd h (Nat.not_lt_zero _)
  | k + 1, i, b, hb, hr, hk => by
    unfold whileD
    rw [ht, DL.bd_ok]
    by_cases hc : b ∈ l
    · rw [decide_eq_true hc, if_pos rfl, hs]
      cases i with
      | zero => exact absurd hc hb
      | succ i => exact tries E l ht hs k i (nx b) hb (nx_bg b) (by omega)
    · rw [decide_eq_false hc, if_neg Bool.false_ne_true]
      exact ⟨b, hr, hc, rfl⟩
end Tr
namespace Me
open PySem DL Ti Di Sh Ce Tr
local macro_rules | `(tactic| walk_at "dl") => `(tactic| try simp -implicitDefEqProofs only [DL.sort_ints, DL.sum_ints, DL.in_ints, DL.idx_ok, DL.rev_lst, DL.ap_ins, DL.intB_bl, DL.intB_int, DL.itZipL_lst, DL.ap_nrmS, DL.nrm_nil, DL.nrm_cons, DL.nrm_rows, DL.nrm_lst, DL.isC_rows, DL.len_rows, DL.unR_rows, DL.unR_lst, DL.isi_rows, DL.eq_rows, DL.ap_rowM, DL.rowM_ok, DL.rowM2_ok, DL.rowM3_ok, DL.ap_row0, DL.ap_get2, DL.get2_ok, DL.row0_ok, DL.row02_ok, DL.ap_rowsApp, DL.ap_rowPut, DL.rowPut_ok, DL.rowPut2_ok, DL.ap_consL, DL.consL_ok, DL.mkRows_ap, DL.ap_lcR, DL.maxDef_ints, DL.ap_cnt, DL.cnt_ok, DL.ap_idx, DL.ap_txop, DL.tx_ok, DL.ap_jopS, DL.ap_lc, DL.ap_try, DL.try_ok, DL.try_err, DL.ap_tryAs, DL.tryAs_ok, DL.tryAs_err, DL.gone_next, DL.ap_raise, DL.ap_bodyD, DL.end_err, DL.itRev_lst, DL.itZip_lst, DL.itEnum_lst, DL.min_int, DL.max_int, DL.ap_seq, DL.seq_next, DL.seq_ret, DL.seq_brk, DL.seq_cont, DL.seq_err, DL.ap_skip, DL.ap_brk, DL.ap_cont, DL.ap_stl, DL.settle_nil, DL.settle_cons, DL.settle_t, DL.settle_f, DL.ap_if, DL.ite_t, DL.ite_f, DL.ap_set, DL.ap_setO, DL.set_ok, DL.setO_ok, DL.isC_lst, DL.isC_dK, DL.isC_dT, DL.isC_int, DL.isC_str, DL.isC_bl, DL.isC_non, DL.isC_tup, DL.ap_ret, DL.ap_retO, DL.ret_ok, DL.ap_ret0, DL.ap_unp, DL.unp_ok, DL.unp2_ok, DL.ap_drop, DL.ap_gset, DL.ap_gtup, DL.ap_glst, DL.ap_gnil, DL.ap_gcons, DL.ap_rd, DL.ap_rdE, DL.ap_rdO, DL.rd_ok, DL.rdE_ok, DL.rdO_ok, DL.rdO_f, DL.ap_cst, DL.ap_bop, DL.bd2_ok, DL.ap_uop, DL.ap_nop, DL.ap_anil, DL.ap_acons, DL.cons_ok, DL.add_int, DL.add_str, DL.add_lst, DL.sub_int, DL.rep_lst, DL.neg_int, DL.eq_int, DL.eq_str, DL.eq_bl, DL.eq_non_int, DL.eq_int_non, DL.lt_int, DL.le_int, DL.gt_int, DL.ge_int, DL.isN_ap, DL.isN_non, DL.isN_int, DL.isN_str, DL.isN_bl, DL.ap_rdL, DL.rdL_ok, DL.ap_rdF, DL.rdF_int, DL.is_bl, DL.isN_lst, DL.isN_tup, DL.asB_bl, DL.asI_int, DL.mkLst_ap, DL.mkTup_ap, DL.len_lst, DL.len_tup, DL.len_scr, DL.len_str, DL.len_dK, DL.list_lst, DL.list_tup, DL.list_scr, DL.tuple_lst, DL.flatO_int, DL.flatO_bl, DL.flatO_str, DL.flatO_non, DL.flatO_tup, DL.eNot_bl, DL.isi_int, DL.isi_bl, DL.isi_str, DL.isi_non, DL.isi_lst, DL.isi_tup, DL.isB_int_int, DL.isB_int_bl, DL.isB_int_str, DL.isB_int_non, DL.isB_int_lst, DL.isB_int_tup, DL.isB_bool_int, DL.isB_bool_bl, DL.isB_bool_str, DL.isB_bool_non, DL.isB_bool_lst, DL.isB_bool_tup, DL.isB_list_lst, DL.isB_list_int, DL.isB_list_tup, DL.isB_tuple_tup, DL.isB_tuple_lst, DL.isB_str_str, DL.isB_str_int, DL.ap_tst, DL.ap_bnot, DL.ap_band, DL.ap_bor, DL.and_t, DL.and_f, DL.or_t, DL.or_f, DL.ap_eand, DL.ap_eor, DL.eand_t, DL.eand_f, DL.eor_t, DL.eor_f, DL.ap_eif, DL.eif_t, DL.eif_f, DL.ap_chain, DL.chn0_ok, DL.chn_t, DL.chn_f, DL.ap_slc, DL.slc_ok, DL.ap_pnone, DL.ap_psome, DL.cut_lst, DL.cut_scr, DL.ap_for, DL.loop_ok, DL.ap_loop0, DL.ap_loop1, DL.lp1_ok, DL.lp2_next, DL.lp2_cont, DL.lp2_brk, DL.lp2_ret, DL.ap_itr, DL.ap_irg, DL.itD_lst, DL.itD_tup, DL.itD_scr, DL.itD_str, DL.rng1_ap, DL.rng2_ap, DL.wipe_nil, DL.wipe_cons, DL.ap_app, DL.ap_ext, DL.ap_own0, DL.own0_ok, DL.ap_put, DL.put_ok, DL.put2_ok, DL.end_ret, DL.end_next, DL.args_ap, DL.bd_ok, DL.bd_err, DL.bd_bad, DL.grd_t, DL.grd_f, DL.xorB_f, DL.xorB_t, List.map_cons, List.map_nil, List.length_cons, List.length_nil, List.length_map, List.length_append, List.length_range, List.cons_append, List.nil_append, List.append_nil, List.getElem?_cons_zero, List.getElem?_cons_succ, List.set_cons_zero, List.set_cons_succ, List.replicate_succ, List.replicate_zero, Nat.sub_zero, Nat.sub_self, Nat.add_one_sub_one, Nat.reduceAdd, Nat.reduceSub, Nat.zero_add, Option.bind_some, decide_true, decide_false, Bool.and_true, Bool.true_and, Bool.and_false, Bool.false_and, Bool.not_true, Bool.not_false, Bool.or_true, Bool.or_false, Bool.true_or, Bool.false_or, Bool.false_eq_true, ↓reduceIte, Int.reduceToNat, Int.reducePow, Int.reduceMul, Int.reduceAdd, Int.reduceSub, Int.reduceNeg, Int.reduceLT, Int.reduceLE, Nat.reducePow, Int.reduceMod, Int.reduceDiv, Int.reduceEq, Nat.reduceEqDiff, Int.natAbs_cast, DL.mod_pos, DL.div_pos, DL.dEq_ints, DL.dEq_scr, DL.dEq_scr_nil, DL.dEq_ints_nil, DL.ix_l0, DL.ix_t0, DL.ix_ls, DL.ix_ts, Nat.zero_le, Nat.reduceLeDiff, DL.small_of, DL.inR_small, DL.lt_size, DL.mul_small, DL.pow_ok, DL.app_ok, DL.ite_t])
theorem srtS_lt (ns : List Int) : (srtS ns).Pairwise (· < ·) := by
  unfold srtS
  have h1 := srt_sorted (uniq ns)
  have h2 : (srt (uniq ns)).Nodup := (srt_perm (uniq ns)).nodup_iff.mpr (uniq_nodup ns)
  refine List.Pairwise.imp₂ ?_ h1 h2
  intro a b h3 h4
  omega
theorem mem_srtS {ns : List Int} {k : Int} : k ∈ srtS ns ↔ k ∈ ns := by
  unfold srtS
  rw [(srt_perm (uniq ns)).mem_iff, mem_uniq]
theorem srtS_len (ns : List Int) : (srtS ns).length ≤ ns.length := by
  unfold srtS
  rw [(srt_perm (uniq ns)).length_eq]
  exact uniq_len ns
theorem srtS_nodup (ns : List Int) : (srtS ns).Nodup := (srtS_lt ns).imp fun h => Int.ne_of_lt h
theorem menu_eq (ns : List Int) (at_ wide : Int) (h0 : 0 ≤ at_) (h1 : at_ ≤ 1000) (h2 : 0 ≤ wide) (h3 : wide ≤ 50) : ∃ (o : Bool) (menu : List Int), Fn.law_menu_2938 [.scr ns, .int at_, .int wide] = .ok (o, .lst (menu.map .int)) ∧ menu.Pairwise (· < ·) ∧ (∀ b ∈ menu, Bg b) ∧ (menu.length : Int) ≤ wide ∧ (1 ≤ wide → menu ≠ []) := by
  unfold Fn.law_menu_2938; rw [DL.ap_body (by rfl)]; unfold Fn.law_menu_2938_g
  walk_at "dl"
  rw [DL.inR_small (by omega) (by omega)]
  walk_at "dl"
  obtain ⟨ρ', e1, bs, z, y, hl, hb, e2⟩ := DL.loop_at (g := gSet 4) (gb := Fn.law_menu_2938_b1) (fun i : Nat => D.int (0 + (i : Int))) (List.range wide.toNat)
    (fun i ρ => ∃ (bs : List Int) (z y : DL.Slot), bs.length = i ∧ (∀ b ∈ bs, Bg b) ∧ ρ = [some (false, .scr ns), some (false, .int at_), some (false, .int wide), some (true, .lst (bs.map .int)), z, y]) _ ⟨[], none, none, rfl, (fun _ h => nomatch h), rfl⟩ (fun i a ρ ha ⟨bs, z, y, hl, hb, hρ⟩ => by
      subst hρ
      have hi := DL.at_lt ha
      rw [List.getElem?_eq_getElem hi, List.getElem_range] at ha
      rw [List.length_range] at hi
      cases ha
      refine ⟨_, rfl, ?_⟩
      obtain ⟨o2, e2⟩ := cell_eq ns (at_ + (0 + (i : Int))) (by omega) (by omega)
      unfold Fn.law_menu_2938_b1
      walk_at "dl"
      rw [DL.callE_of e2]
      walk_at "dl"
      generalize cellOf ns (at_ + (0 + (i : Int))) = c
      have hw : ∃ w : Int, dIxA (D.lst [D.int 7, D.int 30, D.int ((10 : Int) ^ (18 : Int).toNat)]) (D.int (c % 3)) = .ok (.int w) ∧ 1 ≤ w ∧ w ≤ 1000000000000000000 := by
        rcases (by omega : c % 3 = 0 ∨ c % 3 = 1 ∨ c % 3 = 2) with h | h | h <;> rw [h]
        · exact ⟨7, rfl, by omega, by omega⟩
        · exact ⟨30, rfl, by omega, by omega⟩
        · exact ⟨1000000000000000000, by rfl, by omega, by omega⟩
      obtain ⟨w, hw, w1, w2⟩ := hw
      first | rw [hw] | erw [hw]
      walk_at "dl"
      rw [DL.mod_pos (by omega)]
      walk_at "dl"
      have q1 := Int.emod_nonneg (c / 3) (show w ≠ 0 by omega)
      have q2 := Int.emod_lt_of_pos (c / 3) (show 0 < w by omega)
      generalize c / 3 % w = r at q1 q2 ⊢
      rw [DL.app_ok (by rw [List.length_map]; omega)]
      walk_at "dl"
      refine ⟨_, rfl, bs ++ [1 + r], some (false, .int (0 + (i : Int))), some (false, .int c), by rw [List.length_append, List.length_singleton, hl], fun b hb2 => ?_, by rw [List.map_append]; rfl⟩
      rcases List.mem_append.mp hb2 with h | h
      · exact hb b h
      · rw [List.mem_singleton.mp h]
        unfold Bg
        omega)
  erw [e1]
  subst e2
  rw [List.length_range] at hl
  walk_at "dl"
  have hu := uniq_len bs
  rw [DL.sortS_ints (by omega) (by omega)]
  walk_at "dl"
  refine ⟨_, srtS bs, rfl, srtS_lt bs, fun b h => hb b (mem_srtS.mp h), ?_, fun h => ?_⟩
  · have := srtS_len bs
    omega
  · intro he
    cases bs with
    | nil => have hl : 0 = wide.toNat := hl; omega
    | cons x bs =>
      have := mem_srtS (ns := x :: bs) (k := x)
      rw [he] at this
      exact absurd (this.mpr List.mem_cons_self) List.not_mem_nil
theorem some_eq (menu : List Int) (c step : Int) (h1 : 1 ≤ step) (h2 : step ≤ 1000) (hl : menu.length ≤ 1000) : ∃ (o : Bool) (kept : List Int), Fn.law_some_2382 [.lst (menu.map .int), .int c, .int step] = .ok (o, .lst (kept.map .int)) ∧ kept.length ≤ menu.length ∧ ∀ b ∈ kept, b ∈ menu := by
  unfold Fn.law_some_2382; rw [DL.ap_body (by rfl)]; unfold Fn.law_some_2382_g
  walk_at "dl"
  generalize c % _ = rest0
  obtain ⟨ρ', e1, kept, y, z, hk, hm, e2⟩ := DL.loop_at (g := gSet 5) (gb := Fn.law_some_2382_b1) D.int menu
    (fun i ρ => ∃ (kept : List Int) (y : Int) (z : DL.Slot), kept.length ≤ i ∧ (∀ b ∈ kept, b ∈ menu) ∧ ρ = [some (false, .lst (menu.map .int)), some (false, .int c), some (false, .int step), some (true, .lst (kept.map .int)), some (false, .int y), z]) _ ⟨[], rest0, none, Nat.le_refl _, (fun _ h => nomatch h), rfl⟩ (fun i a ρ ha ⟨kept, y, z, hk, hm, hρ⟩ => by
      subst hρ
      have hi := DL.at_lt ha
      refine ⟨_, rfl, ?_⟩
      unfold Fn.law_some_2382_b1
      walk_at "dl"
      rw [DL.mod_pos (by omega)]
      walk_at "dl"
      by_cases hc : y % step = 1
      · rw [decide_eq_true hc]
        walk_at "dl"
        rw [DL.app_ok (by rw [List.length_map]; omega)]
        walk_at "dl"
        rw [DL.div_pos (by omega) (by omega)]
        walk_at "dl"
        refine ⟨_, rfl, kept ++ [a], y / step, _, by rw [List.length_append, List.length_singleton]; omega, fun b hb => ?_, by rw [List.map_append]; rfl⟩
        rcases List.mem_append.mp hb with h | h
        · exact hm b h
        · rw [List.mem_singleton.mp h]
          exact List.mem_of_getElem? ha
      · rw [decide_eq_false hc]
        walk_at "dl"
        rw [DL.div_pos (by omega) (by omega)]
        walk_at "dl"
        exact ⟨_, rfl, kept, y / step, _, by omega, hm, rfl⟩)
  erw [e1]
  subst e2
  walk_at "dl"
  exact ⟨_, kept, rfl, hk, hm⟩
end Me
namespace Dw
open PySem DL Ti Di Sh Ce Tr Me Bo Gw
local macro_rules | `(tactic| walk_at "dl") => `(tactic| try simp -implicitDefEqProofs only [DL.sort_ints, DL.sum_ints, DL.in_ints, DL.idx_ok, DL.rev_lst, DL.ap_ins, DL.intB_bl, DL.intB_int, DL.itZipL_lst, DL.ap_nrmS, DL.nrm_nil, DL.nrm_cons, DL.nrm_rows, DL.nrm_lst, DL.isC_rows, DL.len_rows, DL.unR_rows, DL.unR_lst, DL.isi_rows, DL.eq_rows, DL.ap_rowM, DL.rowM_ok, DL.rowM2_ok, DL.rowM3_ok, DL.ap_row0, DL.ap_get2, DL.get2_ok, DL.row0_ok, DL.row02_ok, DL.ap_rowsApp, DL.ap_rowPut, DL.rowPut_ok, DL.rowPut2_ok, DL.ap_consL, DL.consL_ok, DL.mkRows_ap, DL.ap_lcR, DL.maxDef_ints, DL.ap_cnt, DL.cnt_ok, DL.ap_idx, DL.ap_txop, DL.tx_ok, DL.ap_jopS, DL.ap_lc, DL.ap_try, DL.try_ok, DL.try_err, DL.ap_tryAs, DL.tryAs_ok, DL.tryAs_err, DL.gone_next, DL.ap_raise, DL.ap_bodyD, DL.end_err, DL.itRev_lst, DL.itZip_lst, DL.itEnum_lst, DL.min_int, DL.max_int, DL.ap_seq, DL.seq_next, DL.seq_ret, DL.seq_brk, DL.seq_cont, DL.seq_err, DL.ap_skip, DL.ap_brk, DL.ap_cont, DL.ap_stl, DL.settle_nil, DL.settle_cons, DL.settle_t, DL.settle_f, DL.ap_if, DL.ite_t, DL.ite_f, DL.ap_set, DL.ap_setO, DL.set_ok, DL.setO_ok, DL.isC_lst, DL.isC_dK, DL.isC_dT, DL.isC_int, DL.isC_str, DL.isC_bl, DL.isC_non, DL.isC_tup, DL.ap_ret, DL.ap_retO, DL.ret_ok, DL.ap_ret0, DL.ap_unp, DL.unp_ok, DL.unp2_ok, DL.ap_drop, DL.ap_gset, DL.ap_gtup, DL.ap_glst, DL.ap_gnil, DL.ap_gcons, DL.ap_rd, DL.ap_rdE, DL.ap_rdO, DL.rd_ok, DL.rdE_ok, DL.rdO_ok, DL.rdO_f, DL.ap_cst, DL.ap_bop, DL.bd2_ok, DL.ap_uop, DL.ap_nop, DL.ap_anil, DL.ap_acons, DL.cons_ok, DL.add_int, DL.add_str, DL.add_lst, DL.sub_int, DL.rep_lst, DL.neg_int, DL.eq_int, DL.eq_str, DL.eq_bl, DL.eq_non_int, DL.eq_int_non, DL.lt_int, DL.le_int, DL.gt_int, DL.ge_int, DL.isN_ap, DL.isN_non, DL.isN_int, DL.isN_str, DL.isN_bl, DL.ap_rdL, DL.rdL_ok, DL.ap_rdF, DL.rdF_int, DL.is_bl, DL.isN_lst, DL.isN_tup, DL.asB_bl, DL.asI_int, DL.mkLst_ap, DL.mkTup_ap, DL.len_lst, DL.len_tup, DL.len_scr, DL.len_str, DL.len_dK, DL.list_lst, DL.list_tup, DL.list_scr, DL.tuple_lst, DL.flatO_int, DL.flatO_bl, DL.flatO_str, DL.flatO_non, DL.flatO_tup, DL.eNot_bl, DL.isi_int, DL.isi_bl, DL.isi_str, DL.isi_non, DL.isi_lst, DL.isi_tup, DL.isB_int_int, DL.isB_int_bl, DL.isB_int_str, DL.isB_int_non, DL.isB_int_lst, DL.isB_int_tup, DL.isB_bool_int, DL.isB_bool_bl, DL.isB_bool_str, DL.isB_bool_non, DL.isB_bool_lst, DL.isB_bool_tup, DL.isB_list_lst, DL.isB_list_int, DL.isB_list_tup, DL.isB_tuple_tup, DL.isB_tuple_lst, DL.isB_str_str, DL.isB_str_int, DL.ap_tst, DL.ap_bnot, DL.ap_band, DL.ap_bor, DL.and_t, DL.and_f, DL.or_t, DL.or_f, DL.ap_eand, DL.ap_eor, DL.eand_t, DL.eand_f, DL.eor_t, DL.eor_f, DL.ap_eif, DL.eif_t, DL.eif_f, DL.ap_chain, DL.chn0_ok, DL.chn_t, DL.chn_f, DL.ap_slc, DL.slc_ok, DL.ap_pnone, DL.ap_psome, DL.cut_lst, DL.cut_scr, DL.ap_for, DL.loop_ok, DL.ap_loop0, DL.ap_loop1, DL.lp1_ok, DL.lp2_next, DL.lp2_cont, DL.lp2_brk, DL.lp2_ret, DL.ap_itr, DL.ap_irg, DL.itD_lst, DL.itD_tup, DL.itD_scr, DL.itD_str, DL.rng1_ap, DL.rng2_ap, DL.wipe_nil, DL.wipe_cons, DL.ap_app, DL.ap_ext, DL.ap_own0, DL.own0_ok, DL.ap_put, DL.put_ok, DL.put2_ok, DL.end_ret, DL.end_next, DL.args_ap, DL.bd_ok, DL.bd_err, DL.bd_bad, DL.grd_t, DL.grd_f, DL.xorB_f, DL.xorB_t, List.map_cons, List.map_nil, List.length_cons, List.length_nil, List.length_map, List.length_append, List.length_range, List.cons_append, List.nil_append, List.append_nil, List.getElem?_cons_zero, List.getElem?_cons_succ, List.set_cons_zero, List.set_cons_succ, List.replicate_succ, List.replicate_zero, Nat.sub_zero, Nat.sub_self, Nat.add_one_sub_one, Nat.reduceAdd, Nat.reduceSub, Nat.zero_add, Option.bind_some, decide_true, decide_false, Bool.and_true, Bool.true_and, Bool.and_false, Bool.false_and, Bool.not_true, Bool.not_false, Bool.or_true, Bool.or_false, Bool.true_or, Bool.false_or, Bool.false_eq_true, ↓reduceIte, Int.reduceToNat, Int.reducePow, Int.reduceMul, Int.reduceAdd, Int.reduceSub, Int.reduceNeg, Int.reduceLT, Int.reduceLE, Nat.reducePow, Int.reduceMod, Int.reduceDiv, Int.reduceEq, Nat.reduceEqDiff, Int.natAbs_cast, DL.mod_pos, DL.div_pos, DL.dEq_ints, DL.dEq_scr, DL.dEq_scr_nil, DL.dEq_ints_nil, DL.ix_l0, DL.ix_t0, DL.ix_ls, DL.ix_ts, Nat.zero_le, Nat.reduceLeDiff, DL.small_of, DL.inR_small, DL.lt_size, DL.mul_small, DL.pow_ok, DL.app_ok, DL.ite_t])
/-- lists that were drawn -/
structure Drawn (top : Int) (menu : List Int) (lists : List (List Int)) (ties : List Tie) : Prop where
  m1 : menu.Pairwise (· < ·)
  m2 : ∀ b ∈ menu, Bg b
  m3 : menu.length ≤ 8
  m4 : menu ≠ []
  l1 : 1 ≤ lists.length
  l2 : (lists.length : Int) ≤ top
  l3 : lists.length ≤ 6
  l4 : ∀ l ∈ lists, l.Pairwise (· < ·) ∧ ∀ b ∈ l, b ∈ menu
  t1 : ties.length ≤ 12
  t2 : ∀ t ∈ ties, TieOk lists.length t
theorem nodup_sub_len {l m : List Int} (h : l.Nodup) (s : ∀ x ∈ l, x ∈ m) : l.length ≤ m.length := nodup_len h s
theorem drawn_eq (ns : List Int) (top : Int) (hns : ns.length ≤ 63) (ht : 1 ≤ top) : ∃ (o : Bool) (menu : List Int) (lists : List (List Int)) (ties : List Tie), Fn.law_drawn_8e11 [.scr ns, .int top] = .ok (o, .lst [.lst (menu.map .int), .lst (lists.map lI), .lst (ties.map dT)]) ∧ Drawn top menu lists ties := by
  obtain ⟨o1, e1⟩ := cell_eq ns 0 (by omega) (by omega)
  unfold Fn.law_drawn_8e11; rw [DL.ap_body (by rfl)]; unfold Fn.law_drawn_8e11_g
  walk_at "dl"
  rw [DL.callE_of e1]
  walk_at "dl"
  generalize cellOf ns 0 = first
  have hw : ∃ w : Int, dIxA (D.lst [D.int 3, D.int 5, D.int 5, D.int 8]) (D.int (first / 24 % 4)) = .ok (.int w) ∧ 3 ≤ w ∧ w ≤ 8 := by
    rcases (by omega : first / 24 % 4 = 0 ∨ first / 24 % 4 = 1 ∨ first / 24 % 4 = 2 ∨ first / 24 % 4 = 3) with h | h | h | h <;> rw [h]
    · exact ⟨3, rfl, by omega, by omega⟩
    · exact ⟨5, rfl, by omega, by omega⟩
    · exact ⟨5, rfl, by omega, by omega⟩
    · exact ⟨8, rfl, by omega, by omega⟩
  obtain ⟨w, hw, w1, w2⟩ := hw
  rw [hw]
  walk_at "dl"
  obtain ⟨o2, menu, e2, m1, m2, m3, m4⟩ := menu_eq ns 1 w (by omega) (by omega) (by omega) (by omega)
  have m4 := m4 (by omega)
  have mnd : menu.Nodup := m1.imp fun h => Int.ne_of_lt h
  have mpos : 0 < (menu.length : Int) := by
    have := List.length_pos_iff.mpr m4
    omega
  rw [DL.callE_of e2]
  walk_at "dl"
  have hn : ∃ n : Int, dIxA (D.lst [D.int 1, D.int 2, D.int 3, D.int 4, D.int 4, D.int 5, D.int 3, D.int 6]) (D.int (first % 8)) = .ok (.int n) ∧ 1 ≤ n ∧ n ≤ 6 := by
    rcases (by omega : first % 8 = 0 ∨ first % 8 = 1 ∨ first % 8 = 2 ∨ first % 8 = 3 ∨ first % 8 = 4 ∨ first % 8 = 5 ∨ first % 8 = 6 ∨ first % 8 = 7) with h | h | h | h | h | h | h | h <;> rw [h]
    · exact ⟨1, rfl, by omega, by omega⟩
    · exact ⟨2, rfl, by omega, by omega⟩
    · exact ⟨3, rfl, by omega, by omega⟩
    · exact ⟨4, rfl, by omega, by omega⟩
    · exact ⟨4, rfl, by omega, by omega⟩
    · exact ⟨5, rfl, by omega, by omega⟩
    · exact ⟨3, rfl, by omega, by omega⟩
    · exact ⟨6, rfl, by omega, by omega⟩
  obtain ⟨n, hn, n1, n2⟩ := hn
  rw [hn]
  walk_at "dl"
  have hcnt : 1 ≤ (if n < top then n else top) ∧ (if n < top then n else top) ≤ 6 ∧ (if n < top then n else top) ≤ top := by split <;> omega
  generalize (if n < top then n else top) = count at hcnt ⊢
  obtain ⟨c1, c2, c3⟩ := hcnt
  have hr : ∃ r : Int, dIxA (D.lst [D.int 6, D.int 14, D.int 40]) (D.int (first / 8 % 3)) = .ok (.int r) ∧ 1 ≤ r ∧ r ≤ 40 := by
    rcases (by omega : first / 8 % 3 = 0 ∨ first / 8 % 3 = 1 ∨ first / 8 % 3 = 2) with h | h | h <;> rw [h]
    · exact ⟨6, rfl, by omega, by omega⟩
    · exact ⟨14, rfl, by omega, by omega⟩
    · exact ⟨40, rfl, by omega, by omega⟩
  obtain ⟨rare, hr, r1, r2⟩ := hr
  rw [hr]
  walk_at "dl"
  rw [DL.inR_small (by omega) (by omega)]
  walk_at "dl"
  rw [DL.lcR_is (zs := (List.replicate count.toNat menu).map lI) (by rw [List.length_map, List.length_range]; omega) (by
    have := lc_fmap (g := gSet 8) (t := tYesD) (f := Fn.law_drawn_8e11_e1) (ρ := [some (false, .scr ns), some (false, .int top), some (false, .int first), some (false, .lst (menu.map .int)), some (false, .int count), some (false, .int rare), none, none, none, none, none, none]) (fun i : Nat => D.int (0 + (i : Int))) (fun _ => lI menu) (fun _ => true) (List.range count.toNat) (fun k hk => by
      refine lc_one rfl rfl fun h => ?_
      unfold Fn.law_drawn_8e11_e1 lI
      walk_at "dl")
    rw [List.filter_eq_self.mpr (fun _ _ => rfl)] at this
    rw [List.map_replicate]
    refine Eq.trans this ?_
    congr 1
    refine List.ext_getElem (by simp) fun i h1 h2 => by simp) (fun z hz => by
      obtain ⟨l, _, rfl⟩ := List.mem_map.mp hz
      exact ⟨_, rfl⟩)]
  walk_at "dl"
  have hmx : (if (21 : Int) > (ns.length : Int) then (21 : Int) else (ns.length : Int)) ≤ 63 ∧ 21 ≤ (if (21 : Int) > (ns.length : Int) then (21 : Int) else (ns.length : Int)) := by split <;> omega
  generalize (if (21 : Int) > (ns.length : Int) then (21 : Int) else (ns.length : Int)) = mx at hmx ⊢
  rw [DL.inR_small (by omega) (by omega)]
  walk_at "dl"
  obtain ⟨ρ', h1, lists, ties, z8, z9, z10, g1, g2, g3, g4, h2⟩ := DL.loop_at (g := gSet 8) (gb := Fn.law_drawn_8e11_b2) (fun i : Nat => D.int (9 + (i : Int))) (List.range (mx - 9).toNat)
    (fun i ρ => ∃ (lists : List (List Int)) (ties : List Tie) (z8 z9 z10 : DL.Slot), lists.length = count.toNat ∧ (∀ l ∈ lists, l.Nodup ∧ ∀ b ∈ l, b ∈ menu) ∧ ties.length ≤ 12 ∧ (∀ t ∈ ties, TieOk count.toNat t) ∧
      ρ = [some (false, .scr ns), some (false, .int top), some (false, .int first), some (false, .lst (menu.map .int)), some (false, .int count), some (false, .int rare), some (true, .rows (lists.map lI)), some (true, .lst (ties.map dT)), z8, z9, z10, none]) _ ⟨List.replicate count.toNat menu, [], none, none, none, List.length_replicate, (fun l hl => by rw [List.eq_of_mem_replicate hl]; exact ⟨mnd, fun _ h => h⟩), by simp, (fun _ h => nomatch h), rfl⟩ (fun i a ρ ha ⟨lists, ties, z8, z9, z10, g1, g2, g3, g4, hρ⟩ => by
      subst hρ
      have hi := DL.at_lt ha
      rw [List.getElem?_eq_getElem hi, List.getElem_range] at ha
      rw [List.length_range] at hi
      cases ha
      refine ⟨_, rfl, ?_⟩
      obtain ⟨o3, e3⟩ := cell_eq ns (9 + (i : Int)) (by omega) (by omega)
      unfold Fn.law_drawn_8e11_b2
      walk_at "dl"
      rw [DL.callE_of e3]
      walk_at "dl"
      generalize cellOf ns (9 + (i : Int)) = cell
      rw [DL.div_pos (by omega) (by omega)]
      walk_at "dl"
      rw [DL.mod_pos mpos]
      walk_at "dl"
      have q1 := Int.emod_nonneg (cell / rare) (show (menu.length : Int) ≠ 0 by omega)
      have q2 := Int.emod_lt_of_pos (cell / rare) mpos
      rw [DL.ixA_ints q1 q2]
      generalize hbd : menu.getD (cell / rare % (menu.length : Int)).toNat 0 = badge
      have hbm : badge ∈ menu := by
        rw [← hbd, List.getD_eq_getElem?_getD, List.getElem?_eq_getElem (by omega)]
        exact List.getElem_mem _
      walk_at "dl"
      rw [DL.mod_pos (by omega)]
      walk_at "dl"
      have q3 := Int.emod_nonneg (9 + (i : Int)) (show count ≠ 0 by omega)
      have q4 := Int.emod_lt_of_pos (9 + (i : Int)) (show 0 < count by omega)
      have hjl : ((9 + (i : Int)) % count).toNat < lists.length := by omega
      have hrow : (lists.map lI)[((9 + (i : Int)) % count).toNat]? = some (.lst (lists[((9 + (i : Int)) % count).toNat].map .int)) := by
        rw [List.getElem?_map, List.getElem?_eq_getElem hjl]; rfl
      have hand : ∀ ρ : En, ρ = [some (false, .scr ns), some (false, .int top), some (false, .int first), some (false, .lst (menu.map .int)), some (false, .int count), some (false, .int rare), some (true, .rows (lists.map lI)), some (true, .lst (ties.map dT)), some (false, .int (9 + (i : Int))), some (false, .int cell), some (false, .int badge), none] → andK (.ok (decide (cell % rare = 0))) (tst (bop (nop (aCons (rd 7) aNil) dLen) (cst (.int 12)) dLt)) ρ = .ok (decide (cell % rare = 0) && decide ((ties.length : Int) < 12)) := fun ρ hρ => by
        subst hρ
        cases decide (cell % rare = 0)
        · rfl
        · walk_at "dl"
      rw [hand _ rfl]
      cases hB : (decide (cell % rare = 0) && decide ((ties.length : Int) < 12)) with
      | true =>
        rw [Bool.and_eq_true, decide_eq_true_iff, decide_eq_true_iff] at hB
        walk_at "dl"
        rw [DL.div_pos (by omega) (by omega)]
        walk_at "dl"
        obtain ⟨o4, t, e4, ht4⟩ := bond_eq (cell / rare) count (by omega) (by omega)
        rw [DL.callE_of e4]
        walk_at "dl"
        rw [DL.app_ok (by rw [List.length_map]; omega)]
        walk_at "dl"
        refine ⟨_, rfl, lists, ties ++ [t], some (false, .int (9 + (i : Int))), some (false, .int cell), some (false, .int badge), g1, g2, by rw [List.length_append, List.length_singleton]; omega, fun u hu => ?_, by rw [List.map_append]; rfl⟩
        rcases List.mem_append.mp hu with h | h
        · exact g4 u h
        · rw [List.mem_singleton.mp h]; exact ht4
      | false =>
        walk_at "dl"
        rw [DL.mod_pos (by omega)]
        walk_at "dl"
        rw [DL.ixR_at q3 hrow]
        walk_at "dl"
        have hgl := g2 lists[((9 + (i : Int)) % count).toNat] (List.getElem_mem hjl)
        have hset : ∀ l' : List Int, (l'.Nodup ∧ ∀ b ∈ l', b ∈ menu) → ∀ l ∈ lists.set ((9 + (i : Int)) % count).toNat l', l.Nodup ∧ ∀ b ∈ l, b ∈ menu := fun l' h' l hl => by
          rcases List.mem_or_eq_of_mem_set hl with h | h
          · exact g2 l h
          · rw [h]; exact h'
        have hms : ∀ l' : List Int, (lists.map lI).set ((9 + (i : Int)) % count).toNat (.lst (l'.map .int)) = (lists.set ((9 + (i : Int)) % count).toNat l').map lI := fun l' => by rw [List.map_set]; rfl
        by_cases hin : badge ∈ lists[((9 + (i : Int)) % count).toNat]
        · rw [decide_eq_true hin]
          walk_at "dl"
          rw [DL.mod_pos (by omega)]
          walk_at "dl"
          rw [DL.rowAt_of q3 hrow]
          walk_at "dl"
          rw [DL.wRem_ok hin]
          walk_at "dl"
          rw [hms]
          exact ⟨_, rfl, lists.set _ (lists[((9 + (i : Int)) % count).toNat].erase badge), ties, some (false, .int (9 + (i : Int))), some (false, .int cell), some (false, .int badge), by rw [List.length_set]; exact g1, hset _ ⟨hgl.1.erase _, fun b hb => hgl.2 b (List.mem_of_mem_erase hb)⟩, g3, g4, rfl⟩
        · rw [decide_eq_false hin]
          walk_at "dl"
          rw [DL.mod_pos (by omega)]
          walk_at "dl"
          rw [DL.rowAt_of q3 hrow]
          walk_at "dl"
          have hlen := nodup_sub_len hgl.1 hgl.2
          rw [DL.wApp_ok (by rw [List.length_map]; omega)]
          walk_at "dl"
          rw [show lists[((9 + (i : Int)) % count).toNat].map D.int ++ [D.int badge] = (lists[((9 + (i : Int)) % count).toNat] ++ [badge]).map .int by rw [List.map_append]; rfl, hms]
          refine ⟨_, rfl, lists.set _ (lists[((9 + (i : Int)) % count).toNat] ++ [badge]), ties, some (false, .int (9 + (i : Int))), some (false, .int cell), some (false, .int badge), by rw [List.length_set]; exact g1, hset _ ⟨?_, fun b hb => ?_⟩, g3, g4, rfl⟩
          · refine List.nodup_append.mpr ⟨hgl.1, by simp, fun x hx y hy e => ?_⟩
            rw [List.mem_singleton.mp hy] at e
            exact hin (e ▸ hx)
          · rcases List.mem_append.mp hb with h | h
            · exact hgl.2 b h
            · rw [List.mem_singleton.mp h]; exact hbm)
  erw [h1]
  subst h2
  walk_at "dl"
  rw [DL.lc_is (zs := (lists.map srt).map lI) (by rw [List.length_map]; omega) (by
    have := lc_fmap (g := gSet 11) (t := tYesD) (f := Fn.law_drawn_8e11_e3) (ρ := [some (false, .scr ns), some (false, .int top), some (false, .int first), some (false, .lst (menu.map .int)), some (false, .int count), some (false, .int rare), some (true, .lst (lists.map lI)), some (false, .lst (ties.map dT)), z8, z9, z10, none]) lI (fun l => lI (srt l)) (fun _ => true) lists (fun k hk => by
      refine lc_one rfl rfl fun h => ?_
      unfold Fn.law_drawn_8e11_e3 lI
      walk_at "dl")
    rw [List.filter_eq_self.mpr (fun _ _ => rfl)] at this
    rw [List.map_map]
    exact this)]
  walk_at "dl"
  have hsl : (lists.map srt).length = count.toNat := by rw [List.length_map]; exact g1
  refine ⟨_, menu, lists.map srt, ties, rfl, m1, m2, by omega, m4, by omega, by omega, by omega, fun l hl => ?_, g3, by rw [hsl]; exact g4⟩
  obtain ⟨k, hk, rfl⟩ := List.mem_map.mp hl
  obtain ⟨n3, n4⟩ := g2 k hk
  refine ⟨List.Pairwise.imp₂ (fun a b h3 h4 => ?_) (srt_sorted k) ((srt_perm k).nodup_iff.mpr n3), fun b hb => n4 b ((srt_perm k).mem_iff.mp hb)⟩
  have h3 : a ≤ b := h3
  have h4 : a ≠ b := h4
  omega
end Dw
namespace Dl
open PySem DL Di
/-! ### badges dealt to places: the plain law of the search -/
def kN (k : Nat) : D := .int (k : Int)
def gO (hands : List (Option Int)) (k : Nat) : Option Int := hands.getD k none
def gP (pools : List (List Int)) (k : Nat) : List Int := pools.getD k []
/-- hands that are held, and who holds what -/
structure Held (pools : List (List Int)) (hands : List (Option Int)) (own : List (Int × D)) : Prop where
  len : hands.length = pools.length
  inp : ∀ k x, gO hands k = some x → x ∈ gP pools k
  inj : ∀ j k x, gO hands j = some x → gO hands k = some x → j = k
  val : ∀ x d, lkD own x = some d → ∃ k, d = kN k ∧ gO hands k = some x
  has : ∀ k x, gO hands k = some x → lkD own x = some (kN k)
theorem kN_inj {j k : Nat} (h : kN j = kN k) : j = k := by
  unfold kN at h
  injection h with h
  omega
theorem gO_lt {hands : List (Option Int)} {k : Nat} {x : Int} (h : gO hands k = some x) : k < hands.length := by
  unfold gO at h
  by_cases hk : k < hands.length
  · exact hk
  · rw [List.getD_eq_getElem?_getD, List.getElem?_eq_none (by omega)] at h
    cases h
/-- the search so far -/
structure Bf (pools : List (List Int)) (hands : List (Option Int)) (start : Nat) (P : List Nat) (came : List (Int × D)) : Prop where
  nd : P.Nodup
  lt : ∀ p ∈ P, p < pools.length
  st : start ∈ P
  src : ∀ x d, lkD came x = some d → ∃ p, d = kN p ∧ p ∈ P ∧ x ∈ gP pools p
  back : ∀ p ∈ P, p ≠ start → ∃ x q, gO hands p = some x ∧ lkD came x = some (kN q) ∧ P.idxOf q < P.idxOf p
  fwd : ∀ x, x ∈ keys came → ∃ q ∈ P, q ≠ start ∧ gO hands q = some x
  cnt : (keys came).length + 1 = P.length
theorem Bf.start {pools : List (List Int)} {hands : List (Option Int)} {start : Nat} (hs : start < pools.length) : Bf pools hands start [start] [] where
  nd := by simp
  lt := fun p h => by rw [List.mem_singleton.mp h]; exact hs
  st := List.mem_singleton.mpr rfl
  src := fun x d h => by cases (h : (none : Option D) = some d)
  back := fun p h hn => absurd (List.mem_singleton.mp h) hn
  fwd := fun x h => absurd (h : x ∈ ([] : List Int)) List.not_mem_nil
  cnt := rfl
theorem idx_app {P : List Nat} {q p : Nat} (h : p ∈ P) : (P ++ [q]).idxOf p = P.idxOf p := by rw [List.idxOf_append, if_pos h]
/-- a badge that somebody holds -/
theorem Bf.grow {pools : List (List Int)} {hands : List (Option Int)} {own came : List (Int × D)} {start place q : Nat} {P : List Nat} {b : Int} (W : Held pools hands own) (B : Bf pools hands start P came) (hn : gO hands start = none) (hp : place ∈ P) (hb : b ∈ gP pools place) (hc : b ∉ keys came) (hq : lkD own b = some (kN q)) :
    Bf pools hands start (P ++ [q]) (putD came b (kN place)) := by
  obtain ⟨k, e, hk⟩ := W.val b _ hq
  have e := kN_inj e
  subst e
  have hqs : q ≠ start := fun e => by rw [e, hn] at hk; cases hk
  have hqP : q ∉ P := fun h => by
    obtain ⟨x, q', g1, g2, -⟩ := B.back q h hqs
    rw [hk] at g1
    cases g1
    exact hc (lk_in.mp (by rw [g2]; rfl))
  have hx : ∀ {x : Int} {d : D}, lkD came x = some d → x ≠ b := fun h e => by
    subst e
    exact hc (lk_in.mp (by rw [h]; rfl))
  refine ⟨?_, ?_, List.mem_append_left _ B.st, ?_, ?_, ?_, ?_⟩
  · refine List.nodup_append.mpr ⟨B.nd, by simp, fun x hx1 y hy e => ?_⟩
    rw [List.mem_singleton.mp hy] at e
    subst e
    exact hqP hx1
  · intro p h
    rcases List.mem_append.mp h with h | h
    · exact B.lt p h
    · rw [List.mem_singleton.mp h, ← W.len]
      exact gO_lt hk
  · intro x d h
    rw [lk_put] at h
    split at h
    · rename_i e
      subst e
      cases h
      exact ⟨place, rfl, List.mem_append_left _ hp, hb⟩
    · obtain ⟨p, h1, h2, h3⟩ := B.src x d h
      exact ⟨p, h1, List.mem_append_left _ h2, h3⟩
  · intro p h hps
    rcases List.mem_append.mp h with h | h
    · obtain ⟨x, q', h1, h2, h3⟩ := B.back p h hps
      obtain ⟨p', e', hp', -⟩ := B.src x _ h2
      have e' := kN_inj e'
      subst e'
      refine ⟨x, q', h1, by rw [lk_put, if_neg (hx h2)]; exact h2, ?_⟩
      rw [idx_app h, idx_app hp']
      exact h3
    · rw [List.mem_singleton.mp h]
      refine ⟨b, place, hk, by rw [lk_put, if_pos rfl], ?_⟩
      rw [idx_app hp, List.idxOf_append, if_neg hqP]
      have := List.idxOf_lt_length_of_mem hp
      omega
  · intro x h
    rw [keys_put, if_neg hc] at h
    rcases List.mem_append.mp h with h | h
    · obtain ⟨q', h1, h2, h3⟩ := B.fwd x h
      exact ⟨q', List.mem_append_left _ h1, h2, h3⟩
    · rw [List.mem_singleton.mp h]
      exact ⟨q, List.mem_append_right _ (List.mem_singleton.mpr rfl), hqs, hk⟩
  · rw [keys_put, if_neg hc, List.length_append, List.length_append, List.length_singleton, List.length_singleton, B.cnt]
theorem Bf.len {pools : List (List Int)} {hands : List (Option Int)} {start : Nat} {P : List Nat} {came : List (Int × D)} (B : Bf pools hands start P came) : P.length ≤ pools.length ∧ came.length + 1 = P.length := by
  have h1 : P.length ≤ (List.range pools.length).length := by
    have aux : ∀ {l m : List Nat}, l.Nodup → (∀ x ∈ l, x ∈ m) → l.length ≤ m.length := by
      intro l
      induction l with
      | nil => intro m _ _; exact Nat.zero_le _
      | cons x l ih =>
        intro m h s
        have hx := s x List.mem_cons_self
        have hn := List.nodup_cons.mp h
        have := ih (m := m.erase x) hn.2 fun y hy => (List.mem_erase_of_ne (fun (e : y = x) => hn.1 (e ▸ hy))).mpr (s y (List.mem_cons_of_mem _ hy))
        rw [List.length_erase_of_mem hx] at this
        have hp := List.length_pos_of_mem hx
        rw [List.length_cons]
        omega
    exact aux B.nd fun x hx => List.mem_range.mpr (B.lt x hx)
  rw [List.length_range] at h1
  have h2 := B.cnt
  unfold keys at h2
  rw [List.length_map] at h2
  exact ⟨h1, h2⟩
end Dl
namespace Pl
open PySem DL Ti Di Sh De Bo Gw Dl
local macro_rules | `(tactic| walk_at "dl") => `(tactic| try simp -implicitDefEqProofs only [DL.sort_ints, DL.sum_ints, DL.in_ints, DL.idx_ok, DL.rev_lst, DL.ap_ins, DL.intB_bl, DL.intB_int, DL.itZipL_lst, DL.ap_nrmS, DL.nrm_nil, DL.nrm_cons, DL.nrm_rows, DL.nrm_lst, DL.isC_rows, DL.len_rows, DL.unR_rows, DL.unR_lst, DL.isi_rows, DL.eq_rows, DL.ap_rowM, DL.rowM_ok, DL.rowM2_ok, DL.rowM3_ok, DL.ap_row0, DL.ap_get2, DL.get2_ok, DL.row0_ok, DL.row02_ok, DL.ap_rowsApp, DL.ap_rowPut, DL.rowPut_ok, DL.rowPut2_ok, DL.ap_consL, DL.consL_ok, DL.mkRows_ap, DL.ap_lcR, DL.maxDef_ints, DL.ap_cnt, DL.cnt_ok, DL.ap_idx, DL.ap_txop, DL.tx_ok, DL.ap_jopS, DL.ap_lc, DL.ap_try, DL.try_ok, DL.try_err, DL.ap_tryAs, DL.tryAs_ok, DL.tryAs_err, DL.gone_next, DL.ap_raise, DL.ap_bodyD, DL.end_err, DL.itRev_lst, DL.itZip_lst, DL.itEnum_lst, DL.min_int, DL.max_int, DL.ap_seq, DL.seq_next, DL.seq_ret, DL.seq_brk, DL.seq_cont, DL.seq_err, DL.ap_skip, DL.ap_brk, DL.ap_cont, DL.ap_stl, DL.settle_nil, DL.settle_cons, DL.settle_t, DL.settle_f, DL.ap_if, DL.ite_t, DL.ite_f, DL.ap_set, DL.ap_setO, DL.set_ok, DL.setO_ok, DL.isC_lst, DL.isC_dK, DL.isC_dT, DL.isC_int, DL.isC_str, DL.isC_bl, DL.isC_non, DL.isC_tup, DL.ap_ret, DL.ap_retO, DL.ret_ok, DL.ap_ret0, DL.ap_unp, DL.unp_ok, DL.unp2_ok, DL.ap_drop, DL.ap_gset, DL.ap_gtup, DL.ap_glst, DL.ap_gnil, DL.ap_gcons, DL.ap_rd, DL.ap_rdE, DL.ap_rdO, DL.rd_ok, DL.rdE_ok, DL.rdO_ok, DL.rdO_f, DL.ap_cst, DL.ap_bop, DL.bd2_ok, DL.ap_uop, DL.ap_nop, DL.ap_anil, DL.ap_acons, DL.cons_ok, DL.add_int, DL.add_str, DL.add_lst, DL.sub_int, DL.rep_lst, DL.neg_int, DL.eq_int, DL.eq_str, DL.eq_bl, DL.eq_non_int, DL.eq_int_non, DL.lt_int, DL.le_int, DL.gt_int, DL.ge_int, DL.isN_ap, DL.isN_non, DL.isN_int, DL.isN_str, DL.isN_bl, DL.ap_rdL, DL.rdL_ok, DL.ap_rdF, DL.rdF_int, DL.is_bl, DL.isN_lst, DL.isN_tup, DL.asB_bl, DL.asI_int, DL.mkLst_ap, DL.mkTup_ap, DL.len_lst, DL.len_tup, DL.len_scr, DL.len_str, DL.len_dK, DL.list_lst, DL.list_tup, DL.list_scr, DL.tuple_lst, DL.flatO_int, DL.flatO_bl, DL.flatO_str, DL.flatO_non, DL.flatO_tup, DL.eNot_bl, DL.isi_int, DL.isi_bl, DL.isi_str, DL.isi_non, DL.isi_lst, DL.isi_tup, DL.isB_int_int, DL.isB_int_bl, DL.isB_int_str, DL.isB_int_non, DL.isB_int_lst, DL.isB_int_tup, DL.isB_bool_int, DL.isB_bool_bl, DL.isB_bool_str, DL.isB_bool_non, DL.isB_bool_lst, DL.isB_bool_tup, DL.isB_list_lst, DL.isB_list_int, DL.isB_list_tup, DL.isB_tuple_tup, DL.isB_tuple_lst, DL.isB_str_str, DL.isB_str_int, DL.ap_tst, DL.ap_bnot, DL.ap_band, DL.ap_bor, DL.and_t, DL.and_f, DL.or_t, DL.or_f, DL.ap_eand, DL.ap_eor, DL.eand_t, DL.eand_f, DL.eor_t, DL.eor_f, DL.ap_eif, DL.eif_t, DL.eif_f, DL.ap_chain, DL.chn0_ok, DL.chn_t, DL.chn_f, DL.ap_slc, DL.slc_ok, DL.ap_pnone, DL.ap_psome, DL.cut_lst, DL.cut_scr, DL.ap_for, DL.loop_ok, DL.ap_loop0, DL.ap_loop1, DL.lp1_ok, DL.lp2_next, DL.lp2_cont, DL.lp2_brk, DL.lp2_ret, DL.ap_itr, DL.ap_irg, DL.itD_lst, DL.itD_tup, DL.itD_scr, DL.itD_str, DL.rng1_ap, DL.rng2_ap, DL.wipe_nil, DL.wipe_cons, DL.ap_app, DL.ap_ext, DL.ap_own0, DL.own0_ok, DL.ap_put, DL.put_ok, DL.put2_ok, DL.end_ret, DL.end_next, DL.args_ap, DL.bd_ok, DL.bd_err, DL.bd_bad, DL.grd_t, DL.grd_f, DL.xorB_f, DL.xorB_t, List.map_cons, List.map_nil, List.length_cons, List.length_nil, List.length_map, List.length_append, List.length_range, List.cons_append, List.nil_append, List.append_nil, List.getElem?_cons_zero, List.getElem?_cons_succ, List.set_cons_zero, List.set_cons_succ, List.replicate_succ, List.replicate_zero, Nat.sub_zero, Nat.sub_self, Nat.add_one_sub_one, Nat.reduceAdd, Nat.reduceSub, Nat.zero_add, Option.bind_some, decide_true, decide_false, Bool.and_true, Bool.true_and, Bool.and_false, Bool.false_and, Bool.not_true, Bool.not_false, Bool.or_true, Bool.or_false, Bool.true_or, Bool.false_or, Bool.false_eq_true, ↓reduceIte, Int.reduceToNat, Int.reducePow, Int.reduceMul, Int.reduceAdd, Int.reduceSub, Int.reduceNeg, Int.reduceLT, Int.reduceLE, Nat.reducePow, Int.reduceMod, Int.reduceDiv, Int.reduceEq, Nat.reduceEqDiff, Int.natAbs_cast, DL.mod_pos, DL.div_pos, DL.dEq_ints, DL.dEq_scr, DL.dEq_scr_nil, DL.dEq_ints_nil, DL.ix_l0, DL.ix_t0, DL.ix_ls, DL.ix_ts, Nat.zero_le, Nat.reduceLeDiff, DL.small_of, DL.inR_small, DL.lt_size, DL.mul_small, DL.pow_ok, DL.app_ok, DL.ite_t])
theorem nb_lists {n : Nat} (ls : List (List Int)) : NB (n + 2) (.lst (ls.map lI)) := .lst fun d hd => by
  obtain ⟨p, _, rfl⟩ := List.mem_map.mp hd
  exact NB.ints p
theorem nb_ties {m : Nat} (ts : List Tie) (h : ∀ t ∈ ts, TieOk m t) : NB 4 (.lst (ts.map dT)) := .lst fun d hd => by
  obtain ⟨t, ht, rfl⟩ := List.mem_map.mp hd
  unfold dT
  refine .tup fun d hd => ?_
  rcases List.mem_cons.mp hd with rfl | hd
  · refine .str _ ?_
    rcases (h t ht).word with h | h <;> rw [h] <;> decide +kernel
  · rcases List.mem_cons.mp hd with rfl | hd
    · exact .int _
    · rw [List.mem_singleton.mp hd]
      refine .tup fun d hd => ?_
      obtain ⟨k, hk, rfl⟩ := List.mem_map.mp hd
      exact .int _
theorem look_lists (ls : List (List Int)) (k : Nat) (h : k < ls.length) : dIxA (.lst (ls.map lI)) (.int (k : Int)) = .ok (lI (gP ls k)) := DL.ixA_lst (by omega) (by
  rw [Int.toNat_natCast, List.getElem?_map, List.getElem?_eq_getElem h]
  unfold gP
  rw [List.getD_eq_getElem?_getD, List.getElem?_eq_getElem h]; rfl)
theorem gP_mem (ls : List (List Int)) (k : Nat) (h : k < ls.length) : gP ls k ∈ ls := by
  unfold gP
  rw [List.getD_eq_getElem?_getD, List.getElem?_eq_getElem h]
  exact List.getElem_mem h
end Pl
namespace Rw
open PySem DL Ti Di Gw Dl
local macro_rules | `(tactic| walk_at "dl") => `(tactic| try simp -implicitDefEqProofs only [DL.sort_ints, DL.sum_ints, DL.in_ints, DL.idx_ok, DL.rev_lst, DL.ap_ins, DL.intB_bl, DL.intB_int, DL.itZipL_lst, DL.ap_nrmS, DL.nrm_nil, DL.nrm_cons, DL.nrm_rows, DL.nrm_lst, DL.isC_rows, DL.len_rows, DL.unR_rows, DL.unR_lst, DL.isi_rows, DL.eq_rows, DL.ap_rowM, DL.rowM_ok, DL.rowM2_ok, DL.rowM3_ok, DL.ap_row0, DL.ap_get2, DL.get2_ok, DL.row0_ok, DL.row02_ok, DL.ap_rowsApp, DL.ap_rowPut, DL.rowPut_ok, DL.rowPut2_ok, DL.ap_consL, DL.consL_ok, DL.mkRows_ap, DL.ap_lcR, DL.maxDef_ints, DL.ap_cnt, DL.cnt_ok, DL.ap_idx, DL.ap_txop, DL.tx_ok, DL.ap_jopS, DL.ap_lc, DL.ap_try, DL.try_ok, DL.try_err, DL.ap_tryAs, DL.tryAs_ok, DL.tryAs_err, DL.gone_next, DL.ap_raise, DL.ap_bodyD, DL.end_err, DL.itRev_lst, DL.itZip_lst, DL.itEnum_lst, DL.min_int, DL.max_int, DL.ap_seq, DL.seq_next, DL.seq_ret, DL.seq_brk, DL.seq_cont, DL.seq_err, DL.ap_skip, DL.ap_brk, DL.ap_cont, DL.ap_stl, DL.settle_nil, DL.settle_cons, DL.settle_t, DL.settle_f, DL.ap_if, DL.ite_t, DL.ite_f, DL.ap_set, DL.ap_setO, DL.set_ok, DL.setO_ok, DL.isC_lst, DL.isC_dK, DL.isC_dT, DL.isC_int, DL.isC_str, DL.isC_bl, DL.isC_non, DL.isC_tup, DL.ap_ret, DL.ap_retO, DL.ret_ok, DL.ap_ret0, DL.ap_unp, DL.unp_ok, DL.unp2_ok, DL.ap_drop, DL.ap_gset, DL.ap_gtup, DL.ap_glst, DL.ap_gnil, DL.ap_gcons, DL.ap_rd, DL.ap_rdE, DL.ap_rdO, DL.rd_ok, DL.rdE_ok, DL.rdO_ok, DL.rdO_f, DL.ap_cst, DL.ap_bop, DL.bd2_ok, DL.ap_uop, DL.ap_nop, DL.ap_anil, DL.ap_acons, DL.cons_ok, DL.add_int, DL.add_str, DL.add_lst, DL.sub_int, DL.rep_lst, DL.neg_int, DL.eq_int, DL.eq_str, DL.eq_bl, DL.eq_non_int, DL.eq_int_non, DL.lt_int, DL.le_int, DL.gt_int, DL.ge_int, DL.isN_ap, DL.isN_non, DL.isN_int, DL.isN_str, DL.isN_bl, DL.ap_rdL, DL.rdL_ok, DL.ap_rdF, DL.rdF_int, DL.is_bl, DL.isN_lst, DL.isN_tup, DL.asB_bl, DL.asI_int, DL.mkLst_ap, DL.mkTup_ap, DL.len_lst, DL.len_tup, DL.len_scr, DL.len_str, DL.len_dK, DL.list_lst, DL.list_tup, DL.list_scr, DL.tuple_lst, DL.flatO_int, DL.flatO_bl, DL.flatO_str, DL.flatO_non, DL.flatO_tup, DL.eNot_bl, DL.isi_int, DL.isi_bl, DL.isi_str, DL.isi_non, DL.isi_lst, DL.isi_tup, DL.isB_int_int, DL.isB_int_bl, DL.isB_int_str, DL.isB_int_non, DL.isB_int_lst, DL.isB_int_tup, DL.isB_bool_int, DL.isB_bool_bl, DL.isB_bool_str, DL.isB_bool_non, DL.isB_bool_lst, DL.isB_bool_tup, DL.isB_list_lst, DL.isB_list_int, DL.isB_list_tup, DL.isB_tuple_tup, DL.isB_tuple_lst, DL.isB_str_str, DL.isB_str_int, DL.ap_tst, DL.ap_bnot, DL.ap_band, DL.ap_bor, DL.and_t, DL.and_f, DL.or_t, DL.or_f, DL.ap_eand, DL.ap_eor, DL.eand_t, DL.eand_f, DL.eor_t, DL.eor_f, DL.ap_eif, DL.eif_t, DL.eif_f, DL.ap_chain, DL.chn0_ok, DL.chn_t, DL.chn_f, DL.ap_slc, DL.slc_ok, DL.ap_pnone, DL.ap_psome, DL.cut_lst, DL.cut_scr, DL.ap_for, DL.loop_ok, DL.ap_loop0, DL.ap_loop1, DL.lp1_ok, DL.lp2_next, DL.lp2_cont, DL.lp2_brk, DL.lp2_ret, DL.ap_itr, DL.ap_irg, DL.itD_lst, DL.itD_tup, DL.itD_scr, DL.itD_str, DL.rng1_ap, DL.rng2_ap, DL.wipe_nil, DL.wipe_cons, DL.ap_app, DL.ap_ext, DL.ap_own0, DL.own0_ok, DL.ap_put, DL.put_ok, DL.put2_ok, DL.end_ret, DL.end_next, DL.args_ap, DL.bd_ok, DL.bd_err, DL.bd_bad, DL.grd_t, DL.grd_f, DL.xorB_f, DL.xorB_t, List.map_cons, List.map_nil, List.length_cons, List.length_nil, List.length_map, List.length_append, List.length_range, List.cons_append, List.nil_append, List.append_nil, List.getElem?_cons_zero, List.getElem?_cons_succ, List.set_cons_zero, List.set_cons_succ, List.replicate_succ, List.replicate_zero, Nat.sub_zero, Nat.sub_self, Nat.add_one_sub_one, Nat.reduceAdd, Nat.reduceSub, Nat.zero_add, Option.bind_some, decide_true, decide_false, Bool.and_true, Bool.true_and, Bool.and_false, Bool.false_and, Bool.not_true, Bool.not_false, Bool.or_true, Bool.or_false, Bool.true_or, Bool.false_or, Bool.false_eq_true, ↓reduceIte, Int.reduceToNat, Int.reducePow, Int.reduceMul, Int.reduceAdd, Int.reduceSub, Int.reduceNeg, Int.reduceLT, Int.reduceLE, Nat.reducePow, Int.reduceMod, Int.reduceDiv, Int.reduceEq, Nat.reduceEqDiff, Int.natAbs_cast, DL.mod_pos, DL.div_pos, DL.dEq_ints, DL.dEq_scr, DL.dEq_scr_nil, DL.dEq_ints_nil, DL.ix_l0, DL.ix_t0, DL.ix_ls, DL.ix_ts, Nat.zero_le, Nat.reduceLeDiff, DL.small_of, DL.inR_small, DL.lt_size, DL.mul_small, DL.pow_ok, DL.app_ok, DL.ite_t])
theorem putA_lst {ds : List D} {j : Int} {v : D} (h0 : 0 ≤ j) (h : j < ds.length) : putA (.lst ds) (.int j) v = .ok (.lst (ds.set j.toNat v)) := by
  show (match L2.ixN ds.length j with | some n => R.ok (D.lst (ds.set n v)) | none => R.bad) = _
  rw [DL.ixN_of h0 h]
theorem row_at (rs : List (List Int)) (k : Nat) (h : k < rs.length) : (rs.map lI)[k]? = some (.lst (rs[k].map .int)) := by
  rw [List.getElem?_map, List.getElem?_eq_getElem h]; rfl
theorem ixR_row (rs : List (List Int)) (k : Nat) (h : k < rs.length) : dIxR (.rows (rs.map lI)) (.int (0 + (k : Int))) = .ok (.lst (rs[k].map .int)) := DL.ixR_at (by omega) (by
  rw [show (0 + (k : Int)).toNat = k by omega]
  exact row_at rs k h)
theorem rowAt_row (rs : List (List Int)) (k : Nat) (h : k < rs.length) : rowAt (rs.map lI) (0 + (k : Int)) = some (k, rs[k].map .int) := by
  have := DL.rowAt_of (ds := rs.map lI) (j := 0 + (k : Int)) (es := rs[k].map .int) (by omega) (by
    rw [show (0 + (k : Int)).toNat = k by omega]
    exact row_at rs k h)
  rw [this, show (0 + (k : Int)).toNat = k by omega]
theorem set_row (rs : List (List Int)) (k : Nat) (l : List Int) : (rs.map lI).set k (.lst (l.map .int)) = (rs.set k l).map lI := by rw [List.map_set]; rfl
/-- noughts are put behind all rows: what remains is rows -/
theorem noughts {gb : En → R Fl} {s : Nat} (E : List (List Int) → DL.Slot → En) (hE : ∀ rs z d, (E rs z).set s (some (false, d)) = E rs (some (false, d)))
    (hb : ∀ (rs : List (List Int)) (k : Nat), k < rs.length → (∀ l ∈ rs, l.length ≤ 100000) → gb (E rs (some (false, .int (0 + (k : Int))))) = .ok (.next (E (rs.set k (rs[k]! ++ [0])) (some (false, .int (0 + (k : Int)))))))
    (n : Nat) (rs : List (List Int)) (hn : n ≤ rs.length) (hn2 : n ≤ 1000) (hl : ∀ l ∈ rs, l.length ≤ 1000) (z : DL.Slot) :
    ∃ rs' z', loopD (gSet s) gb ((List.range n).map fun i : Nat => D.int (0 + (i : Int))) (E rs z) = .ok (.next (E rs' z')) := by
  obtain ⟨ρ', h1, rs', z', g1, g2, h2⟩ := DL.loop_at (g := gSet s) (gb := gb) (fun i : Nat => D.int (0 + (i : Int))) (List.range n)
    (fun i ρ => ∃ (rs' : List (List Int)) (z' : DL.Slot), rs'.length = rs.length ∧ (∀ l ∈ rs', l.length ≤ 1000 + i) ∧ ρ = E rs' z') (E rs z) ⟨rs, z, rfl, hl, rfl⟩ (fun i a ρ ha ⟨rs', z', g1, g2, hρ⟩ => by
      subst hρ
      have hi := DL.at_lt ha
      rw [List.getElem?_eq_getElem hi, List.getElem_range] at ha
      rw [List.length_range] at hi
      cases ha
      refine ⟨_, rfl, ?_⟩
      rw [hE]
      refine ⟨_, hb rs' i (by omega) (fun l h => by have := g2 l h; omega), _, _, by rw [List.length_set]; exact g1, fun l h => ?_, rfl⟩
      rcases List.mem_or_eq_of_mem_set h with h | h
      · have := g2 l h; omega
      · rw [h, List.length_append, List.length_singleton]
        have := g2 rs'[i]! (by rw [getElem!_pos rs' i (by omega)]; exact List.getElem_mem _)
        omega)
  subst h2
  exact ⟨rs', z', h1⟩
end Rw
namespace Po
open PySem DL Ti Di Sh De Gw Pt Dl Pl Rw
local macro_rules | `(tactic| walk_at "dl") => `(tactic| try simp -implicitDefEqProofs only [DL.sort_ints, DL.sum_ints, DL.in_ints, DL.idx_ok, DL.rev_lst, DL.ap_ins, DL.intB_bl, DL.intB_int, DL.itZipL_lst, DL.ap_nrmS, DL.nrm_nil, DL.nrm_cons, DL.nrm_rows, DL.nrm_lst, DL.isC_rows, DL.len_rows, DL.unR_rows, DL.unR_lst, DL.isi_rows, DL.eq_rows, DL.ap_rowM, DL.rowM_ok, DL.rowM2_ok, DL.rowM3_ok, DL.ap_row0, DL.ap_get2, DL.get2_ok, DL.row0_ok, DL.row02_ok, DL.ap_rowsApp, DL.ap_rowPut, DL.rowPut_ok, DL.rowPut2_ok, DL.ap_consL, DL.consL_ok, DL.mkRows_ap, DL.ap_lcR, DL.maxDef_ints, DL.ap_cnt, DL.cnt_ok, DL.ap_idx, DL.ap_txop, DL.tx_ok, DL.ap_jopS, DL.ap_lc, DL.ap_try, DL.try_ok, DL.try_err, DL.ap_tryAs, DL.tryAs_ok, DL.tryAs_err, DL.gone_next, DL.ap_raise, DL.ap_bodyD, DL.end_err, DL.itRev_lst, DL.itZip_lst, DL.itEnum_lst, DL.min_int, DL.max_int, DL.ap_seq, DL.seq_next, DL.seq_ret, DL.seq_brk, DL.seq_cont, DL.seq_err, DL.ap_skip, DL.ap_brk, DL.ap_cont, DL.ap_stl, DL.settle_nil, DL.settle_cons, DL.settle_t, DL.settle_f, DL.ap_if, DL.ite_t, DL.ite_f, DL.ap_set, DL.ap_setO, DL.set_ok, DL.setO_ok, DL.isC_lst, DL.isC_dK, DL.isC_dT, DL.isC_int, DL.isC_str, DL.isC_bl, DL.isC_non, DL.isC_tup, DL.ap_ret, DL.ap_retO, DL.ret_ok, DL.ap_ret0, DL.ap_unp, DL.unp_ok, DL.unp2_ok, DL.ap_drop, DL.ap_gset, DL.ap_gtup, DL.ap_glst, DL.ap_gnil, DL.ap_gcons, DL.ap_rd, DL.ap_rdE, DL.ap_rdO, DL.rd_ok, DL.rdE_ok, DL.rdO_ok, DL.rdO_f, DL.ap_cst, DL.ap_bop, DL.bd2_ok, DL.ap_uop, DL.ap_nop, DL.ap_anil, DL.ap_acons, DL.cons_ok, DL.add_int, DL.add_str, DL.add_lst, DL.sub_int, DL.rep_lst, DL.neg_int, DL.eq_int, DL.eq_str, DL.eq_bl, DL.eq_non_int, DL.eq_int_non, DL.lt_int, DL.le_int, DL.gt_int, DL.ge_int, DL.isN_ap, DL.isN_non, DL.isN_int, DL.isN_str, DL.isN_bl, DL.ap_rdL, DL.rdL_ok, DL.ap_rdF, DL.rdF_int, DL.is_bl, DL.isN_lst, DL.isN_tup, DL.asB_bl, DL.asI_int, DL.mkLst_ap, DL.mkTup_ap, DL.len_lst, DL.len_tup, DL.len_scr, DL.len_str, DL.len_dK, DL.list_lst, DL.list_tup, DL.list_scr, DL.tuple_lst, DL.flatO_int, DL.flatO_bl, DL.flatO_str, DL.flatO_non, DL.flatO_tup, DL.eNot_bl, DL.isi_int, DL.isi_bl, DL.isi_str, DL.isi_non, DL.isi_lst, DL.isi_tup, DL.isB_int_int, DL.isB_int_bl, DL.isB_int_str, DL.isB_int_non, DL.isB_int_lst, DL.isB_int_tup, DL.isB_bool_int, DL.isB_bool_bl, DL.isB_bool_str, DL.isB_bool_non, DL.isB_bool_lst, DL.isB_bool_tup, DL.isB_list_lst, DL.isB_list_int, DL.isB_list_tup, DL.isB_tuple_tup, DL.isB_tuple_lst, DL.isB_str_str, DL.isB_str_int, DL.ap_tst, DL.ap_bnot, DL.ap_band, DL.ap_bor, DL.and_t, DL.and_f, DL.or_t, DL.or_f, DL.ap_eand, DL.ap_eor, DL.eand_t, DL.eand_f, DL.eor_t, DL.eor_f, DL.ap_eif, DL.eif_t, DL.eif_f, DL.ap_chain, DL.chn0_ok, DL.chn_t, DL.chn_f, DL.ap_slc, DL.slc_ok, DL.ap_pnone, DL.ap_psome, DL.cut_lst, DL.cut_scr, DL.ap_for, DL.loop_ok, DL.ap_loop0, DL.ap_loop1, DL.lp1_ok, DL.lp2_next, DL.lp2_cont, DL.lp2_brk, DL.lp2_ret, DL.ap_itr, DL.ap_irg, DL.itD_lst, DL.itD_tup, DL.itD_scr, DL.itD_str, DL.rng1_ap, DL.rng2_ap, DL.wipe_nil, DL.wipe_cons, DL.ap_app, DL.ap_ext, DL.ap_own0, DL.own0_ok, DL.ap_put, DL.put_ok, DL.put2_ok, DL.end_ret, DL.end_next, DL.args_ap, DL.bd_ok, DL.bd_err, DL.bd_bad, DL.grd_t, DL.grd_f, DL.xorB_f, DL.xorB_t, List.map_cons, List.map_nil, List.length_cons, List.length_nil, List.length_map, List.length_append, List.length_range, List.cons_append, List.nil_append, List.append_nil, List.getElem?_cons_zero, List.getElem?_cons_succ, List.set_cons_zero, List.set_cons_succ, List.replicate_succ, List.replicate_zero, Nat.sub_zero, Nat.sub_self, Nat.add_one_sub_one, Nat.reduceAdd, Nat.reduceSub, Nat.zero_add, Option.bind_some, decide_true, decide_false, Bool.and_true, Bool.true_and, Bool.and_false, Bool.false_and, Bool.not_true, Bool.not_false, Bool.or_true, Bool.or_false, Bool.true_or, Bool.false_or, Bool.false_eq_true, ↓reduceIte, Int.reduceToNat, Int.reducePow, Int.reduceMul, Int.reduceAdd, Int.reduceSub, Int.reduceNeg, Int.reduceLT, Int.reduceLE, Nat.reducePow, Int.reduceMod, Int.reduceDiv, Int.reduceEq, Nat.reduceEqDiff, Int.natAbs_cast, DL.mod_pos, DL.div_pos, DL.dEq_ints, DL.dEq_scr, DL.dEq_scr_nil, DL.dEq_ints_nil, DL.ix_l0, DL.ix_t0, DL.ix_ls, DL.ix_ts, Nat.zero_le, Nat.reduceLeDiff, DL.small_of, DL.inR_small, DL.lt_size, DL.mul_small, DL.pow_ok, DL.app_ok, DL.ite_t])
/-- the steps of a block -/
def stepsOf (ps : List Int) (b : Int) : List Nat := (List.range ps.length).filter fun k => decide (ps.getD k 0 = b)
def poolOf (lists : List (List Int)) (ks : List Nat) : List Int := (gP lists (ks.getD 0 0)).filter fun x => ks.all fun s => decide (x ∈ gP lists s)
def poolsOf (ps : List Int) (lists : List (List Int)) : List (List Int) := (List.range (U ps)).map fun b : Nat => poolOf lists (stepsOf ps (b : Int))
theorem steps_snoc (ps : List Int) (j b : Int) : stepsOf (ps ++ [j]) b = stepsOf ps b ++ (if j = b then [ps.length] else []) := by
  unfold stepsOf
  rw [List.length_append, List.length_singleton, List.range_succ, List.filter_append]
  congr 1
  · refine List.filter_congr fun k hk => ?_
    have := List.mem_range.mp hk
    rw [List.getD_eq_getElem?_getD, List.getD_eq_getElem?_getD, List.getElem?_append_left this]
  · have : (ps ++ [j]).getD ps.length 0 = j := by
      rw [List.getD_eq_getElem?_getD, List.getElem?_append_right (Nat.le_refl _), Nat.sub_self]; rfl
    by_cases h : j = b
    · rw [if_pos h, List.filter_cons, this, decide_eq_true h]; rfl
    · rw [if_neg h, List.filter_cons, this, decide_eq_false h]; rfl
theorem steps_ne {ps : List Int} {b : Int} (h : b ∈ ps) : stepsOf ps b ≠ [] := fun he => by
  obtain ⟨k, hk, e⟩ := List.getElem_of_mem h
  have : k ∈ stepsOf ps b := List.mem_filter.mpr ⟨List.mem_range.mpr hk, decide_eq_true (by rw [List.getD_eq_getElem?_getD, List.getElem?_eq_getElem hk]; exact e)⟩
  rw [he] at this
  cases this
theorem steps_nil {ps : List Int} {b : Int} (h : b ∉ ps) : stepsOf ps b = [] := by
  unfold stepsOf
  refine List.filter_eq_nil_iff.mpr fun k hk => ?_
  have hk := List.mem_range.mp hk
  rw [decide_eq_true_iff, List.getD_eq_getElem?_getD, List.getElem?_eq_getElem hk]
  exact fun e => h (e ▸ List.getElem_mem hk)
theorem steps_lt {ps : List Int} {b : Int} : ∀ k ∈ stepsOf ps b, k < ps.length := fun k hk => List.mem_range.mp (List.mem_filter.mp hk).1
theorem pool_one (lists : List (List Int)) (n : Nat) : poolOf lists [n] = gP lists n := by
  unfold poolOf
  show (gP lists n).filter _ = _
  refine List.filter_eq_self.mpr fun x hx => ?_
  rw [List.all_cons, List.all_nil, Bool.and_true]
  exact decide_eq_true hx
theorem pool_more (lists : List (List Int)) (ks : List Nat) (hk : ks ≠ []) (n : Nat) : poolOf lists (ks ++ [n]) = (poolOf lists ks).filter fun x => decide (x ∈ gP lists n) := by
  unfold poolOf
  rw [List.filter_filter]
  have e : (ks ++ [n]).getD 0 0 = ks.getD 0 0 := by
    cases ks with
    | nil => exact absurd rfl hk
    | cons k ks => rfl
  rw [e]
  refine List.filter_congr fun x _ => ?_
  rw [List.all_append, List.all_cons, List.all_nil, Bool.and_true, Bool.and_comm]
theorem common_eq (one other : List Int) (h : one.length ≤ 1000) : Fn.common_38af [.lst (one.map .int), .lst (other.map .int)] = .ok (true, .lst ((one.filter fun x => decide (x ∈ other)).map .int)) := by
  unfold Fn.common_38af; rw [DL.ap_bodyV (by rfl)]; unfold Fn.common_38af_g
  rw [show List.replicate (2 + (3 - 2)) (none : DL.Slot) = [none, none, none] from rfl]
  walk_at "dl"
  rw [DL.lc_is (zs := (one.filter fun x => decide (x ∈ other)).map .int) (by rw [List.length_map]; omega) (by
    have := lc_fmap (g := gSet 2) (t := Fn.common_38af_t2 [.lst (one.map .int), .lst (other.map .int)]) (f := Fn.common_38af_e1 [.lst (one.map .int), .lst (other.map .int)]) (ρ := [none, none, none]) D.int D.int (fun x => decide (x ∈ other)) one (fun k hk => by
      refine lc_one rfl ?_ fun h => rfl
      unfold Fn.common_38af_t2
      walk_at "dl")
    exact this)]
  walk_at "dl"
/-- one step more -/
theorem pools_step {ps : List Int} (hp : IsP ps) (lists : List (List Int)) {j : Int} (h0 : 0 ≤ j) (h1 : j ≤ (U ps : Int)) :
    (j = (U ps : Int) → poolsOf (ps ++ [j]) lists = poolsOf ps lists ++ [gP lists ps.length]) ∧ (j < (U ps : Int) → poolsOf (ps ++ [j]) lists = (poolsOf ps lists).set j.toNat ((gP (poolsOf ps lists) j.toNat).filter fun x => decide (x ∈ gP lists ps.length))) := by
  have hnew := pt_new hp h0 h1
  refine ⟨fun e => ?_, fun hlt => ?_⟩
  · have hnot : j ∉ ps := fun z => by have := hnew.mp z; omega
    unfold poolsOf
    rw [U_snoc, if_neg hnot, List.range_succ, List.map_append]
    congr 1
    · refine List.map_congr_left fun b hb => ?_
      have := List.mem_range.mp hb
      rw [steps_snoc, if_neg (by omega), List.append_nil]
    · show [poolOf lists (stepsOf (ps ++ [j]) ((U ps : Nat) : Int))] = _
      rw [steps_snoc, if_pos e, steps_nil (by rw [← e]; exact hnot), List.nil_append, pool_one]
  · have hin : j ∈ ps := hnew.mpr hlt
    unfold poolsOf
    rw [U_snoc, if_pos hin]
    refine List.ext_getElem (by rw [List.length_set, List.length_map, List.length_map]) fun i i1 i2 => ?_
    rw [List.length_map, List.length_range] at i1
    rw [List.getElem_set, List.getElem_map, List.getElem_range]
    rw [steps_snoc]
    by_cases e : j.toNat = i
    · rw [if_pos e, if_pos (by omega), pool_more _ _ (steps_ne (by rw [show ((i : Nat) : Int) = j by omega]; exact hin))]
      congr 1
      unfold gP
      rw [List.getD_eq_getElem?_getD, List.getElem?_map, List.getElem?_range (by omega), e]; rfl
    · rw [if_neg e, if_neg (by omega), List.append_nil, List.getElem_map, List.getElem_range]
theorem take_pt {ps : List Int} (hp : IsP ps) : ∀ n, n ≤ ps.length → IsP (ps.take n) ∧ ∀ (h : n < ps.length), 0 ≤ ps[n] ∧ ps[n] ≤ (U (ps.take n) : Int) := by
  refine snoc_ind (P := fun ps => IsP ps → ∀ n, n ≤ ps.length → IsP (ps.take n) ∧ ∀ (h : n < ps.length), 0 ≤ ps[n] ∧ ps[n] ≤ (U (ps.take n) : Int)) (fun _ n hn => ?_) (fun l x ih hlx n hn => ?_) ps hp
  · have hn : n ≤ 0 := hn
    have : n = 0 := by omega
    subst this
    exact ⟨rfl, fun h => absurd h (Nat.lt_irrefl _)⟩
  · have h2 : shapeOf (l ++ [x]) = l ++ [x] := hlx
    rw [shape_snoc] at h2
    have h3 := List.append_inj h2 (shape_len l)
    have hl : IsP l := h3.1
    have hx : num (l ++ [x]) x = x := by
      have := h3.2
      injection this
    rw [List.length_append, List.length_singleton] at hn
    by_cases e : n = l.length + 1
    · refine ⟨?_, fun h => ?_⟩
      · rw [List.take_of_length_le (by rw [List.length_append, List.length_singleton]; omega)]
        exact hlx
      · rw [List.length_append, List.length_singleton] at h; omega
    · have hn2 : n ≤ l.length := by omega
      obtain ⟨i1, i2⟩ := ih hl n hn2
      rw [List.take_append_of_le_length hn2]
      refine ⟨i1, fun h => ?_⟩
      by_cases e2 : n < l.length
      · rw [List.getElem_append_left e2]
        exact i2 e2
      · have e3 : n = l.length := by omega
        subst e3
        rw [List.getElem_append_right (Nat.le_refl _), List.take_length]
        simp only [Nat.sub_self, List.getElem_cons_zero]
        by_cases hm : x ∈ l
        · have := pt_lt hl hm
          omega
        · rw [num_new hm] at hx
          unfold U
          omega
theorem pool_len {lists : List (List Int)} (hs : ∀ l ∈ lists, l.length ≤ 100) (ks : List Nat) : (poolOf lists ks).length ≤ 100 := by
  unfold poolOf
  refine Nat.le_trans (List.length_filter_le _ _) ?_
  unfold gP
  rw [List.getD_eq_getElem?_getD]
  by_cases h : ks.getD 0 0 < lists.length
  · rw [List.getElem?_eq_getElem h]
    exact hs _ (List.getElem_mem h)
  · rw [List.getElem?_eq_none (by omega)]
    exact Nat.zero_le _
theorem pools_small {lists : List (List Int)} (hs : ∀ l ∈ lists, l.length ≤ 100) (ps : List Int) : ∀ l ∈ poolsOf ps lists, l.length ≤ 100 := fun l hl => by
  obtain ⟨b, _, rfl⟩ := List.mem_map.mp hl
  exact pool_len hs _
theorem pools_of_eq (ps : List Int) (hp : IsP ps) (lists : List (List Int)) (hl : ps.length ≤ lists.length) (h100 : lists.length ≤ 100) (hs : ∀ l ∈ lists, l.length ≤ 100) : Fn.pools_of_5f44 [.lst (ps.map .int), .lst (lists.map lI)] = .ok (true, .rows ((poolsOf ps lists).map lI)) := by
  unfold Fn.pools_of_5f44; rw [DL.ap_body (by rfl)]; unfold Fn.pools_of_5f44_g
  walk_at "dl"
  have hen : enumD (ps.map .int) = (List.range ps.length).map fun i : Nat => D.tup [.int (i : Nat), .int (ps.getD i 0)] := by
    unfold enumD
    refine List.ext_getElem (by rw [List.length_mapIdx, List.length_map, List.length_map, List.length_range]) fun i i1 i2 => ?_
    rw [List.length_map, List.length_range] at i2
    rw [List.getElem_mapIdx, List.getElem_map, List.getElem_map, List.getElem_range, List.getD_eq_getElem?_getD, List.getElem?_eq_getElem i2]
    rfl
  rw [hen]
  obtain ⟨ρ', h1, z3, z4, h2⟩ := DL.loop_at (g := gSeqD 2 (gsCons (gSet 3) (gsCons (gSet 4) gsNil))) (gb := Fn.pools_of_5f44_b1) (fun i : Nat => D.tup [.int (i : Nat), .int (ps.getD i 0)]) (List.range ps.length)
    (fun i ρ => ∃ (z3 z4 : DL.Slot), ρ = [some (false, .lst (ps.map .int)), some (false, .lst (lists.map lI)), some (true, .rows ((poolsOf (ps.take i) lists).map lI)), z3, z4]) _ ⟨none, none, rfl⟩ (fun i a ρ ha ⟨z3, z4, hρ⟩ => by
      subst hρ
      have hi := DL.at_lt ha
      rw [List.getElem?_eq_getElem hi, List.getElem_range] at ha
      rw [List.length_range] at hi
      cases ha
      have ht : ps.take (i + 1) = ps.take i ++ [ps[i]] := List.take_succ_eq_append_getElem hi
      have hg : ps.getD i 0 = ps[i] := by rw [List.getD_eq_getElem?_getD, List.getElem?_eq_getElem hi]; rfl
      have htl : (ps.take i).length = i := by rw [List.length_take]; omega
      obtain ⟨p1, p2⟩ := take_pt hp i (by omega)
      obtain ⟨p2, p3⟩ := p2 hi
      obtain ⟨s1, s2⟩ := pools_step p1 lists p2 p3
      have hU : U (ps.take i) ≤ i := by
        have := U_le (l := ps.take i) (m := ps.take i) fun x hx => hx
        omega
      have hpl : (poolsOf (ps.take i) lists).length = U (ps.take i) := by unfold poolsOf; rw [List.length_map, List.length_range]
      have hlk := look_lists lists i (by omega)
      rw [hg, ht]
      refine ⟨[some (false, .lst (ps.map .int)), some (false, .lst (lists.map lI)), some (true, .rows ((poolsOf (ps.take i) lists).map lI)), some (false, .int (i : Int)), some (false, .int ps[i])], rfl, ?_⟩
      rw [htl] at s1 s2
      unfold Fn.pools_of_5f44_b1
      walk_at "dl"
      rw [hpl]
      by_cases hc : ps[i] = (U (ps.take i) : Int)
      · rw [decide_eq_true hc]
        walk_at "dl"
        rw [hlk]
        unfold lI
        walk_at "dl"
        rw [DL.rowsApp_ok (by rw [List.length_map]; omega)]
        refine ⟨_, rfl, some (false, .int (i : Int)), some (false, .int ps[i]), ?_⟩
        rw [s1 hc, List.map_append]; rfl
      · rw [decide_eq_false hc]
        walk_at "dl"
        have hlt : ps[i] < (U (ps.take i) : Int) := by omega
        have hjl : ps[i].toNat < (poolsOf (ps.take i) lists).length := by omega
        have hgp : gP (poolsOf (ps.take i) lists) ps[i].toNat = (poolsOf (ps.take i) lists)[ps[i].toNat] := by
          unfold gP
          rw [List.getD_eq_getElem?_getD, List.getElem?_eq_getElem hjl]; rfl
        rw [DL.ixR_at p2 (row_at _ _ hjl), hlk]
        unfold lI
        walk_at "dl"
        rw [DL.callO_own (common_eq _ _ (by have := pools_small hs (ps.take i) _ (List.getElem_mem hjl); omega))]
        walk_at "dl"
        rw [DL.ixN_of p2 (by omega)]
        walk_at "dl"
        refine ⟨_, rfl, some (false, .int (i : Int)), some (false, .int ps[i]), ?_⟩
        rw [s2 hlt, hgp]
        have := set_row (poolsOf (ps.take i) lists) ps[i].toNat ((poolsOf (ps.take i) lists)[ps[i].toNat].filter fun x => decide (x ∈ gP lists i))
        unfold lI at this
        rw [this])
  have h1' : loopD (gSeqD 2 (gsCons (gSet 3) (gsCons (gSet 4) gsNil))) Fn.pools_of_5f44_b1 ((List.range ps.length).map fun i : Nat => D.tup [.int (i : Nat), .int (ps.getD i 0)]) [some (false, .lst (ps.map .int)), some (false, .lst (lists.map lI)), some (true, .rows []), none, none] = .ok (.next ρ') := h1
  rw [h1']
  subst h2
  walk_at "dl"
  rw [List.take_length]
end Po
namespace Lc
open PySem DL Ti Gw
local macro_rules | `(tactic| walk_at "dl") => `(tactic| try simp -implicitDefEqProofs only [DL.sort_ints, DL.sum_ints, DL.in_ints, DL.idx_ok, DL.rev_lst, DL.ap_ins, DL.intB_bl, DL.intB_int, DL.itZipL_lst, DL.ap_nrmS, DL.nrm_nil, DL.nrm_cons, DL.nrm_rows, DL.nrm_lst, DL.isC_rows, DL.len_rows, DL.unR_rows, DL.unR_lst, DL.isi_rows, DL.eq_rows, DL.ap_rowM, DL.rowM_ok, DL.rowM2_ok, DL.rowM3_ok, DL.ap_row0, DL.ap_get2, DL.get2_ok, DL.row0_ok, DL.row02_ok, DL.ap_rowsApp, DL.ap_rowPut, DL.rowPut_ok, DL.rowPut2_ok, DL.ap_consL, DL.consL_ok, DL.mkRows_ap, DL.ap_lcR, DL.maxDef_ints, DL.ap_cnt, DL.cnt_ok, DL.ap_idx, DL.ap_txop, DL.tx_ok, DL.ap_jopS, DL.ap_lc, DL.ap_try, DL.try_ok, DL.try_err, DL.ap_tryAs, DL.tryAs_ok, DL.tryAs_err, DL.gone_next, DL.ap_raise, DL.ap_bodyD, DL.end_err, DL.itRev_lst, DL.itZip_lst, DL.itEnum_lst, DL.min_int, DL.max_int, DL.ap_seq, DL.seq_next, DL.seq_ret, DL.seq_brk, DL.seq_cont, DL.seq_err, DL.ap_skip, DL.ap_brk, DL.ap_cont, DL.ap_stl, DL.settle_nil, DL.settle_cons, DL.settle_t, DL.settle_f, DL.ap_if, DL.ite_t, DL.ite_f, DL.ap_set, DL.ap_setO, DL.set_ok, DL.setO_ok, DL.isC_lst, DL.isC_dK, DL.isC_dT, DL.isC_int, DL.isC_str, DL.isC_bl, DL.isC_non, DL.isC_tup, DL.ap_ret, DL.ap_retO, DL.ret_ok, DL.ap_ret0, DL.ap_unp, DL.unp_ok, DL.unp2_ok, DL.ap_drop, DL.ap_gset, DL.ap_gtup, DL.ap_glst, DL.ap_gnil, DL.ap_gcons, DL.ap_rd, DL.ap_rdE, DL.ap_rdO, DL.rd_ok, DL.rdE_ok, DL.rdO_ok, DL.rdO_f, DL.ap_cst, DL.ap_bop, DL.bd2_ok, DL.ap_uop, DL.ap_nop, DL.ap_anil, DL.ap_acons, DL.cons_ok, DL.add_int, DL.add_str, DL.add_lst, DL.sub_int, DL.rep_lst, DL.neg_int, DL.eq_int, DL.eq_str, DL.eq_bl, DL.eq_non_int, DL.eq_int_non, DL.lt_int, DL.le_int, DL.gt_int, DL.ge_int, DL.isN_ap, DL.isN_non, DL.isN_int, DL.isN_str, DL.isN_bl, DL.ap_rdL, DL.rdL_ok, DL.ap_rdF, DL.rdF_int, DL.is_bl, DL.isN_lst, DL.isN_tup, DL.asB_bl, DL.asI_int, DL.mkLst_ap, DL.mkTup_ap, DL.len_lst, DL.len_tup, DL.len_scr, DL.len_str, DL.len_dK, DL.list_lst, DL.list_tup, DL.list_scr, DL.tuple_lst, DL.flatO_int, DL.flatO_bl, DL.flatO_str, DL.flatO_non, DL.flatO_tup, DL.eNot_bl, DL.isi_int, DL.isi_bl, DL.isi_str, DL.isi_non, DL.isi_lst, DL.isi_tup, DL.isB_int_int, DL.isB_int_bl, DL.isB_int_str, DL.isB_int_non, DL.isB_int_lst, DL.isB_int_tup, DL.isB_bool_int, DL.isB_bool_bl, DL.isB_bool_str, DL.isB_bool_non, DL.isB_bool_lst, DL.isB_bool_tup, DL.isB_list_lst, DL.isB_list_int, DL.isB_list_tup, DL.isB_tuple_tup, DL.isB_tuple_lst, DL.isB_str_str, DL.isB_str_int, DL.ap_tst, DL.ap_bnot, DL.ap_band, DL.ap_bor, DL.and_t, DL.and_f, DL.or_t, DL.or_f, DL.ap_eand, DL.ap_eor, DL.eand_t, DL.eand_f, DL.eor_t, DL.eor_f, DL.ap_eif, DL.eif_t, DL.eif_f, DL.ap_chain, DL.chn0_ok, DL.chn_t, DL.chn_f, DL.ap_slc, DL.slc_ok, DL.ap_pnone, DL.ap_psome, DL.cut_lst, DL.cut_scr, DL.ap_for, DL.loop_ok, DL.ap_loop0, DL.ap_loop1, DL.lp1_ok, DL.lp2_next, DL.lp2_cont, DL.lp2_brk, DL.lp2_ret, DL.ap_itr, DL.ap_irg, DL.itD_lst, DL.itD_tup, DL.itD_scr, DL.itD_str, DL.rng1_ap, DL.rng2_ap, DL.wipe_nil, DL.wipe_cons, DL.ap_app, DL.ap_ext, DL.ap_own0, DL.own0_ok, DL.ap_put, DL.put_ok, DL.put2_ok, DL.end_ret, DL.end_next, DL.args_ap, DL.bd_ok, DL.bd_err, DL.bd_bad, DL.grd_t, DL.grd_f, DL.xorB_f, DL.xorB_t, List.map_cons, List.map_nil, List.length_cons, List.length_nil, List.length_map, List.length_append, List.length_range, List.cons_append, List.nil_append, List.append_nil, List.getElem?_cons_zero, List.getElem?_cons_succ, List.set_cons_zero, List.set_cons_succ, List.replicate_succ, List.replicate_zero, Nat.sub_zero, Nat.sub_self, Nat.add_one_sub_one, Nat.reduceAdd, Nat.reduceSub, Nat.zero_add, Option.bind_some, decide_true, decide_false, Bool.and_true, Bool.true_and, Bool.and_false, Bool.false_and, Bool.not_true, Bool.not_false, Bool.or_true, Bool.or_false, Bool.true_or, Bool.false_or, Bool.false_eq_true, ↓reduceIte, Int.reduceToNat, Int.reducePow, Int.reduceMul, Int.reduceAdd, Int.reduceSub, Int.reduceNeg, Int.reduceLT, Int.reduceLE, Nat.reducePow, Int.reduceMod, Int.reduceDiv, Int.reduceEq, Nat.reduceEqDiff, Int.natAbs_cast, DL.mod_pos, DL.div_pos, DL.dEq_ints, DL.dEq_scr, DL.dEq_scr_nil, DL.dEq_ints_nil, DL.ix_l0, DL.ix_t0, DL.ix_ls, DL.ix_ts, Nat.zero_le, Nat.reduceLeDiff, DL.small_of, DL.inR_small, DL.lt_size, DL.mul_small, DL.pow_ok, DL.app_ok, DL.ite_t])
/-- a comprehension without a test, item by item -/
theorem lc_map {α : Type} {i : Nat} {f : En → R D} {ρ : En} (F G : α → D) (xs : List α) (hl : xs.length ≤ 1000000) (hf : ∀ a ∈ xs, f ((wipeR ρ [i]).set i (some (false, F a))) = .ok (G a)) : lcK (.ok (xs.map F)) [i] (gSet i) tYesD f ρ = .ok (.lst (xs.map G)) := by
  refine DL.lc_is (by rw [List.length_map]; exact hl) ?_
  have := lc_fmap (g := gSet i) (t := tYesD) (f := f) (ρ := wipeR ρ [i]) F G (fun _ => true) xs (fun a ha => lc_one rfl rfl fun _ => hf a ha)
  rw [List.filter_eq_self.mpr (fun _ _ => rfl)] at this
  exact this
theorem lc_some {α β : Type} {i : Nat} {f : En → R D} {ρ : En} (F : α → D) (G : β → D) (P : β → Prop) (xs : List α) (hl : xs.length ≤ 1000000) (hf : ∀ a ∈ xs, ∃ b, f ((wipeR ρ [i]).set i (some (false, F a))) = .ok (G b) ∧ P b) : ∃ bs : List β, bs.length = xs.length ∧ lcK (.ok (xs.map F)) [i] (gSet i) tYesD f ρ = .ok (.lst (bs.map G)) ∧ ∀ b ∈ bs, P b := by
  obtain ⟨bs, h1, h2, h3⟩ := lc_ex (g := gSet i) (t := tYesD) (f := f) (ρ := wipeR ρ [i]) F G P xs (fun a ha => by
    obtain ⟨b, e, hp⟩ := hf a ha
    exact ⟨b, DL.lcS_all rfl e, hp⟩)
  exact ⟨bs, h1, DL.lc_is (by rw [List.length_map]; exact hl) h2, h3⟩
/-- with a test -/
theorem lc_if {α : Type} {i : Nat} {t : En → R Bool} {f : En → R D} {ρ : En} (F G : α → D) (p : α → Bool) (xs : List α) (hl : xs.length ≤ 1000000) (ht : ∀ a ∈ xs, t ((wipeR ρ [i]).set i (some (false, F a))) = .ok (p a)) (hf : ∀ a ∈ xs, p a = true → f ((wipeR ρ [i]).set i (some (false, F a))) = .ok (G a)) : lcK (.ok (xs.map F)) [i] (gSet i) t f ρ = .ok (.lst ((xs.filter p).map G)) := by
  refine DL.lc_is (by rw [List.length_map]; exact hl) ?_
  exact lc_fmap (g := gSet i) (t := t) (f := f) (ρ := wipeR ρ [i]) F G p xs (fun a ha => lc_one rfl (ht a ha) fun h => hf a ha h)
theorem lc_rows {i : Nat} {f : En → R D} {ρ : En} (ls : List (List Int)) (hl : ls.length ≤ 1000000) (hf : ∀ l ∈ ls, f ((wipeR ρ [i]).set i (some (false, .lst (l.map .int)))) = .ok (.lst (l.map .int))) : lcK (.ok (ls.map lI)) [i] (gSet i) tYesD f ρ = .ok (.lst (ls.map lI)) := lc_map lI lI ls hl hf
theorem lcR_map {α : Type} {i : Nat} {f : En → R D} {ρ : En} (F : α → D) (G : α → List D) (xs : List α) (hl : xs.length ≤ 1000000) (hf : ∀ a ∈ xs, f ((wipeR ρ [i]).set i (some (false, F a))) = .ok (.lst (G a))) : lcRK (.ok (xs.map F)) [i] (gSet i) tYesD f ρ = .ok (.rows (xs.map fun a => .lst (G a))) := by
  refine DL.lcR_is (by rw [List.length_map]; exact hl) ?_ (fun z hz => ?_)
  · have := lc_fmap (g := gSet i) (t := tYesD) (f := f) (ρ := wipeR ρ [i]) F (fun a => .lst (G a)) (fun _ => true) xs (fun a ha => lc_one rfl rfl fun _ => hf a ha)
    rw [List.filter_eq_self.mpr (fun _ _ => rfl)] at this
    exact this
  · obtain ⟨a, _, rfl⟩ := List.mem_map.mp hz
    exact ⟨_, rfl⟩
end Lc
namespace Lk12
open PySem DL Ti Di Sh Ce De Gw Pt Po Lc
local macro_rules | `(tactic| walk_at "dl") => `(tactic| try simp -implicitDefEqProofs only [DL.sort_ints, DL.sum_ints, DL.in_ints, DL.idx_ok, DL.rev_lst, DL.ap_ins, DL.intB_bl, DL.intB_int, DL.itZipL_lst, DL.ap_nrmS, DL.nrm_nil, DL.nrm_cons, DL.nrm_rows, DL.nrm_lst, DL.isC_rows, DL.len_rows, DL.unR_rows, DL.unR_lst, DL.isi_rows, DL.eq_rows, DL.ap_rowM, DL.rowM_ok, DL.rowM2_ok, DL.rowM3_ok, DL.ap_row0, DL.ap_get2, DL.get2_ok, DL.row0_ok, DL.row02_ok, DL.ap_rowsApp, DL.ap_rowPut, DL.rowPut_ok, DL.rowPut2_ok, DL.ap_consL, DL.consL_ok, DL.mkRows_ap, DL.ap_lcR, DL.maxDef_ints, DL.ap_cnt, DL.cnt_ok, DL.ap_idx, DL.ap_txop, DL.tx_ok, DL.ap_jopS, DL.ap_lc, DL.ap_try, DL.try_ok, DL.try_err, DL.ap_tryAs, DL.tryAs_ok, DL.tryAs_err, DL.gone_next, DL.ap_raise, DL.ap_bodyD, DL.end_err, DL.itRev_lst, DL.itZip_lst, DL.itEnum_lst, DL.min_int, DL.max_int, DL.ap_seq, DL.seq_next, DL.seq_ret, DL.seq_brk, DL.seq_cont, DL.seq_err, DL.ap_skip, DL.ap_brk, DL.ap_cont, DL.ap_stl, DL.settle_nil, DL.settle_cons, DL.settle_t, DL.settle_f, DL.ap_if, DL.ite_t, DL.ite_f, DL.ap_set, DL.ap_setO, DL.set_ok, DL.setO_ok, DL.isC_lst, DL.isC_dK, DL.isC_dT, DL.isC_int, DL.isC_str, DL.isC_bl, DL.isC_non, DL.isC_tup, DL.ap_ret, DL.ap_retO, DL.ret_ok, DL.ap_ret0, DL.ap_unp, DL.unp_ok, DL.unp2_ok, DL.ap_drop, DL.ap_gset, DL.ap_gtup, DL.ap_glst, DL.ap_gnil, DL.ap_gcons, DL.ap_rd, DL.ap_rdE, DL.ap_rdO, DL.rd_ok, DL.rdE_ok, DL.rdO_ok, DL.rdO_f, DL.ap_cst, DL.ap_bop, DL.bd2_ok, DL.ap_uop, DL.ap_nop, DL.ap_anil, DL.ap_acons, DL.cons_ok, DL.add_int, DL.add_str, DL.add_lst, DL.sub_int, DL.rep_lst, DL.neg_int, DL.eq_int, DL.eq_str, DL.eq_bl, DL.eq_non_int, DL.eq_int_non, DL.lt_int, DL.le_int, DL.gt_int, DL.ge_int, DL.isN_ap, DL.isN_non, DL.isN_int, DL.isN_str, DL.isN_bl, DL.ap_rdL, DL.rdL_ok, DL.ap_rdF, DL.rdF_int, DL.is_bl, DL.isN_lst, DL.isN_tup, DL.asB_bl, DL.asI_int, DL.mkLst_ap, DL.mkTup_ap, DL.len_lst, DL.len_tup, DL.len_scr, DL.len_str, DL.len_dK, DL.list_lst, DL.list_tup, DL.list_scr, DL.tuple_lst, DL.flatO_int, DL.flatO_bl, DL.flatO_str, DL.flatO_non, DL.flatO_tup, DL.eNot_bl, DL.isi_int, DL.isi_bl, DL.isi_str, DL.isi_non, DL.isi_lst, DL.isi_tup, DL.isB_int_int, DL.isB_int_bl, DL.isB_int_str, DL.isB_int_non, DL.isB_int_lst, DL.isB_int_tup, DL.isB_bool_int, DL.isB_bool_bl, DL.isB_bool_str, DL.isB_bool_non, DL.isB_bool_lst, DL.isB_bool_tup, DL.isB_list_lst, DL.isB_list_int, DL.isB_list_tup, DL.isB_tuple_tup, DL.isB_tuple_lst, DL.isB_str_str, DL.isB_str_int, DL.ap_tst, DL.ap_bnot, DL.ap_band, DL.ap_bor, DL.and_t, DL.and_f, DL.or_t, DL.or_f, DL.ap_eand, DL.ap_eor, DL.eand_t, DL.eand_f, DL.eor_t, DL.eor_f, DL.ap_eif, DL.eif_t, DL.eif_f, DL.ap_chain, DL.chn0_ok, DL.chn_t, DL.chn_f, DL.ap_slc, DL.slc_ok, DL.ap_pnone, DL.ap_psome, DL.cut_lst, DL.cut_scr, DL.ap_for, DL.loop_ok, DL.ap_loop0, DL.ap_loop1, DL.lp1_ok, DL.lp2_next, DL.lp2_cont, DL.lp2_brk, DL.lp2_ret, DL.ap_itr, DL.ap_irg, DL.itD_lst, DL.itD_tup, DL.itD_scr, DL.itD_str, DL.rng1_ap, DL.rng2_ap, DL.wipe_nil, DL.wipe_cons, DL.ap_app, DL.ap_ext, DL.ap_own0, DL.own0_ok, DL.ap_put, DL.put_ok, DL.put2_ok, DL.end_ret, DL.end_next, DL.args_ap, DL.bd_ok, DL.bd_err, DL.bd_bad, DL.grd_t, DL.grd_f, DL.xorB_f, DL.xorB_t, List.map_cons, List.map_nil, List.length_cons, List.length_nil, List.length_map, List.length_append, List.length_range, List.cons_append, List.nil_append, List.append_nil, List.getElem?_cons_zero, List.getElem?_cons_succ, List.set_cons_zero, List.set_cons_succ, List.replicate_succ, List.replicate_zero, Nat.sub_zero, Nat.sub_self, Nat.add_one_sub_one, Nat.reduceAdd, Nat.reduceSub, Nat.zero_add, Option.bind_some, decide_true, decide_false, Bool.and_true, Bool.true_and, Bool.and_false, Bool.false_and, Bool.not_true, Bool.not_false, Bool.or_true, Bool.or_false, Bool.true_or, Bool.false_or, Bool.false_eq_true, ↓reduceIte, Int.reduceToNat, Int.reducePow, Int.reduceMul, Int.reduceAdd, Int.reduceSub, Int.reduceNeg, Int.reduceLT, Int.reduceLE, Nat.reducePow, Int.reduceMod, Int.reduceDiv, Int.reduceEq, Nat.reduceEqDiff, Int.natAbs_cast, DL.mod_pos, DL.div_pos, DL.dEq_ints, DL.dEq_scr, DL.dEq_scr_nil, DL.dEq_ints_nil, DL.ix_l0, DL.ix_t0, DL.ix_ls, DL.ix_ts, Nat.zero_le, Nat.reduceLeDiff, DL.small_of, DL.inR_small, DL.lt_size, DL.mul_small, DL.pow_ok, DL.app_ok, DL.ite_t])
/-- all patterns of so many steps -/
def shL : Nat → List (List Int)
  | 0 => [[]]
  | i + 1 => (shL i).flatMap grownL
def ckP : Int → List Int → Bool
  | _, [] => true
  | w, k :: ks => decide (0 ≤ k) && (decide (k ≤ w) && ckP (if k = w then w + 1 else w) ks)
def lens : List Nat := [1, 1, 2, 5, 15, 52, 203]
def incr : List (List Int) → Bool
  | a :: b :: l => decide (a < b) && incr (b :: l)
  | _ => true
theorem facts : ∀ n, n < 7 → (shL n).length = lens.getD n 0 ∧ (∀ p ∈ shL n, p.length = n ∧ ckP 0 p = true ∧ 0 ≤ W p ∧ W p ≤ 6) ∧ incr (shL n) = true := by
  decide +kernel
theorem incr_at : ∀ {l : List (List Int)}, incr l = true → ∀ k (h : k + 1 < l.length), l[k]'(by omega) < l[k + 1]
  | a :: b :: l, h, 0, _ => by
    unfold incr at h
    exact of_decide_eq_true (Bool.and_eq_true_iff.mp h).1
  | a :: b :: l, h, k + 1, hk => by
    unfold incr at h
    exact incr_at (Bool.and_eq_true_iff.mp h).2 k (by simpa using hk)
  | [a], _, k, hk => by simp at hk
  | [], _, k, hk => by simp at hk
theorem incr_pw : ∀ {l : List (List Int)}, incr l = true → l.Pairwise (· < ·)
  | [], _ => .nil
  | [a], _ => List.pairwise_singleton _ _
  | a :: b :: l, h => by
    unfold incr at h
    rw [Bool.and_eq_true] at h
    have ih := incr_pw h.2
    refine List.pairwise_cons.mpr ⟨fun x hx => ?_, ih⟩
    have h1 := of_decide_eq_true h.1
    rcases List.mem_cons.mp hx with rfl | hx
    · exact h1
    · exact List.lt_trans h1 ((List.pairwise_cons.mp ih).1 x hx)
theorem shapes_eq (n : Nat) (hn : n < 7) : ∃ o, Fn.shapes_7a1b [.int n] = .ok (o, .lst ((shL n).map lI)) := by
  unfold Fn.shapes_7a1b; rw [DL.ap_body (by rfl)]; unfold Fn.shapes_7a1b_g
  walk_at "dl"
  rw [DL.inR_small (by omega) (by omega)]
  walk_at "dl"
  rw [show (fun (i : Nat) => D.int (0 + (i : Int))) = kI by funext i; unfold kI; rw [Int.zero_add], Int.toNat_natCast]
  have hlen : ∀ i, i < 7 → (shL i).length ≤ 203 := fun i hi => by
    rw [(facts i hi).1]
    rcases (by omega : i = 0 ∨ i = 1 ∨ i = 2 ∨ i = 3 ∨ i = 4 ∨ i = 5 ∨ i = 6) with h | h | h | h | h | h | h <;> subst h <;> decide
  obtain ⟨ρ', e, z2, z3, z4, rfl⟩ := DL.loop_at (g := gSet 2) (gb := Fn.shapes_7a1b_b2) kI (List.range n) (fun i ρ => ∃ z2 z3 z4 : DL.Slot, ρ = [some (false, .int n), some (false, .lst ((shL i).map lI)), z2, z3, z4])
    [some (false, .int n), some (false, .lst [.lst []]), none, none, none] ⟨_, _, _, rfl⟩ (fun i a ρ ha ⟨z2, z3, z4, hρ⟩ => by
    subst hρ
    have hi := DL.at_lt ha
    rw [List.length_range] at hi
    refine ⟨_, rfl, ?_⟩
    unfold Fn.shapes_7a1b_b2
    walk_at "dl"
    have hpre : ∀ k, k ≤ (shL i).length → (((shL i).take k).flatMap grownL).length ≤ 203 := fun k hk => by
      have h1 : (((shL i).take k).flatMap grownL).length ≤ ((shL i).flatMap grownL).length := by
        conv => rhs; rw [← List.take_append_drop k (shL i), List.flatMap_append, List.length_append]
        omega
      exact Nat.le_trans h1 (hlen (i + 1) (by omega))
    obtain ⟨ρ', e, z4, rfl⟩ := DL.loop_at (g := gSet 4) (gb := Fn.shapes_7a1b_b1) lI (shL i) (fun k ρ => ∃ z4 : DL.Slot, ρ = [some (false, .int n), some (false, .lst ((shL i).map lI)), some (false, kI a), some (true, .lst ((((shL i).take k).flatMap grownL).map lI)), z4])
      [some (false, .int n), some (false, .lst ((shL i).map lI)), some (false, kI a), some (true, .lst []), z4] ⟨_, rfl⟩ (fun k p ρ hp ⟨z4, hρ⟩ => by
      subst hρ
      have hk := DL.at_lt hp
      have hpm : p ∈ shL i := List.mem_of_getElem? hp
      obtain ⟨f1, f2, f3, f4⟩ := (facts i (by omega)).2.1 p hpm
      obtain ⟨o, eg⟩ := grown_eq p (by omega) f3 (by omega)
      refine ⟨_, rfl, ?_⟩
      have htk : (shL i).take (k + 1) = (shL i).take k ++ [p] := by rw [List.take_add_one, hp]; rfl
      have h1 := hpre (k + 1) (by omega)
      rw [htk, List.flatMap_append, List.length_append] at h1
      rw [htk, List.flatMap_append]
      unfold Fn.shapes_7a1b_b1
      rw [show lI p = .lst (p.map .int) from rfl]
      walk_at "dl"
      rw [DL.callE_of eg]
      rw [DL.ext_ok (by
        rw [List.length_map, List.length_map]
        have : ([p].flatMap grownL) = grownL p := by simp
        rw [this] at h1
        omega)]
      refine ⟨_, rfl, some (false, .lst (p.map .int)), ?_⟩
      have : ([p].flatMap grownL) = grownL p := by simp
      rw [this, List.map_append]
      rfl)
    rw [e, List.take_length]
    walk_at "dl"
    exact ⟨_, rfl, _, _, _, rfl⟩)
  rw [List.length_range]at e
  rw [e]
  walk_at "dl"
  exact ⟨_, rfl⟩
theorem mem_sh : ∀ (n : Nat) (ps : List Int), IsP ps → ps.length = n → ps ∈ shL n
  | 0, ps, _, h => by rw [List.eq_nil_of_length_eq_zero h]; exact List.mem_singleton_self _
  | n + 1, ps, hp, h => by
    obtain ⟨p1, p2⟩ := take_pt hp n (by omega)
    obtain ⟨p2, p3⟩ := p2 (by omega)
    have e : ps = ps.take n ++ [ps[n]'(by omega)] := by
      rw [← List.take_succ_eq_append_getElem (by omega), List.take_of_length_le (by omega)]
    have ih := mem_sh n (ps.take n) p1 (by rw [List.length_take]; omega)
    refine List.mem_flatMap.mpr ⟨_, ih, ?_⟩
    unfold grownL
    rw [pt_W p1]
    refine List.mem_map.mpr ⟨(ps[n]'(by omega)).toNat, List.mem_range.mpr (by omega), ?_⟩
    conv => rhs; rw [e]
    rw [show (((ps[n]'(by omega)).toNat : Nat) : Int) = ps[n]'(by omega) by omega]
theorem whole_eq (k : Int) : ∃ o, Fn.law_whole_9e39 [.int k] = .ok (o, .bl true) := by
  unfold Fn.law_whole_9e39; rw [DL.ap_body (by rfl)]; unfold Fn.law_whole_9e39_g
  walk_at "dl"
  exact ⟨_, rfl⟩
theorem isp_eq (p : List Int) (n : Nat) (hl : p.length = n) (hc : ckP 0 p = true) : ∃ o, Fn.law_is_pattern_d0e5 [.lst (p.map .int), .int n] = .ok (o, .bl true) := by
  unfold Fn.law_is_pattern_d0e5; rw [DL.ap_body (by rfl)]; unfold Fn.law_is_pattern_d0e5_g
  walk_at "dl"
  rw [decide_eq_true (show (p.length : Int) = n by omega)]
  walk_at "dl"
  have go : ∀ (q : List Int) (w : Int) (z3 : DL.Slot), ckP w q = true → ∃ (w' : Int) (z3' : DL.Slot), loopD (gSet 3) Fn.law_is_pattern_d0e5_b1 (q.map .int) [some (false, .lst (p.map .int)), some (false, .int n), some (false, .int w), z3] = .ok (.next [some (false, .lst (p.map .int)), some (false, .int n), some (false, .int w'), z3']) := fun q => by
    induction q with
    | nil => exact fun w z3 _ => ⟨w, z3, rfl⟩
    | cons k q ih =>
      intro w z3 h
      unfold ckP at h
      rw [Bool.and_eq_true, Bool.and_eq_true] at h
      have h1 := of_decide_eq_true h.1
      have h2 := of_decide_eq_true h.2.1
      obtain ⟨o, ew⟩ := whole_eq k
      rw [List.map_cons]
      unfold loopD
      have hb : ∃ ρ1, gSet 3 (D.int k) [some (false, .lst (p.map .int)), some (false, .int n), some (false, .int w), z3] = some ρ1 ∧ Fn.law_is_pattern_d0e5_b1 ρ1 = .ok (.next [some (false, .lst (p.map .int)), some (false, .int n), some (false, .int (if k = w then w + 1 else w)), some (false, .int k)]) := by
        refine ⟨_, rfl, ?_⟩
        unfold Fn.law_is_pattern_d0e5_b1
        walk_at "dl"
        rw [DL.callO_flat ew rfl]
        walk_at "dl"
        rw [decide_eq_false (show ¬ k < 0 by omega)]
        walk_at "dl"
        rw [decide_eq_false (show ¬ w < k by omega)]
        walk_at "dl"
        by_cases hk : k = w
        · rw [decide_eq_true hk, if_pos hk]
          walk_at "dl"
        · rw [decide_eq_false hk, if_neg hk]
          walk_at "dl"
      obtain ⟨ρ1, b1, b2⟩ := hb
      rw [b1]
      dsimp only
      rw [b2]
      exact ih _ _ h.2.2
  obtain ⟨w', z3', e⟩ := go p 0 none hc
  rw [e]
  walk_at "dl"
  exact ⟨_, rfl⟩
theorem NB_lists (ls : List (List Int)) : NB 2 (.lst (ls.map lI)) := .lst fun d hd => by
  obtain ⟨l, _, rfl⟩ := List.mem_map.mp hd
  exact NB.ints l
theorem law_true : ∀ ns : List Int, ns.length ≤ 63 → ∃ o, Fn.law_f159 [.scr ns] = .ok (o, .bl true) := by
  intro ns hl
  unfold Fn.law_f159; rw [DL.ap_body (by rfl)]; unfold Fn.law_f159_g
  walk_at "dl"
  obtain ⟨o0, e0⟩ := cell_eq ns 0 (by omega) (by omega)
  rw [DL.callE_of e0]
  walk_at "dl"
  obtain ⟨n, hn⟩ : ∃ n : Nat, cellOf ns 0 % 7 = (n : Int) := ⟨(cellOf ns 0 % 7).toNat, by omega⟩
  have hn7 : n < 7 := by omega
  rw [hn]
  obtain ⟨o1, e1⟩ := shapes_eq n hn7
  obtain ⟨f1, f2, f3⟩ := facts n hn7
  have hdat : dat1 (.lst ((shL n).map lI)) = true := by
    have h1 : ∀ l : List Int, dats (l.map .int) = true := fun l => by
      induction l with
      | nil => rfl
      | cons a l ih => exact ih
    show dats ((shL n).map lI) = true
    generalize shL n = L
    induction L with
    | nil => rfl
    | cons a L ih =>
      show (dats (a.map .int) && dats (L.map lI)) = true
      rw [h1, ih]; rfl
  rw [DL.callDE_of e1 rfl hdat, DL.box_own rfl]
  walk_at "dl"
  rw [DL.isC_deep]
  walk_at "dl"
  rw [DL.lendT_at (d := .lst ((shL n).map lI)) rfl hdat]
  walk_at "dl"
  have hll : (shL n).length ≤ 203 ∧ 1 ≤ (shL n).length ∧ dIxA (D.lst [D.int 1, D.int 1, D.int 2, D.int 5, D.int 15, D.int 52, D.int 203]) (D.int (n : Int)) = .ok (.int ((shL n).length : Nat)) := by
    rw [f1]
    rcases (by omega : n = 0 ∨ n = 1 ∨ n = 2 ∨ n = 3 ∨ n = 4 ∨ n = 5 ∨ n = 6) with h | h | h | h | h | h | h <;> subst h <;> exact ⟨by decide, by decide, rfl⟩
  obtain ⟨hl1, hl2, hix⟩ := hll
  rw [hix]
  walk_at "dl"
  have hmem := f2
  have hpw := incr_at f3
  have hnd : (shL n).Nodup := (incr_pw f3).imp fun h e => by rw [e] at h; exact List.lt_irrefl _ h
  have hmi := mem_sh n
  generalize hL : shL n = L at e1 hdat hl1 hl2 hmem hpw hnd hmi ⊢
  rw [DL.lendF_at (d := .lst (L.map lI)) (d0 := .int (L.length : Nat)) rfl hdat (by walk_at "dl") rfl]
  walk_at "dl"
  rw [DL.inR_small (by omega) (by omega)]
  walk_at "dl"
  rw [show (fun (i : Nat) => D.int (0 + (i : Int))) = kI by funext i; unfold kI; rw [Int.zero_add], Int.toNat_natCast]
  have hrow : ∀ k (h : k < L.length), dIxA (.lst (L.map lI)) (.int (k : Int)) = .ok (.lst (L[k].map .int)) := fun k h => DL.ixA_lst (by omega) (by rw [Int.toNat_natCast, List.getElem?_map, List.getElem?_eq_getElem h]; rfl)
  obtain ⟨ρ', e, z3, rfl⟩ := DL.loop_at (g := gSet 3) (gb := Fn.law_f159_b1) kI (List.range L.length) (fun i ρ => ∃ z3 : DL.Slot, ρ = [some (false, .scr ns), some (false, .int n), some (true, .deep (.lst (L.map lI))), z3, none, none, none, none])
    [some (false, .scr ns), some (false, .int n), some (true, .deep (.lst (L.map lI))), none, none, none, none, none] ⟨_, rfl⟩ (fun i a ρ ha ⟨z3, hρ⟩ => by
    subst hρ
    have hi := DL.at_lt ha
    rw [List.length_range] at hi
    rw [List.getElem?_range hi] at ha
    cases ha
    refine ⟨_, rfl, ?_⟩
    obtain ⟨m1, m2, _, _⟩ := hmem L[i] (List.getElem_mem hi)
    obtain ⟨o, ep⟩ := isp_eq L[i] n m1 m2
    unfold Fn.law_f159_b1
    rw [show kI i = .int (i : Int) from rfl]
    walk_at "dl"
    rw [DL.lendT_at (d := .lst (L.map lI)) rfl hdat]
    walk_at "dl"
    rw [hrow i hi]
    walk_at "dl"
    rw [DL.callO_flat ep rfl]
    walk_at "dl"
    rw [DL.lendT_at (d := .lst (L.map lI)) rfl hdat]
    walk_at "dl"
    by_cases h0 : (0 : Int) < i
    · rw [decide_eq_true h0]
      walk_at "dl"
      rw [hrow i hi, show (i : Int) - 1 = ((i - 1 : Nat) : Int) by omega, hrow (i - 1) (by omega)]
      walk_at "dl"
      have hlt := hpw (i - 1) (by omega)
      rw [DL.ltX_ints, decide_eq_true (show L[i - 1] < L[i] by
        have e : i - 1 + 1 = i := by omega
        simp only [e] at hlt
        exact hlt)]
      walk_at "dl"
      exact ⟨_, rfl, _, rfl⟩
    · rw [decide_eq_false h0]
      walk_at "dl"
      exact ⟨_, rfl, _, rfl⟩)
  rw [e]
  walk_at "dl"
  have hrt : (L.map lI).all rowT = true := by
    rw [List.all_map, List.all_eq_true]
    intro l _
    show tOs (l.map .int) = true
    exact (by
      have : ∀ l : List Int, tOs (l.map .int) = true := fun l => by
        induction l with
        | nil => rfl
        | cons a l ih => exact ih
      exact this l)
  have hz : sizeLine = 16777216 := rfl
  rw [DL.lcVO_at (rs := L.map lI) (zs := L.map lI) rfl hrt (by rw [List.length_map]; omega) (DL.lcVGo_map lI lI L fun l _ => by
    unfold Fn.law_f159_e2 lI
    walk_at "dl")]
  walk_at "dl"
  have key := DL.while_ind (t := Fn.law_f159_t4) (gb := Fn.law_f159_b3) (W := fun r => ∃ z5 z6 : DL.Slot, r = .ok (.next [some (false, .scr ns), some (false, .int n), some (true, .deep (.lst (L.map lI))), z3, some (false, .lst (L.map lI)), z5, z6, none]))
    (fun ρ => ∃ (at_ : Nat) (z6 : DL.Slot), ρ = [some (false, .scr ns), some (false, .int n), some (true, .deep (.lst (L.map lI))), z3, some (false, .lst (L.map lI)), some (false, .int (at_ : Int)), z6, none])
    (fun ρ => match ρ with | [_, _, _, _, _, some (_, .int k), _, _] => ns.length - k.toNat | _ => 0) (fun ρ ⟨at_, z6, hρ⟩ => by
      subst hρ
      by_cases hlt : (at_ : Int) < ns.length
      · refine .inr ⟨?_, .inl ?_⟩
        · unfold Fn.law_f159_t4
          walk_at "dl"
          rw [DL.ltX_int, decide_eq_true hlt]
          walk_at "dl"
        · have hcs : ∃ cs : List Int, cs.length = n ∧ ((cutD ns (some (at_ : Int)) (some ((at_ : Int) + n))).map D.int ++ (List.replicate n [D.int 0]).flatten).take n = cs.map D.int := by
            refine ⟨(cutD ns (some (at_ : Int)) (some ((at_ : Int) + n)) ++ List.replicate n 0).take n, by rw [List.length_take, List.length_append, List.length_replicate]; omega, ?_⟩
            rw [List.map_take, List.map_append, List.flatten_replicate_singleton, List.map_replicate]
          obtain ⟨cs, hcl, hcs⟩ := hcs
          obtain ⟨ps, hpl, hp, epn⟩ := pattern_pt cs (by omega)
          have hcnt : L.count ps = 1 := by rw [hnd.count, if_pos (hmi ps hp (by omega))]
          have hcut : (cutD ns (some (at_ : Int)) (some ((at_ : Int) + n))).length ≤ 63 := by
            rw [DL.cut_mid (by omega) (by omega), List.length_take, List.length_drop]
            omega
          unfold Fn.law_f159_b3
          walk_at "dl"
          rw [decide_eq_true (show (-9223372036854775808 : Int) ≤ (n : Int) by omega), decide_eq_true (show (n : Int) < 9223372036854775808 by omega), DL.small_of (by omega)]
          walk_at "dl"
          rw [Int.toNat_natCast]
          rw [DL.small_of (by rw [List.flatten_replicate_singleton, List.length_replicate]; omega)]
          walk_at "dl"
          rw [DL.cut_to (by omega), Int.toNat_natCast, hcs]
          walk_at "dl"
          rw [DL.lendT_at (d := .lst (L.map lI)) rfl hdat]
          walk_at "dl"
          rw [DL.callE_of epn]
          walk_at "dl"
          have hcl2 := count_lI L ps
          rw [hcnt] at hcl2
          have hcl2 : dCount (.lst (L.map lI)) (.lst (ps.map .int)) = .ok (.int ((1 : Nat) : Int)) := hcl2
          rw [hcl2]
          walk_at "dl"
          rw [show decide (((1 : Nat) : Int) = 1) = true from rfl]
          walk_at "dl"
          have hmx : ∃ m : Nat, (if (n : Int) > 1 then (n : Int) else 1) = (m : Int) ∧ 1 ≤ m := by
            split
            · exact ⟨n, rfl, by omega⟩
            · exact ⟨1, rfl, by omega⟩
          obtain ⟨m, hm, hm1⟩ := hmx
          rw [hm]
          refine ⟨_, .inl rfl, ⟨at_ + m, _, rfl⟩, ?_⟩
          show ns.length - ((at_ : Int) + (m : Int)).toNat < ns.length - ((at_ : Int)).toNat
          omega
      · refine .inl ⟨?_, _, _, rfl⟩
        unfold Fn.law_f159_t4
        walk_at "dl"
        rw [DL.ltX_int, decide_eq_false hlt]
        rfl)
    FU [some (false, .scr ns), some (false, .int n), some (true, .deep (.lst (L.map lI))), z3, some (false, .lst (L.map lI)), some (false, .int 1), none, none] ⟨1, none, rfl⟩ (by
      rw [DL.FU_eq]
      show ns.length - (1 : Int).toNat < 1000000
      omega)
  obtain ⟨z5, z6, e⟩ := key
  rw [e]
  walk_at "dl"
  rw [DL.sPApp_at (d := .lst (L.map lI)) (d0 := lI (L[0]'(by omega))) (n := (L[0]'(by omega)).length) (z := .int 0) rfl (by
    show (L.map lI)[0]? = _
    rw [List.getElem?_map, List.getElem?_eq_getElem (by omega)]; rfl) (congrArg some (List.length_map _)) (by
    have := (hmem (L[0]'(by omega)) (List.getElem_mem _)).1
    omega) rfl]
  walk_at "dl"
  rw [show jkD (jkB (D.lst (L.map lI)) + 1) (D.lst (L.map lI)) = .junk ((L.map lI).length + 1) from rfl]
  rw [DL.sPApp_at (d := .junk ((L.map lI).length + 1)) (d0 := .junk ((L.map lI).length + 1)) (n := (L.map lI).length + 1) (z := .lst [.int 0]) rfl rfl rfl (by
    rw [List.length_map]; omega) rfl]
  walk_at "dl"
  rw [DL.callE_of e1]
  walk_at "dl"
  rw [De.eq_self (n := 2) (NB_lists L) (by omega)]
  walk_at "dl"
  exact ⟨_, rfl⟩
end Lk12
open PySem PySem.W PyProof.Rows
set_option maxHeartbeats 0 in
theorem PySem.Challenge.cw_deskround_k12_all_shapes_holds : PySem.Challenge.rw_deskround_k12_all_shapes.Holds := by
  w_on; o_law; k_head; (case hw => w_witness2)
  k_fill
  refine L2.walk_of (l := PySem.Challenge.rw_deskround_k12_all_shapes) (n := 63) (k := 4) (x := "script") (CX := fun _ => L2.CX0) (sp := fun w => DL.spLaw _) rfl (by decide) rfl ⟨rfl, by decide, by decide⟩ (fun w h Y => PySem.W.kIn_of Y) ?F (fun _ _ a ns hl _ hS => ⟨a, ns, rfl, hS, hl, fun _ => rfl⟩) (fun _ _ _ _ _ h => h)
  case F =>
    intro w mg fa h KX G hmg
    refine' Lk12.all_mk Lk12.law_true KX G hmg ?a_width ?l_width ?c_width ?k_width ?a__law_cell ?l__law_cell ?c__law_cell ?k__law_cell ?a__law_whole ?l__law_whole ?c__law_whole ?k__law_whole ?a__law_pattern ?l__law_pattern ?c__law_pattern ?k__law_pattern ?a_grown ?l_grown ?c_grown ?k_grown ?a__law_is_pattern ?l__law_is_pattern ?c__law_is_pattern ?k__law_is_pattern ?a_shapes ?l_shapes ?c_shapes ?k_shapes ?a_law ?l_law ?c_law ?k_law ?z_bool ?z_int ?z_isinstance ?z_len ?z_list ?z_max ?z_range
    (case a_width => k_is); (case l_width => k_is); (case c_width => k_is); (case k_width => k_is); (case a__law_cell => k_is); (case l__law_cell => k_is); (case c__law_cell => k_is); (case k__law_cell => k_is); (case a__law_whole => k_is); (case l__law_whole => k_is); (case c__law_whole => k_is); (case k__law_whole => k_is); (case a__law_pattern => k_is); (case l__law_pattern => k_is); (case c__law_pattern => k_is); (case k__law_pattern => k_is); (case a_grown => k_is); (case l_grown => k_is); (case c_grown => k_is); (case k_grown => k_is); (case a__law_is_pattern => k_is); (case l__law_is_pattern => k_is); (case c__law_is_pattern => k_is); (case k__law_is_pattern => k_is); (case a_shapes => k_is); (case l_shapes => k_is); (case c_shapes => k_is); (case k_shapes => k_is); (case a_law => k_is); (case l_law => k_is); (case c_law => k_is); (case k_law => k_is); (case z_bool => k_is); (case z_int => k_is); (case z_isinstance => k_is); (case z_len => k_is); (case z_list => k_is); (case z_max => k_is); (case z_range => k_is)
